import PyProof.Rows.All
import Wide.All
import OpenK.AllK
import Wide.FinOn
import HandS.ForMost
import HandS.Star
import HandS.IsInst
import HandS.TupAny
import HandS.TupMul
import HandS.TupLe
import HandS.Wide
import HandS.WideBits
import HandS.Deep
import HandS.Defaults
import HandS.Gcd
import HandS.SortRule
import HandS.SortInts
import HandS.TupLen
import HandS.Conv
import HandS.More
import HandS.HeadHook2
import HandS.Head2
import HandS.HeadEnd
import HandS.HeadHook4
import HandS.Head3
import PySem.Challenge.RW_ringtones_k51_row_form_counts
set_option Elab.async false
set_option linter.all false
set_option maxRecDepth 100000
set_option autoImplicit false
set_option maxHeartbeats 4000000
set_option linter.all false
set_option autoImplicit false
namespace Rt

/-- a value of the program: no addresses in it; a dict says whether its keys are tuples -/
inductive P where
  | non | bl (b : Bool) | int (i : Int) | str (s : List Nat)
  | tup (xs : List P) | lst (xs : List P) | dic (t : Bool) (kvs : List (P × P)) | set (xs : List P)
  deriving Inhabited, Repr

/-- a list or dict that may be changed; one that is read alone from now on -/
inductive Cell where
  | l (xs : List P) | f (xs : List P) | d (t : Bool) (kvs : List (P × P)) | df (t : Bool) (kvs : List (P × P))
  deriving Inhabited, Repr
abbrev Sto := List Cell
/-- what a slot holds: a value, or the place of a cell -/
inductive A where
  | v (p : P) | r (n : Nat)
  deriving Inhabited, Repr
abbrev En := List (Option A)
inductive R (α : Type) where
  | ok (a : α) (st : Sto) | ex (c : Nat) (p : P) (st : Sto) | no
  deriving Inhabited
abbrev M (α : Type) := Sto → R α

section
variable {α β : Type}
def ret (a : α) : M α := fun st => .ok a st
def bind (m : M α) (k : α → M β) : M β := fun st => match m st with
  | .ok a st' => k a st'
  | .ex c p st' => .ex c p st'
  | .no => .no
def no : M α := fun _ => .no
def opt : Option α → M α
  | some a => ret a
  | none => no
end

def get : En → Nat → Option A
  | [], _ => none
  | a :: _, 0 => a
  | _ :: r, n + 1 => get r n
def put : En → Nat → Option A → En
  | [], _, _ => []
  | _ :: r, 0, a => a :: r
  | b :: r, n + 1, a => b :: put r n a
def wipe (e : En) : List Nat → En
  | [] => e
  | v :: vs => put (wipe e vs) v none

/-! ### equality, order -/
def allP (q : P → Bool) : List P → Bool
  | [] => true
  | x :: r => q x && allP q r
def anyP (q : P → Bool) : List P → Bool
  | [] => false
  | x :: r => q x || anyP q r
def eqL (e : P → P → Bool) : List P → List P → Bool
  | [], [] => true
  | x :: xs, y :: ys => e x y && eqL e xs ys
  | _, _ => false
def natsEq : List Nat → List Nat → Bool
  | [], [] => true
  | x :: xs, y :: ys => Nat.beq x y && natsEq xs ys
  | _, _ => false
def eqN : Nat → P → P → Bool
  | 0, _, _ => false
  | n + 1, p, q => match p, q with
    | .non, .non => true
    | .bl a, .bl b => a == b
    | .bl a, .int j => (if a then 1 else 0) == j
    | .int i, .bl b => i == (if b then 1 else 0)
    | .int i, .int j => i == j
    | .str x, .str y => natsEq x y
    | .tup xs, .tup ys => eqL (eqN n) xs ys
    | .lst xs, .lst ys => eqL (eqN n) xs ys
    | _, _ => false
/-- plain data, not deeper than n -/
def dataN : Nat → P → Bool
  | 0, _ => false
  | n + 1, p => match p with
    | .non | .bl _ | .int _ => true
    | .str x => x.all (fun c => Nat.blt c 1114112)
    | .tup xs | .lst xs => allP (dataN n) xs
    | _ => false
def deep : Nat := 60
def isData (p : P) : Bool := dataN deep p
def eqP (p q : P) : Option Bool := match p, q with
  | .int i, .int j => some (i == j)
  | _, _ => if isData p && isData q then some (eqN (deep) p q) else none

def natsLt : List Nat → List Nat → Bool
  | [], [] => false
  | [], _ :: _ => true
  | _ :: _, [] => false
  | x :: xs, y :: ys => if Nat.beq x y then natsLt xs ys else Nat.blt x y
/-- less, of two values of one make -/
def ltL (e : P → P → Bool) (t : P → P → Bool) : List P → List P → Bool
  | [], [] => false
  | [], _ :: _ => true
  | _ :: _, [] => false
  | x :: xs, y :: ys => if e x y then ltL e t xs ys else t x y
def ltN : Nat → P → P → Bool
  | 0, _, _ => false
  | n + 1, p, q => match p, q with
    | .int i, .int j => decide (i < j)
    | .str x, .str y => natsLt x y
    | .tup xs, .tup ys => ltL (eqN n) (ltN n) xs ys
    | _, _ => false
def ltP (p q : P) : Bool := ltN (deep) p q
/-- values that can be ordered among one another: ints; texts; tuples of ints; tuples of such tuples .. -/
def isIntP : P → Bool
  | .int _ => true
  | _ => false
def isStrP : P → Bool
  | .str x => x.all (fun c => Nat.blt c 1114112)
  | _ => false
def intOf : P → Int
  | .int i => i
  | _ => 0
def insP (x : P) : List P → List P
  | [] => [x]
  | y :: ys => if ltP y x then y :: insP x ys else x :: y :: ys
def sortP : List P → List P
  | [] => []
  | x :: xs => insP x (sortP xs)
/-- a tuple of ints, one at least -/
def flatNe : P → Bool
  | .tup (x :: xs) => isIntP x && allP isIntP xs
  | _ => false
def sortable (xs : List P) : Bool := allP isIntP xs || allP flatNe xs

/-! ### cells -/
def lookC : Sto → Nat → Option Cell
  | [], _ => none
  | c :: _, 0 => some c
  | _ :: r, n + 1 => lookC r n
def putC : Sto → Nat → Cell → Sto
  | [], _, _ => []
  | _ :: r, 0, c => c :: r
  | b :: r, n + 1, c => b :: putC r n c
/-- a value for good: a cell is changed no more -/
def toV : A → M P
  | .v p => ret p
  | .r n => fun st => match lookC st n with
    | some (.l xs) => .ok (.lst xs) (putC st n (.f xs))
    | some (.f xs) => .ok (.lst xs) st
    | some (.d t kvs) => .ok (.dic t kvs) (putC st n (.df t kvs))
    | some (.df t kvs) => .ok (.dic t kvs) st
    | none => .no
def toVs : List A → M (List P)
  | [] => ret []
  | a :: r => bind (toV a) fun p => bind (toVs r) fun ps => ret (p :: ps)
/-- as it is now, to be read at once -/
def now (a : A) (st : Sto) : Option P := match a with
  | .v p => some p
  | .r n => match lookC st n with
    | some (.l xs) => some (.lst xs)
    | some (.f xs) => some (.lst xs)
    | some (.d t kvs) => some (.dic t kvs)
    | some (.df t kvs) => some (.dic t kvs)
    | none => none
/-- an operation that reads its operands as they are now and makes a value -/
def rd1 (g : P → Option P) (a : A) : M A := fun st => match now a st with
  | some p => opt ((g p).map A.v) st
  | none => .no
def rd2 (g : P → P → Option P) (a b : A) : M A := fun st => match now a st, now b st with
  | some p, some q => opt ((g p q).map A.v) st
  | _, _ => .no
/-- .. a list that is new, to be changed -/
def fresh (xs : List P) : M A := fun st => .ok (.r st.length) (st ++ [.l xs])
def freshD (t : Bool) (kvs : List (P × P)) : M A := fun st => .ok (.r st.length) (st ++ [.d t kvs])
def newL (o : Option P) : M A := match o with
  | some (.lst xs) => fresh xs
  | _ => no
def rd1F (g : P → Option P) (a : A) : M A := fun st => match now a st with
  | some p => newL (g p) st
  | none => .no
def rd2F (g : P → P → Option P) (a b : A) : M A := fun st => match now a st, now b st with
  | some p, some q => newL (g p q) st
  | _, _ => .no
def rdB (g : P → P → Option Bool) (a b : A) : M Bool := fun st => match now a st, now b st with
  | some p, some q => opt (g p q) st
  | _, _ => .no

/-! ### operators -/
def big : Int := 18446744073709551616
def mulOk (i j : Int) : Bool := (decide (-big < i) && decide (i < big)) || (decide (-big < j) && decide (j < big)) || (Nat.ble (i.natAbs.log2 + j.natAbs.log2) 500000)
def repL : Nat → List P → List P
  | 0, _ => []
  | n + 1, xs => xs ++ repL n xs
def line : Nat := 16777216
def addP : P → P → Option P
  | .int i, .int j => some (.int (i + j))
  | .str x, .str y => if Nat.ble (x.length + y.length) line then some (.str (x ++ y)) else none
  | .tup x, .tup y => if Nat.ble (x.length + y.length) line then some (.tup (x ++ y)) else none
  | .lst x, .lst y => if Nat.ble (x.length + y.length) line then some (.lst (x ++ y)) else none
  | _, _ => none
def subP : P → P → Option P
  | .int i, .int j => some (.int (i - j))
  | _, _ => none
def mulP : P → P → Option P
  | .int i, .int j => if mulOk i j then some (.int (i * j)) else none
  | .lst x, .int j => if decide (-1000 ≤ j) && decide (j ≤ 1000) && Nat.ble x.length 1000 then some (.lst (repL j.toNat x)) else none
  | .tup x, .int j => if decide (-1000 ≤ j) && decide (j ≤ 1000) && Nat.ble x.length 1000 then some (.tup (repL j.toNat x)) else none
  | _, _ => none
def modP : P → P → Option P
  | .int i, .int j => if decide (0 < j) then some (.int (i % j)) else none
  | _, _ => none
def divP : P → P → Option P
  | .int i, .int j => if decide (0 < j) && decide (j < 1073741824) then some (.int (i / j)) else none
  | _, _ => none
def powP : P → P → Option P
  | .int i, .int j => if decide (0 ≤ j) && decide (j ≤ 1000000) && decide (-big < i) && decide (i < big) then some (.int (i ^ j.toNat)) else none
  | _, _ => none
def shlP : P → P → Option P
  | .int i, .int j => if decide (0 ≤ j) && decide (j ≤ 1000000) && decide (-big < i) && decide (i < big) then some (.int (i * 2 ^ j.toNat)) else none
  | _, _ => none
def shrP : P → P → Option P
  | .int i, .int j => if decide (0 ≤ j) then some (.int (i / 2 ^ j.toNat)) else none
  | _, _ => none
def andP : P → P → Option P
  | .int i, .int j => if decide (0 ≤ i) && decide (0 ≤ j) then some (.int (Int.ofNat (i.toNat &&& j.toNat))) else none
  | _, _ => none
def orP : P → P → Option P
  | .int i, .int j => if decide (0 ≤ i) && decide (0 ≤ j) then some (.int (Int.ofNat (i.toNat ||| j.toNat))) else none
  | _, _ => none
def invP : P → Option P
  | .int i => some (.int (-i - 1))
  | _ => none
def negP : P → Option P
  | .int i => some (.int (-i))
  | _ => none

/-! ### comparisons -/
def neP (p q : P) : Option Bool := (eqP p q).map (!·)
/-- tuples of ints -/
def flatInts (p : P) : Bool := match p with
  | .tup xs => allP isIntP xs
  | _ => false
def ltO (p q : P) : Option Bool := match p, q with
  | .int i, .int j => some (decide (i < j))
  | .str x, .str y => some (natsLt x y)
  | .tup xs, .tup ys => if flatInts p && flatInts q then some (ltN 2 p q) else none
  | _, _ => none
def leO (p q : P) : Option Bool := match p, q with
  | .int i, .int j => some (decide (i ≤ j))
  | .str x, .str y => some (!natsLt y x)
  | _, _ => none
def gtO (p q : P) : Option Bool := match p, q with
  | .int i, .int j => some (decide (j < i))
  | .str x, .str y => some (natsLt y x)
  | _, _ => none
def geO (p q : P) : Option Bool := match p, q with
  | .int i, .int j => some (decide (j ≤ i))
  | .str x, .str y => some (!natsLt x y)
  | _, _ => none
def lookD (k : P) : List (P × P) → Option P
  | [] => none
  | (a, b) :: r => if eqN (deep) a k then some b else lookD k r
def anyD (k : P) : List (P × P) → Bool
  | [] => false
  | (a, _) :: r => eqN deep a k || anyD k r
def replD (k v : P) : List (P × P) → List (P × P)
  | [] => []
  | (a, b) :: r => (a, if eqN deep a k then v else b) :: replD k v r
def putD (k v : P) (kvs : List (P × P)) : List (P × P) := if anyD k kvs then replD k v kvs else kvs ++ [(k, v)]
def dropD (k : P) : List (P × P) → List (P × P)
  | [] => []
  | (a, b) :: r => if eqN deep a k then dropD k r else (a, b) :: dropD k r
/-- what may be a key: an int, a text, a tuple of such -/
def keyAtom : P → Bool
  | .int _ => true
  | .str x => x.all (fun c => Nat.blt c 1114112)
  | _ => false
def keyOk (t : Bool) (p : P) : Bool := match p with
  | .tup xs => t && allP keyAtom xs
  | p => !t && keyAtom p
def keyAny (p : P) : Bool := keyOk true p || keyOk false p
def subStr (x : List Nat) : List Nat → Bool
  | [] => x.isEmpty
  | c :: y => x.isPrefixOf (c :: y) || subStr x y
def inO (x y : P) : Option Bool := match y with
  | .lst ys | .tup ys => if isData x && allP isData ys then some (anyP (fun z => eqN (deep) z x) ys) else none
  | .str t => match x with
    | .str [c] => some (t.any (fun d => Nat.beq d c))
    | _ => none
  | .dic t kvs => if keyOk t x then some (lookD x kvs).isSome else none
  | _ => none
def notInO (x y : P) : Option Bool := (inO x y).map (!·)
def isNon : P → Bool
  | .non => true
  | _ => false
def isBl (b : Bool) : P → Bool
  | .bl c => c == b
  | _ => false
/-- x is None, True, False -/
def isO (x y : P) : Option Bool := match y with
  | .non => some (isNon x)
  | .bl b => some (isBl b x)
  | _ => none
def isNotO (x y : P) : Option Bool := (isO x y).map (!·)
def truP : P → Option Bool
  | .non => some false
  | .bl b => some b
  | .int i => some (i != 0)
  | .str x => if Nat.ble x.length line then some !x.isEmpty else none
  | .tup x => some !x.isEmpty
  | .lst x => some !x.isEmpty
  | _ => none

/-! ### items, slices -/
def nth : List P → Nat → Option P
  | [], _ => none
  | x :: _, 0 => some x
  | _ :: r, n + 1 => nth r n
def ixN (n : Nat) (i : Int) : Option Nat := match i with
  | .ofNat k => if Nat.blt k n then some k else none
  | .negSucc k => if Nat.ble (k + 1) n then some (n - (k + 1)) else none
def ixP (p q : P) : Option P := match p, q with
  | .lst xs, .int i => (ixN xs.length i).bind (nth xs)
  | .tup xs, .int i => (ixN xs.length i).bind (nth xs)
  | .str xs, .int i => if Nat.ble xs.length line then (ixN xs.length i).bind fun k => (xs[k]?).map fun c => .str [c] else none
  | .dic t kvs, k => if keyOk t k then lookD k kvs else none
  | _, _ => none
def slIx (n d : Nat) : Option Int → Nat
  | none => d
  | some (.ofNat k) => min k n
  | some (.negSucc k) => n - (k + 1)
section
variable {α : Type}
def cut (xs : List α) (lo hi : Option Int) : List α :=
  let n := xs.length
  let a := slIx n 0 lo
  let b := slIx n n hi
  (xs.drop a).take (b - a)
end
def slP (p : P) (a b : Option Int) : Option P := match p with
  | .lst xs => some (.lst (cut xs a b))
  | .tup xs => some (.tup (cut xs a b))
  | .str xs => if Nat.ble xs.length line then some (.str (cut xs a b)) else none
  | _ => none
def revP : P → Option P
  | .lst xs => some (.lst xs.reverse)
  | .tup xs => some (.tup xs.reverse)
  | _ => none

/-! ### built-in functions by values -/
def lenP : P → Option P
  | .lst xs => some (.int xs.length)
  | .tup xs => some (.int xs.length)
  | .str xs => if Nat.ble xs.length 16777216 then some (.int xs.length) else none
  | .dic _ xs => some (.int xs.length)
  | .set xs => some (.int xs.length)
  | _ => none
def absP : P → Option P
  | .int i => some (.int (if i < 0 then -i else i))
  | _ => none
def intP : P → Option P
  | .int i => some (.int i)
  | .bl b => some (.int (if b then 1 else 0))
  | _ => none
def min2P : P → P → Option P
  | .int i, .int j => some (.int (if j < i then j else i))
  | _, _ => none
def max2P : P → P → Option P
  | .int i, .int j => some (.int (if j > i then j else i))
  | _, _ => none
def seqP : P → Option (List P)
  | .lst xs => some xs
  | .tup xs => some xs
  | _ => none
def sumI : List P → Int
  | [] => 0
  | p :: r => intOf p + sumI r
def sumP (p : P) : Option P := match p with
  | .lst xs => if allP isIntP xs then some (.int (sumI xs)) else none
  | _ => none
def isBlP : P → Bool
  | .bl _ => true
  | _ => false
def allO (p : P) : Option P := match p with
  | .lst xs => if allP isBlP xs then some (.bl (allP (isBl true) xs)) else none
  | _ => none
def anyO (p : P) : Option P := match p with
  | .lst xs => if allP isBlP xs then some (.bl (anyP (isBl true) xs)) else none
  | _ => none
def minL (x : P) : List P → P
  | [] => x
  | y :: r => minL (if ltP y x then y else x) r
def maxL (x : P) : List P → P
  | [] => x
  | y :: r => maxL (if ltP x y then y else x) r
def min1P (p : P) : Option P := match seqP p with
  | some (x :: r) => if sortable (x :: r) then some (minL x r) else none
  | _ => none
def max1P (p : P) : Option P := match seqP p with
  | some (x :: r) => if sortable (x :: r) then some (maxL x r) else none
  | _ => none
def listOf (p : P) : Option P := match p with
  | .lst xs => some (.lst xs)
  | .tup xs => some (.lst xs)
  | .dic _ kvs => some (.lst (kvs.map (·.1)))
  | _ => none
def tupleOf (p : P) : Option P := match p with
  | .lst xs => some (.tup xs)
  | .tup xs => some (.tup xs)
  | _ => none
/-- what a for goes through -/
def itemsP : P → Option (List P)
  | .lst xs => some xs
  | .tup xs => some xs
  | .str xs => some (xs.map fun c => .str [c])
  | .dic _ kvs => some (kvs.map (·.1))
  | .set xs => some xs
  | _ => none
def sortedL (p : P) : Option (List P) := match itemsP p with
  | some xs => if sortable xs then some (sortP xs) else none
  | none => none
def rangeL (lo : Int) : Nat → List P
  | 0 => []
  | n + 1 => .int lo :: rangeL (lo + 1) n
def rangeS (lo step : Int) : Nat → List P
  | 0 => []
  | n + 1 => .int lo :: rangeS (lo + step) step n
def stepsOf (lo hi st : Int) : Nat := if 0 < st then ((hi - lo + st - 1) / st).toNat else if st < 0 then ((lo - hi + (-st) - 1) / (-st)).toNat else 0
def wide62 (i : Int) : Bool := decide (-4611686018427387904 ≤ i) && decide (i < 4611686018427387904)
def divmodP : P → P → Option P
  | .int i, .int j => if decide (0 < j) && decide (j < 1073741824) then some (.tup [.int (i / j), .int (i % j)]) else none
  | _, _ => none
def gcdP : P → P → Option P
  | .int i, .int j => some (.int (Nat.gcd i.natAbs j.natAbs))
  | _, _ => none
def countL (x : P) : List P → Nat
  | [] => 0
  | y :: r => if eqN (deep) y x then countL x r + 1 else countL x r
def indexL (x : P) : List P → Option Nat
  | [] => none
  | y :: r => if eqN (deep) y x then some 0 else (indexL x r).map (· + 1)
def countP (p x : P) : Option P := match seqP p with
  | some xs => if isData x && allP isData xs then some (.int (countL x xs)) else none
  | none => none
def indexP (p x : P) : Option P := match seqP p with
  | some xs => if isData x && allP isData xs then (indexL x xs).map fun k => .int k else none
  | none => none
/-- the unlike ones, the first of each -/
def distinct : List P → List P → List P
  | acc, [] => acc.reverse
  | acc, x :: r => if anyP (fun z => eqN (deep) z x) acc then distinct acc r else distinct (x :: acc) r
def setP (p : P) : Option P := match itemsP p with
  | some xs => if allP keyAny xs then some (.set (distinct [] xs)) else none
  | none => none
inductive Ty where
  | int | bool | str | tuple | list | dict | set
def isTy (t : Ty) (p : P) : Option Bool := match p with
  | .int _ => some (match t with | .int => true | _ => false)
  | .bl _ => some (match t with | .int => true | .bool => true | _ => false)
  | .non => some false
  | .str _ => some (match t with | .str => true | _ => false)
  | .tup _ => some (match t with | .tuple => true | _ => false)
  | .lst _ => some (match t with | .list => true | _ => false)
  | .dic false _ => some (match t with | .dict => true | _ => false)
  | _ => none
def pairUp : List P → List P → List P
  | x :: xs, y :: ys => .tup [x, y] :: pairUp xs ys
  | _, _ => []
def numbered (n : Nat) : List P → List P
  | [] => []
  | x :: r => .tup [.int n, x] :: numbered (n + 1) r
def combs : Nat → List P → List (List P)
  | 0, _ => [[]]
  | _ + 1, [] => []
  | k + 1, x :: r => (combs k r).map (x :: ·) ++ combs (k + 1) r
def digitsOf : Nat → Nat → List Nat → List Nat
  | 0, _, acc => acc
  | f + 1, n, acc => if Nat.blt n 10 then (48 + n) :: acc else digitsOf f (n / 10) ((48 + n % 10) :: acc)
def strInt (i : Int) : List Nat := match i with
  | .ofNat n => digitsOf (n.log2 + 1) n []
  | .negSucc n => 45 :: digitsOf ((n + 1).log2 + 1) (n + 1) []
def strP : P → Option P
  | .int i => if Nat.blt (i.natAbs.log2) 1920 then some (.str (strInt i)) else none
  | .str x => some (.str x)
  | _ => none
def joinN (sep : List Nat) : List (List Nat) → List Nat
  | [] => []
  | [x] => x
  | x :: r => x ++ sep ++ joinN sep r
def strsOf : List P → Option (List (List Nat))
  | [] => some []
  | .str x :: r => (strsOf r).map (x :: ·)
  | _ :: _ => none
def joinP (s p : P) : Option P := match s, seqP p with
  | .str sep, some xs => (strsOf xs).map fun ys => .str (joinN sep ys)
  | _, _ => none

/-! ### expressions -/
abbrev Ex := En → M A
abbrev Tx := En → M Bool
def eC (p : P) : Ex := fun _ => ret (.v p)
def eV (i : Nat) : Ex := fun env => opt (get env i)
def e1 (g : A → M A) (a : Ex) : Ex := fun env => bind (a env) g
def e2 (g : A → A → M A) (a b : Ex) : Ex := fun env => bind (a env) fun x => bind (b env) fun y => g x y
def e3 (g : A → A → A → M A) (a b c : Ex) : Ex := fun env => bind (a env) fun x => bind (b env) fun y => bind (c env) fun z => g x y z
def evs : List Ex → En → M (List A)
  | [], _ => ret []
  | e :: r, env => bind (e env) fun x => bind (evs r env) fun xs => ret (x :: xs)
/-- a comparison as a value; a value as a test -/
def eB (c : Tx) : Ex := fun env => bind (c env) fun b => ret (.v (.bl b))
def asB (a : A) : M Bool := match a with
  | .v (.bl b) => ret b
  | _ => no
def cE (e : Ex) : Tx := fun env => bind (e env) asB
/-- by truth -/
def truA (a : A) : M Bool := fun st => match now a st with
  | some p => opt (truP p) st
  | none => .no
def cT (e : Ex) : Tx := fun env => bind (e env) truA
def cmp (g : P → P → Option Bool) (a b : Ex) : Tx := fun env => bind (a env) fun x => bind (b env) fun y => rdB g x y
/-- a < b < c -/
def cmp2 (g g' : P → P → Option Bool) (a b c : Ex) : Tx := fun env => bind (a env) fun x => bind (b env) fun y => bind (rdB g x y) fun k =>
  if k then bind (c env) fun z => rdB g' y z else ret false
def isI (t : Ty) (e : Ex) : Tx := fun env => bind (e env) fun a st => match now a st with
  | some p => opt (isTy t p) st
  | none => .no
def cNot (c : Tx) : Tx := fun env => bind (c env) fun b => ret (!b)
def cAnd (c d : Tx) : Tx := fun env => bind (c env) fun b => if b then d env else ret false
def cOr (c d : Tx) : Tx := fun env => bind (c env) fun b => if b then ret true else d env
def eIf (c : Tx) (a b : Ex) : Ex := fun env => bind (c env) fun k => if k then a env else b env
/-- tuples, lists, dicts -/
def eTup (es : List Ex) : Ex := fun env => bind (evs es env) fun as => bind (toVs as) fun ps => ret (.v (.tup ps))
def eLst (es : List Ex) : Ex := fun env => bind (evs es env) fun as => bind (toVs as) fun ps => ret (.v (.lst ps))
def eLstR (es : List Ex) : Ex := fun env => bind (evs es env) fun as => bind (toVs as) fun ps => fresh ps
/-- with starred ones: true *e -/
def spl : List (Bool × Ex) → En → M (List A)
  | [], _ => ret []
  | (false, e) :: r, env => bind (e env) fun x => bind (spl r env) fun xs => ret (x :: xs)
  | (true, e) :: r, env => bind (e env) fun x => bind (toV x) fun p => bind (opt (seqP p)) fun ys => bind (spl r env) fun xs => ret (ys.map A.v ++ xs)
def eTupS (es : List (Bool × Ex)) : Ex := fun env => bind (spl es env) fun as => bind (toVs as) fun ps => if Nat.ble ps.length line then ret (.v (.tup ps)) else no
def eLstS (es : List (Bool × Ex)) : Ex := fun env => bind (spl es env) fun as => bind (toVs as) fun ps => if Nat.ble ps.length line then ret (.v (.lst ps)) else no
def evD : List (Ex × Ex) → En → M (List (P × P))
  | [], _ => ret []
  | (k, e) :: r, env => bind (k env) fun x => bind (e env) fun y => bind (evD r env) fun xs => bind (toV x) fun p => bind (toV y) fun q => ret ((p, q) :: xs)
def putAll : List (P × P) → List (P × P) → List (P × P)
  | acc, [] => acc
  | acc, (k, v) :: r => putAll (putD k v acc) r
def dicOf (t : Bool) (kvs : List (P × P)) : M (List (P × P)) := if kvs.all (fun q => keyOk t q.1) then ret (putAll [] kvs) else no
def eDic (t : Bool) (es : List (Ex × Ex)) : Ex := fun env => bind (evD es env) fun kvs => bind (dicOf t kvs) fun d => ret (.v (.dic t d))
def eDicR (t : Bool) (es : List (Ex × Ex)) : Ex := fun env => bind (evD es env) fun kvs => bind (dicOf t kvs) fun d => freshD t d
/-- what is gone through -/
abbrev It := En → M (List P)
def itE (e : Ex) : It := fun env => bind (e env) fun a => bind (toV a) fun p => opt (itemsP p)
def range1 (a : A) : M (List P) := match a with
  | .v (.int n) => if wide62 n then ret (rangeL 0 n.toNat) else no
  | _ => no
def range2 (a b : A) : M (List P) := match a, b with
  | .v (.int i), .v (.int j) => if wide62 i && wide62 j then ret (rangeL i (j - i).toNat) else no
  | _, _ => no
def range3 (a b c : A) : M (List P) := match a, b, c with
  | .v (.int i), .v (.int j), .v (.int k) => if wide62 i && wide62 j && decide (k ≠ 0) && decide (-1000000 < k) && decide (k < 1000000) then ret (rangeS i k (stepsOf i j k)) else no
  | _, _, _ => no
def itR1 (a : Ex) : It := fun env => bind (a env) range1
def itR2 (a b : Ex) : It := fun env => bind (a env) fun x => bind (b env) fun y => range2 x y
def itR3 (a b c : Ex) : It := fun env => bind (a env) fun x => bind (b env) fun y => bind (c env) fun z => range3 x y z
def itZip (a b : It) : It := fun env => bind (a env) fun xs => bind (b env) fun ys => ret (pairUp xs ys)
def itEnum (a : It) : It := fun env => bind (a env) fun xs => ret (numbered 0 xs)
def itItems (e : Ex) : It := fun env => bind (e env) fun a => bind (toV a) fun p => match p with
  | .dic _ kvs => ret (kvs.map fun q => .tup [q.1, q.2])
  | _ => no
def itVals (e : Ex) : It := fun env => bind (e env) fun a => bind (toV a) fun p => match p with
  | .dic _ kvs => ret (kvs.map (·.2))
  | _ => no
def itComb (a : It) (k : Ex) : It := fun env => bind (a env) fun xs => bind (k env) fun n => match n with
  | .v (.int (.ofNat n)) => ret ((combs n xs).map .tup)
  | _ => no
/-- targets -/
abbrev Tg := A → En → M En
def tN (i : Nat) : Tg := fun a env => ret (put env i (some a))
def unpack : List Tg → List P → En → M En
  | [], [], env => ret env
  | t :: ts, p :: ps, env => bind (t (.v p) env) fun env' => unpack ts ps env'
  | _, _, _ => no
def tupP : P → Option (List P)
  | .tup xs => some xs
  | _ => none
def tT (ts : List Tg) : Tg := fun a env => bind (toV a) fun p => bind (opt (tupP p)) fun ps => if Nat.beq ps.length ts.length then unpack ts ps env else no
def setAt (o i : A) (p : P) : M Unit := fun st => match o, i with
  | .r n, .v k => match lookC st n with
    | some (.l xs) => match k with
      | .int j => match ixN xs.length j with
        | some m => .ok () (putC st n (.l (xs.set m p)))
        | none => .no
      | _ => .no
    | some (.d t kvs) => if keyOk t k && Nat.blt kvs.length line then .ok () (putC st n (.d t (putD k p kvs))) else .no
    | _ => .no
  | _, _ => .no
def tS (o i : Ex) : Tg := fun a env => bind (o env) fun x => bind (i env) fun y => bind (toV a) fun p => bind (setAt x y p) fun _ => ret env
/-- a list comprehension's turns; nothing is raised out of it -/
def calm {α : Type} (m : M α) : M α := fun st => match m st with
  | .ok a st' => .ok a st'
  | _ => .no
def turns (tg : Tg) (c : Tx) (e : Ex) (env : En) : List P → M (List P)
  | [] => ret []
  | x :: xs => bind (tg (.v x) env) fun env' => bind (c env') fun k =>
      if k then bind (e env') fun a => bind (toV a) fun p => bind (turns tg c e env xs) fun ps => ret (p :: ps)
      else turns tg c e env xs
def cYes : Tx := fun _ => ret true
/-- not longer than lists can be -/
def fits (ps : List P) : M (List P) := if Nat.ble ps.length line then ret ps else no
def lc (vs : List Nat) (it : It) (tg : Tg) (c : Tx) (e : Ex) : En → M (List P) := fun env => bind (it env) fun xs => bind (calm (turns tg c e (wipe env vs) xs)) fits
def turns2 (tg : Tg) (c : Tx) (inner : En → M (List P)) (env : En) : List P → M (List P)
  | [] => ret []
  | x :: xs => bind (tg (.v x) env) fun env' => bind (c env') fun k =>
      if k then bind (inner env') fun ys => bind (turns2 tg c inner env xs) fun zs => ret (ys ++ zs)
      else turns2 tg c inner env xs
/-- two fors -/
def lc2 (vs vs1 : List Nat) (it : It) (tg : Tg) (c : Tx) (it2 : It) (tg2 : Tg) (c2 : Tx) (e : Ex) : En → M (List P) := fun env => bind (it env) fun xs =>
  bind (calm (turns2 tg c (fun env' => bind (it2 env') fun ys => turns tg2 c2 e (wipe env' vs1) ys) (wipe env vs) xs)) fits
def eLc (m : En → M (List P)) : Ex := fun env => bind (m env) fun ps => ret (.v (.lst ps))
def eLcR (m : En → M (List P)) : Ex := fun env => bind (m env) fun ps => fresh ps
def itL (m : En → M (List P)) : It := m
/-- {k: v for ..}: the pairs come one by one -/
def pairsOf : List P → Option (List (P × P))
  | [] => some []
  | .tup [k, v] :: r => (pairsOf r).map ((k, v) :: ·)
  | _ :: _ => none
def eDc (t : Bool) (m : En → M (List P)) : Ex := fun env => bind (m env) fun ps => bind (opt (pairsOf ps)) fun kvs => bind (dicOf t kvs) fun d => ret (.v (.dic t d))
def eDcR (t : Bool) (m : En → M (List P)) : Ex := fun env => bind (m env) fun ps => bind (opt (pairsOf ps)) fun kvs => bind (dicOf t kvs) fun d => freshD t d
/-- lists out of other things -/
def eMk (k : List P → P) (m : It) : Ex := fun env => bind (m env) fun ps => ret (.v (k ps))
def eMkR (m : It) : Ex := fun env => bind (m env) fun ps => fresh ps
/-- sorted(xs) of a list -/
def sortedV (p : P) : Option P := match p with
  | .lst xs => if sortable xs then some (.lst (sortP xs)) else none
  | _ => none
def dictOf (t : Bool) (p : P) : Option P := match p with
  | .lst xs => match pairsOf xs with
    | some kvs => if kvs.all (fun q => keyOk t q.1) then some (.dic t (putAll [] kvs)) else none
    | none => none
  | _ => none
/-- a new dict, to be changed -/
def newD (o : Option P) : M A := match o with
  | some (.dic t kvs) => freshD t kvs
  | _ => no
def rd1D (g : P → Option P) (a : A) : M A := fun st => match now a st with
  | some p => newD (g p) st
  | none => .no
def sortedP (p : P) : Option P := (sortedL p).map .lst
def evO : Option Ex → En → M (Option Int)
  | none, _ => ret none
  | some e, env => bind (e env) fun a => match a with
    | .v (.int i) => ret (some i)
    | _ => no
def eSlice (a : Ex) (lo hi : Option Ex) : Ex := fun env => bind (a env) fun x => bind (evO lo env) fun y => bind (evO hi env) fun z => rd1 (fun p => slP p y z) x
def eSliceR (a : Ex) (lo hi : Option Ex) : Ex := fun env => bind (a env) fun x => bind (evO lo env) fun y => bind (evO hi env) fun z => rd1F (fun p => slP p y z) x
/-- what a method is looked up in -/
inductive Kd where
  | l | d | s | t
def isKd (k : Kd) (p : P) : Bool := match p with
  | .lst _ => match k with | .l => true | _ => false
  | .dic _ _ => match k with | .d => true | _ => false
  | .str _ => match k with | .s => true | _ => false
  | .tup _ => match k with | .t => true | _ => false
  | _ => false
def kdC (k : Kd) (a : A) : M Unit := fun st => match now a st with
  | some p => if isKd k p then .ok () st else .no
  | none => .no
def eM (k : Kd) (g : A → A → M A) (o e : Ex) : Ex := fun env => bind (o env) fun x => bind (kdC k x) fun _ => bind (e env) fun y => g x y
def eM0 (k : Kd) (g : A → M A) (o : Ex) : Ex := fun env => bind (o env) fun x => bind (kdC k x) fun _ => g x
def eM3 (k : Kd) (g : A → A → A → M A) (o e f : Ex) : Ex := fun env => bind (o env) fun x => bind (kdC k x) fun _ => bind (e env) fun y => bind (f env) fun z => g x y z
/-- methods that change -/
def mAppend (o x : A) : M A := bind (toV x) fun p => fun st => match o with
  | .r n => match lookC st n with
    | some (.l xs) => if Nat.blt xs.length line then .ok (.v .non) (putC st n (.l (xs ++ [p]))) else .no
    | _ => .no
  | _ => .no
def mExtend (o x : A) : M A := bind (toV x) fun p => fun st => match o, p with
  | .r n, .lst ys => match lookC st n with
    | some (.l xs) => if Nat.ble (xs.length + ys.length) line then .ok (.v .non) (putC st n (.l (xs ++ ys))) else .no
    | _ => .no
  | _, _ => .no
def mPop (o : A) : M A := fun st => match o with
  | .r n => match lookC st n with
    | some (.l xs) => match nth xs (xs.length - 1) with
      | some p => .ok (.v p) (putC st n (.l xs.dropLast))
      | none => .no
    | _ => .no
  | _ => .no
def mPopAt (o i : A) : M A := fun st => match o, i with
  | .r n, .v (.int j) => match lookC st n with
    | some (.l xs) => match ixN xs.length j with
      | some k => match nth xs k with
        | some p => .ok (.v p) (putC st n (.l (xs.eraseIdx k)))
        | none => .no
      | none => .no
    | _ => .no
  | _, _ => .no
def mPopD (o i : A) : M A := fun st => match o, i with
  | .r n, .v k => match lookC st n with
    | some (.d false kvs) => if keyOk false k then match lookD k kvs with
        | some p => .ok (.v p) (putC st n (.d false (dropD k kvs)))
        | none => .no
      else .no
    | _ => .no
  | _, _ => .no
def mInsert (o i x : A) : M A := bind (toV x) fun p => fun st => match o, i with
  | .r n, .v (.int (.ofNat k)) => match lookC st n with
    | some (.l xs) => if Nat.blt xs.length line && Nat.ble k line then .ok (.v .non) (putC st n (.l (xs.take k ++ [p] ++ xs.drop k))) else .no
    | _ => .no
  | _, _ => .no
def mRemove (o x : A) : M A := bind (toV x) fun p => fun st => match o with
  | .r n => match lookC st n with
    | some (.l xs) => match indexL p xs with
      | some k => .ok (.v .non) (putC st n (.l (xs.eraseIdx k)))
      | none => .no
    | _ => .no
  | _ => .no
def mUpdate (o x : A) : M A := bind (toV x) fun p => fun st => match o, p with
  | .r n, .dic t kvs => match lookC st n with
    | some (.d u d) => if t == u then .ok (.v .non) (putC st n (.d u (putAll d kvs))) else .no
    | _ => .no
  | _, _ => .no
def getD1 (d k : P) : Option P := match d with
  | .dic t kvs => if keyOk t k then some ((lookD k kvs).getD .non) else none
  | _ => none
def getD2 (d k x : A) : M A := fun st => match now d st, now k st with
  | some (.dic t kvs), some k => if keyOk t k then .ok ((lookD k kvs).elim x A.v) st else .no
  | _, _ => .no

/-! ### statements -/
inductive F where
  | nx (e : En) (st : Sto) | rt (a : A) (st : Sto) | bk (e : En) (st : Sto) | ct (e : En) (st : Sto)
  | ex (c : Nat) (p : P) (e : En) (st : Sto) | no
  deriving Inhabited
abbrev Sx := En → Sto → F
section
variable {α : Type}
def fl (r : R α) (env : En) (k : α → Sto → F) : F := match r with
  | .ok a st => k a st
  | .ex c p st => .ex c p env st
  | .no => .no
end
def sPass : Sx := fun env st => .nx env st
/-- code that is never come to -/
def sNo : Sx := fun _ _ => .no
def sq (a b : Sx) : Sx := fun env st => match a env st with
  | .nx e s => b e s
  | r => r
def sE (e : Ex) : Sx := fun env st => fl (e env st) env fun _ s => .nx env s
def sR (e : Ex) : Sx := fun env st => fl (e env st) env fun a s => .rt a s
def sRN : Sx := fun _ st => .rt (.v .non) st
def sSet (i : Nat) (e : Ex) : Sx := fun env st => fl (e env st) env fun a s => .nx (put env i (some a)) s
def sAsg (t : Tg) (e : Ex) : Sx := fun env st => fl (e env st) env fun a s => fl (t a env s) env fun e' s' => .nx e' s'
/-- a, b = x, y: all of the right ones first, then stored -/
def sPar (is : List Nat) (es : List Ex) : Sx := fun env st => fl (evs es env st) env fun as s => if is.length == as.length then .nx (puts is as env) s else .no
where puts : List Nat → List A → En → En
  | i :: is, a :: as, env => puts is as (put env i (some a))
  | _, _, env => env
def sIf (c : Tx) (a b : Sx) : Sx := fun env st => fl (c env st) env fun k s => if k then a env s else b env s
def sBk : Sx := fun env st => .bk env st
def sCt : Sx := fun env st => .ct env st
def forL (t : Tg) (b : Sx) : List P → En → Sto → F
  | [], env, st => .nx env st
  | x :: xs, env, st => fl (t (.v x) env st) env fun e s => match b e s with
    | .nx e' s' => forL t b xs e' s'
    | .ct e' s' => forL t b xs e' s'
    | .bk e' s' => .nx e' s'
    | .rt a s' => .rt a s'
    | .ex c p e' s' => .ex c p e' s'
    | .no => .no
def sFor (it : It) (t : Tg) (b : Sx) : Sx := fun env st => fl (it env st) env fun xs s => forL t b xs env s
def whl (c : Tx) (b : Sx) : Nat → En → Sto → F
  | 0, _, _ => .no
  | n + 1, env, st => fl (c env st) env fun k s => if k then match b env s with
      | .nx e' s' => whl c b n e' s'
      | .ct e' s' => whl c b n e' s'
      | .bk e' s' => .nx e' s'
      | .rt a s' => .rt a s'
      | .ex c' p e' s' => .ex c' p e' s'
      | .no => .no
    else .nx env s
def fuel : Nat := 1000000
def sWhl (c : Tx) (b : Sx) : Sx := fun env st => whl c b fuel env st
/-- raise C(e) -/
def sRaise (c : Nat) (e : Ex) : Sx := fun env st => fl (e env st) env fun a s => fl (toV a s) env fun p s' => .ex c p env s'

/-! ### defs -/
abbrev Fn := List A → M A
def start (n : Nat) (as : List A) : En := as.map some ++ List.replicate (n - as.length) none
def fnV (ar n : Nat) (b : Sx) : Fn := fun as st => if as.length == ar then match b (start n as) st with
    | .rt a s => match toV a s with
      | .ok p s' => .ok (.v p) (s'.take st.length)
      | _ => .no
    | .nx _ s => .ok (.v .non) (s.take st.length)
    | .ex c p _ s => .ex c p (s.take st.length)
    | _ => .no
  else .no
/-- one that hands back a list that may be changed -/
def fnR (ar n : Nat) (b : Sx) : Fn := fun as st => if as.length == ar then match b (start n as) st with
    | .rt (.r k) s => if Nat.ble st.length k then match lookC s k with
        | some c => .ok (.r st.length) (s.take st.length ++ [c])
        | none => .no
      else .no
    | .ex c p _ s => .ex c p (s.take st.length)
    | _ => .no
  else .no
def isVal : A → Bool
  | .v _ => true
  | .r _ => false
/-- a call whose arguments are values alone runs in a store of its own -/
def lone (f : Fn) (as : List A) : M A := fun st => if allB isVal as then match f as [] with
    | .ok (.v p) _ => .ok (.v p) st
    | .ok (.r 0) [c] => .ok (.r st.length) (st ++ [c])
    | .ex c p _ => .ex c p st
    | _ => .no
  else f as st
where allB (q : A → Bool) : List A → Bool
  | [] => true
  | x :: r => q x && allB q r
def call (f : Fn) (es : List Ex) : Ex := fun env => bind (evs es env) (lone f)
/-- with keywords: the arguments as they are written, then put in the parameters' order -/
def pick (o : List Nat) (as : List A) : Option (List A) := match o with
  | [] => some []
  | i :: r => match as[i]?, pick r as with
    | some a, some b => some (a :: b)
    | _, _ => none
def callK (f : Fn) (o : List Nat) (es ks : List Ex) : Ex := fun env => bind (evs es env) fun as => bind (evs ks env) fun bs => bind (opt (pick o (as ++ bs))) (lone f)
def never : Fn := fun _ => no

end Rt

set_option Elab.async false
set_option linter.all false
set_option maxRecDepth 100000
set_option autoImplicit false
namespace Rt
open PySem PySem.Spec PyProof.Rows L2

/-! ### how a value stands in the abstract heap -/
abbrev Fz := Addr → Prop
/-- a list that is changed no more -/
def LstZ (F : Fz) (H : Hp) (a : Addr) (vs : List V) : Prop :=
  (F a ∧ H a = some (.lst vs)) ∨ (∃ o, H a = some (.frz o (.lst vs)))
theorem LstZ.rd {F : Fz} {H : Hp} {a : Addr} {vs : List V} (h : LstZ F H a vs) : Rd H a (.lst vs) := by
  rcases h with ⟨_, h⟩ | ⟨o, h⟩
  · exact .inl h
  · exact .inr ⟨o, h⟩
def keyV : P → Option Key
  | .int i => some (.inl i)
  | .str s => some (.inr ⟨s.toArray⟩)
  | _ => none
def keysV : List P → Option (List Key)
  | [] => some []
  | p :: r => match keyV p, keysV r with
    | some k, some ks => some (k :: ks)
    | _, _ => none
/-- a dict's pairs: keys are ints and texts, or tuples of them -/
inductive Dic where
  | k (kvs : List (Key × V)) | t (kvs : List (List Key × V))
def Dic.ho : Dic → HO
  | .k kvs => .dK kvs
  | .t kvs => .dT kvs
def RepN (F : Fz) (H : Hp) : Nat → V → P → Prop
  | 0, _, _ => False
  | n + 1, v, p => match p with
    | .non => v = .non
    | .bl b => v = .bl b
    | .int i => v = .int i
    | .str s => v = .str ⟨s.toArray⟩
    | .tup ps => ∃ a vs, v = .ref a ∧ H a = some (.tup vs) ∧ Paired (RepN F H n) vs ps
    | .lst ps => ∃ a vs, v = .ref a ∧ LstZ F H a vs ∧ Paired (RepN F H n) vs ps
    | .dic t kvs => ∃ a, v = .ref a ∧ F a ∧
        ((t = false ∧ ∃ es, Rd H a (.dK es) ∧ Paired (fun (e : Key × V) (q : P × P) => keyV q.1 = some e.1 ∧ RepN F H n e.2 q.2) es kvs) ∨
         (t = true ∧ ∃ es, Rd H a (.dT es) ∧ Paired (fun (e : List Key × V) (q : P × P) => (∃ ps, q.1 = .tup ps ∧ keysV ps = some e.1) ∧ RepN F H n e.2 q.2) es kvs))
    | .set _ => False
def Rep (F : Fz) (H : Hp) (v : V) (p : P) : Prop := ∃ n, RepN F H n v p
abbrev Reps (F : Fz) (H : Hp) : List V → List P → Prop := Paired (Rep F H)

section
variable {α β : Type} {R S : α → β → Prop}
theorem Paired.imp : ∀ {l : List α} {m : List β}, Paired R l m → (∀ a b, R a b → S a b) → Paired S l m
  | _, _, .nil, _ => .nil
  | _, _, .cons r t, f => .cons (f _ _ r) (Paired.imp t f)
theorem Paired.len : ∀ {l : List α} {m : List β}, Paired R l m → l.length = m.length
  | _, _, .nil => rfl
  | _, _, .cons _ t => by rw [List.length_cons, List.length_cons, Paired.len t]
theorem Paired.app : ∀ {l : List α} {m : List β} {l' : List α} {m' : List β}, Paired R l m → Paired R l' m' → Paired R (l ++ l') (m ++ m')
  | _, _, _, _, .nil, s => s
  | _, _, _, _, .cons r t, s => .cons r (Paired.app t s)
theorem Paired.at_ : ∀ {l : List α} {m : List β} {i : Nat} {b : β}, Paired R l m → m[i]? = some b → ∃ a, l[i]? = some a ∧ R a b
  | _, _, _, _, .nil, e => by simp at e
  | _, _, 0, _, .cons r _, e => by simp at e; subst e; exact ⟨_, rfl, r⟩
  | _, _, i + 1, _, .cons _ t, e => by
    obtain ⟨a, h1, h2⟩ := Paired.at_ (i := i) t (by simpa using e)
    exact ⟨a, by simpa using h1, h2⟩
theorem Paired.drop_ : ∀ {l : List α} {m : List β} (n : Nat), Paired R l m → Paired R (l.drop n) (m.drop n)
  | _, _, 0, r => r
  | _, _, _ + 1, .nil => .nil
  | _, _, n + 1, .cons _ t => Paired.drop_ n t
theorem Paired.take_ : ∀ {l : List α} {m : List β} (n : Nat), Paired R l m → Paired R (l.take n) (m.take n)
  | _, _, 0, _ => .nil
  | _, _, _ + 1, .nil => .nil
  | _, _, n + 1, .cons r t => .cons r (Paired.take_ n t)
theorem Paired.rev : ∀ {l : List α} {m : List β}, Paired R l m → Paired R l.reverse m.reverse
  | _, _, .nil => .nil
  | _, _, .cons r t => by
    rw [List.reverse_cons, List.reverse_cons]
    exact Paired.app (Paired.rev t) (.cons r .nil)
theorem Paired.set_ {a : α} {b : β} (r : R a b) : ∀ {l : List α} {m : List β} (i : Nat), Paired R l m → Paired R (l.set i a) (m.set i b)
  | _, _, _, .nil => .nil
  | _, _, 0, .cons _ t => .cons r t
  | _, _, i + 1, .cons q t => .cons q (Paired.set_ r i t)
end

theorem RepN.up {F : Fz} {H : Hp} : ∀ {n m : Nat} {v : V} {p : P}, n ≤ m → RepN F H n v p → RepN F H m v p
  | 0, _, _, _, _, h => h.elim
  | n + 1, 0, _, _, l, _ => absurd l (by omega)
  | n + 1, m + 1, v, p, l, h => by
    have ih : ∀ v p, RepN F H n v p → RepN F H m v p := fun v p => RepN.up (by omega)
    cases p with
    | non => exact h
    | bl b => exact h
    | int i => exact h
    | str s => exact h
    | tup ps => obtain ⟨a, vs, e, s, r⟩ := h; exact ⟨a, vs, e, s, Paired.imp r ih⟩
    | lst ps => obtain ⟨a, vs, e, s, r⟩ := h; exact ⟨a, vs, e, s, Paired.imp r ih⟩
    | dic t kvs =>
      obtain ⟨a, e, s, r⟩ := h
      refine ⟨a, e, s, ?_⟩
      rcases r with ⟨et, es, h1, h2⟩ | ⟨et, es, h1, h2⟩
      · exact .inl ⟨et, es, h1, Paired.imp h2 fun _ _ q => ⟨q.1, ih _ _ q.2⟩⟩
      · exact .inr ⟨et, es, h1, Paired.imp h2 fun _ _ q => ⟨q.1, ih _ _ q.2⟩⟩
    | set xs => exact h.elim
section
variable {F : Fz} {H : Hp}
theorem Reps.fuel : ∀ {vs : List V} {ps : List P}, Reps F H vs ps → ∃ n, Paired (RepN F H n) vs ps
  | _, _, .nil => ⟨0, .nil⟩
  | _, _, .cons ⟨n, r⟩ t => by
    obtain ⟨m, q⟩ := Reps.fuel t
    exact ⟨max n m, .cons (RepN.up (Nat.le_max_left _ _) r) (Paired.imp q fun _ _ z => RepN.up (Nat.le_max_right _ _) z)⟩
theorem Rep.non : Rep F H .non .non := ⟨1, rfl⟩
theorem Rep.bl {b : Bool} : Rep F H (.bl b) (.bl b) := ⟨1, rfl⟩
theorem Rep.int {i : Int} : Rep F H (.int i) (.int i) := ⟨1, rfl⟩
theorem Rep.str {s : List Nat} : Rep F H (.str ⟨s.toArray⟩) (.str s) := ⟨1, rfl⟩
theorem Rep.tup {a : Addr} {vs : List V} {ps : List P} (s : H a = some (.tup vs)) (r : Reps F H vs ps) : Rep F H (.ref a) (.tup ps) := by
  obtain ⟨n, q⟩ := Reps.fuel r
  exact ⟨n + 1, a, vs, rfl, s, q⟩
theorem Rep.lst {a : Addr} {vs : List V} {ps : List P} (s : LstZ F H a vs) (r : Reps F H vs ps) : Rep F H (.ref a) (.lst ps) := by
  obtain ⟨n, q⟩ := Reps.fuel r
  exact ⟨n + 1, a, vs, rfl, s, q⟩
theorem Rep.non_inv {v : V} (h : Rep F H v .non) : v = .non := by
  obtain ⟨n, h⟩ := h
  cases n with
  | zero => exact h.elim
  | succ n => exact h
theorem Rep.bl_inv {v : V} {b : Bool} (h : Rep F H v (.bl b)) : v = .bl b := by
  obtain ⟨n, h⟩ := h
  cases n with
  | zero => exact h.elim
  | succ n => exact h
theorem Rep.int_inv {v : V} {i : Int} (h : Rep F H v (.int i)) : v = .int i := by
  obtain ⟨n, h⟩ := h
  cases n with
  | zero => exact h.elim
  | succ n => exact h
theorem Rep.str_inv {v : V} {s : List Nat} (h : Rep F H v (.str s)) : v = .str ⟨s.toArray⟩ := by
  obtain ⟨n, h⟩ := h
  cases n with
  | zero => exact h.elim
  | succ n => exact h
theorem Rep.tup_inv {v : V} {ps : List P} (h : Rep F H v (.tup ps)) : ∃ a vs, v = .ref a ∧ H a = some (.tup vs) ∧ Reps F H vs ps := by
  obtain ⟨n, h⟩ := h
  cases n with
  | zero => exact h.elim
  | succ n =>
    obtain ⟨a, vs, e, s, r⟩ := h
    exact ⟨a, vs, e, s, Paired.imp r fun _ _ q => ⟨n, q⟩⟩
theorem Rep.lst_inv {v : V} {ps : List P} (h : Rep F H v (.lst ps)) : ∃ a vs, v = .ref a ∧ LstZ F H a vs ∧ Reps F H vs ps := by
  obtain ⟨n, h⟩ := h
  cases n with
  | zero => exact h.elim
  | succ n =>
    obtain ⟨a, vs, e, s, r⟩ := h
    exact ⟨a, vs, e, s, Paired.imp r fun _ _ q => ⟨n, q⟩⟩
/-- a dict's pairs, of either make -/
def Kvs (F : Fz) (H : Hp) (a : Addr) (t : Bool) (kvs : List (P × P)) : Prop :=
  (t = false ∧ ∃ es, Rd H a (.dK es) ∧ Paired (fun (e : Key × V) (q : P × P) => keyV q.1 = some e.1 ∧ Rep F H e.2 q.2) es kvs) ∨
  (t = true ∧ ∃ es, Rd H a (.dT es) ∧ Paired (fun (e : List Key × V) (q : P × P) => (∃ ps, q.1 = .tup ps ∧ keysV ps = some e.1) ∧ Rep F H e.2 q.2) es kvs)
section
variable {α : Type} {Z : α × V → P × P → Prop}
theorem kv_fuel : ∀ {es : List (α × V)} {kvs : List (P × P)}, Paired (fun e q => Z e q ∧ Rep F H e.2 q.2) es kvs → ∃ n, Paired (fun e q => Z e q ∧ RepN F H n e.2 q.2) es kvs
  | _, _, .nil => ⟨0, .nil⟩
  | _, _, .cons ⟨z, n, r⟩ t => by
    obtain ⟨m, q⟩ := kv_fuel t
    exact ⟨max n m, .cons ⟨z, RepN.up (Nat.le_max_left _ _) r⟩ (Paired.imp q fun _ _ z => ⟨z.1, RepN.up (Nat.le_max_right _ _) z.2⟩)⟩
end
theorem Rep.dic {a : Addr} {t : Bool} {kvs : List (P × P)} (f : F a) (r : Kvs F H a t kvs) : Rep F H (.ref a) (.dic t kvs) := by
  rcases r with ⟨et, es, h1, h2⟩ | ⟨et, es, h1, h2⟩
  · obtain ⟨n, q⟩ := kv_fuel (Z := fun e q => keyV q.1 = some e.1) h2
    exact ⟨n + 1, a, rfl, f, .inl ⟨et, es, h1, q⟩⟩
  · obtain ⟨n, q⟩ := kv_fuel (Z := fun e q => ∃ ps, q.1 = .tup ps ∧ keysV ps = some e.1) h2
    exact ⟨n + 1, a, rfl, f, .inr ⟨et, es, h1, q⟩⟩
theorem Rep.dic_inv {v : V} {t : Bool} {kvs : List (P × P)} (h : Rep F H v (.dic t kvs)) : ∃ a, v = .ref a ∧ F a ∧ Kvs F H a t kvs := by
  obtain ⟨n, h⟩ := h
  cases n with
  | zero => exact h.elim
  | succ n =>
    obtain ⟨a, e, s, r⟩ := h
    refine ⟨a, e, s, ?_⟩
    rcases r with ⟨et, es, h1, h2⟩ | ⟨et, es, h1, h2⟩
    · exact .inl ⟨et, es, h1, Paired.imp h2 fun _ _ q => ⟨q.1, n, q.2⟩⟩
    · exact .inr ⟨et, es, h1, Paired.imp h2 fun _ _ q => ⟨q.1, n, q.2⟩⟩
end

/-! ### the world: where the cells stand, what is changed no more -/
structure Wd where
  mu : List Addr
  fz : Fz
  /-- what nobody touches meanwhile (a list that a comprehension fills) -/
  kp : Fz
/-- a later world -/
structure Ext (w w' : Wd) (H H' : Hp) : Prop where
  /-- as they were; dicts may be locked meanwhile -/
  fz : ∀ a, w.fz a → w'.fz a ∧ ∀ u, H a = some u → Rd H' a u
  tup : ∀ a xs, H a = some (.tup xs) → H' a = some (.tup xs)
  frz : ∀ a o u, H a = some (.frz o u) → H' a = some (.frz o u)
  mu : ∀ (n : Nat) a, w.mu[n]? = some a → w'.mu[n]? = some a
  kp : w'.kp = w.kp
  ke : ∀ a, w.kp a → H' a = H a
  /-- what was there is there; cells that come are new -/
  nw : ∀ a, (H' a = none → H a = none) ∧ (a ∈ w'.mu → a ∈ w.mu ∨ H a = none)
theorem Ext.refl {w : Wd} {H : Hp} : Ext w w H H := ⟨fun _ f => ⟨f, fun _ e => .inl e⟩, fun _ _ h => h, fun _ _ _ h => h, fun _ _ h => h, rfl, fun _ _ => rfl, fun _ => ⟨fun h => h, .inl⟩⟩
theorem Ext.trans {w w1 w2 : Wd} {H H1 H2 : Hp} (a : Ext w w1 H H1) (b : Ext w1 w2 H1 H2) : Ext w w2 H H2 :=
  ⟨fun x f => ⟨(b.fz x (a.fz x f).1).1, fun u e => ((a.fz x f).2 u e).elim (fun e => (b.fz x (a.fz x f).1).2 u e) fun ⟨o, e⟩ => .inr ⟨o, b.frz x o u e⟩⟩, fun x xs h => b.tup x xs (a.tup x xs h), fun x o u h => b.frz x o u (a.frz x o u h), fun n x h => b.mu n x (a.mu n x h), b.kp.trans a.kp, fun x h => (b.ke x (by rw [a.kp]; exact h)).trans (a.ke x h), fun x => ⟨fun h => (a.nw x).1 ((b.nw x).1 h), fun h => ((b.nw x).2 h).elim (fun h => (a.nw x).2 h) fun h => .inr ((a.nw x).1 h)⟩⟩
section
variable {w w' : Wd} {H H' : Hp}
theorem Ext.rd (x : Ext w w' H H') {a : Addr} {u : HO} (f : w.fz a) (h : Rd H a u) : Rd H' a u := h.elim (fun e => (x.fz a f).2 u e) fun ⟨o, e⟩ => .inr ⟨o, x.frz a o u e⟩
theorem Ext.lstZ (x : Ext w w' H H') {a : Addr} {vs : List V} (h : LstZ w.fz H a vs) : LstZ w'.fz H' a vs := by
  rcases h with ⟨f, h⟩ | ⟨o, h⟩
  · rcases (x.fz a f).2 _ h with e | e
    · exact .inl ⟨(x.fz a f).1, e⟩
    · exact .inr e
  · exact .inr ⟨o, x.frz _ _ _ h⟩
theorem Ext.repN (x : Ext w w' H H') : ∀ {n : Nat} {v : V} {p : P}, RepN w.fz H n v p → RepN w'.fz H' n v p
  | 0, _, _, h => h.elim
  | n + 1, v, p, h => by
    have ih : ∀ v p, RepN w.fz H n v p → RepN w'.fz H' n v p := fun v p => Ext.repN x
    cases p with
    | non => exact h
    | bl b => exact h
    | int i => exact h
    | str s => exact h
    | tup ps => obtain ⟨a, vs, e, s, r⟩ := h; exact ⟨a, vs, e, x.tup _ _ s, Paired.imp r ih⟩
    | lst ps => obtain ⟨a, vs, e, s, r⟩ := h; exact ⟨a, vs, e, x.lstZ s, Paired.imp r ih⟩
    | dic t kvs =>
      obtain ⟨a, e, s, r⟩ := h
      refine ⟨a, e, (x.fz a s).1, ?_⟩
      rcases r with ⟨et, es, h1, h2⟩ | ⟨et, es, h1, h2⟩
      · exact .inl ⟨et, es, x.rd s h1, Paired.imp h2 fun _ _ q => ⟨q.1, ih _ _ q.2⟩⟩
      · exact .inr ⟨et, es, x.rd s h1, Paired.imp h2 fun _ _ q => ⟨q.1, ih _ _ q.2⟩⟩
    | set xs => exact h.elim
theorem Ext.rep (x : Ext w w' H H') {v : V} {p : P} (h : Rep w.fz H v p) : Rep w'.fz H' v p := let ⟨n, q⟩ := h; ⟨n, x.repN q⟩
theorem Ext.reps (x : Ext w w' H H') {vs : List V} {ps : List P} (h : Reps w.fz H vs ps) : Reps w'.fz H' vs ps := Paired.imp h fun _ _ => x.rep
end
/-- a cell at a -/
def CellOk (w : Wd) (H : Hp) (a : Addr) : Cell → Prop
  | .l xs => ¬ w.fz a ∧ ∃ vs, H a = some (.lst vs) ∧ Reps w.fz H vs xs
  | .f xs => w.fz a ∧ ∃ vs, Rd H a (.lst vs) ∧ Reps w.fz H vs xs
  | .d t kvs => ¬ w.fz a ∧ Kvs w.fz H a t kvs ∧ ∀ o u, H a ≠ some (.frz o u)
  | .df t kvs => w.fz a ∧ Kvs w.fz H a t kvs
structure Ok (w : Wd) (H : Hp) (st : Sto) : Prop where
  wok : ∀ a, w.fz a → ∃ o, H a = some o
  len : w.mu.length = st.length
  cells : ∀ (n : Nat) c a, st[n]? = some c → w.mu[n]? = some a → CellOk w H a c
  nd : w.mu.Nodup
  kp : ∀ a, w.kp a → a ∉ w.mu ∧ ¬ w.fz a ∧ ∃ o, H a = some o
/-- what a slot holds -/
def RepA (w : Wd) (H : Hp) (v : V) : A → Prop
  | .v p => Rep w.fz H v p
  | .r n => ∃ a, w.mu[n]? = some a ∧ v = .ref a
structure RepE (w : Wd) (H : Hp) (σ : L2.St) (env : En) : Prop where
  len : σ.length = env.length
  at_ : ∀ (i : Nat) a, get env i = some a → ∃ v, σ[i]? = some (some v) ∧ RepA w H v a
section
variable {w w' : Wd} {H H' : Hp}
theorem Ext.repA (x : Ext w w' H H') {v : V} {a : A} (h : RepA w H v a) : RepA w' H' v a := by
  cases a with
  | v p => exact x.rep h
  | r n => obtain ⟨b, e, q⟩ := h; exact ⟨b, x.mu n b e, q⟩
theorem Ext.repE (x : Ext w w' H H') {σ : L2.St} {env : En} (h : RepE w H σ env) : RepE w' H' σ env := ⟨h.len, fun i a e =>
  let ⟨v, h1, h2⟩ := h.at_ i a e
  ⟨v, h1, x.repA h2⟩⟩
theorem lookC_eq : ∀ (st : Sto) (n : Nat), lookC st n = st[n]?
  | [], n => by simp [lookC]
  | c :: r, 0 => rfl
  | c :: r, n + 1 => by rw [lookC, lookC_eq r n]; simp
theorem putC_eq : ∀ (st : Sto) (n : Nat) (c : Cell), putC st n c = st.set n c
  | [], _, _ => rfl
  | _ :: r, 0, _ => rfl
  | b :: r, n + 1, c => by rw [putC, putC_eq r n c]; rfl
theorem get_put_same : ∀ {env : En} {i : Nat} {a : A}, get (put env i (some a)) i = some a ∨ env.length ≤ i
  | [], i, a => .inr (Nat.zero_le _)
  | _ :: r, 0, a => .inl rfl
  | _ :: r, i + 1, a => by
    rcases get_put_same (env := r) (i := i) (a := a) with h | h
    · exact .inl h
    · exact .inr (Nat.succ_le_succ h)
theorem get_put_ne : ∀ {env : En} {i j : Nat} {a : Option A}, j ≠ i → get (put env i a) j = get env j
  | [], _, _, _, _ => rfl
  | _ :: r, 0, 0, _, h => absurd rfl h
  | _ :: r, 0, j + 1, _, _ => rfl
  | _ :: r, i + 1, 0, _, _ => rfl
  | _ :: r, i + 1, j + 1, a, h => get_put_ne (env := r) (i := i) (j := j) (fun e => h (by rw [e]))
theorem get_some_lt : ∀ {env : En} {i : Nat} {a : A}, get env i = some a → i < env.length
  | [], _, _, h => nomatch h
  | _ :: r, 0, _, _ => Nat.zero_lt_succ _
  | _ :: r, i + 1, a, h => Nat.succ_lt_succ (get_some_lt (env := r) h)
theorem put_len : ∀ {env : En} {i : Nat} {a : Option A}, (put env i a).length = env.length
  | [], _, _ => rfl
  | _ :: r, 0, _ => rfl
  | _ :: r, i + 1, a => by
    show (put r i a).length + 1 = r.length + 1
    rw [put_len (env := r)]
theorem get_put_none : ∀ {env : En} {i : Nat}, get (put env i none) i = none
  | [], _ => rfl
  | _ :: r, 0 => rfl
  | _ :: r, i + 1 => get_put_none (env := r)
theorem RepE.put {σ : L2.St} {env : En} (h : RepE w H σ env) {i : Nat} {v : V} {a : A} (r : RepA w H v a) : RepE w H (σ.set i (some v)) (Rt.put env i (some a)) := by
  refine ⟨by rw [List.length_set, put_len]; exact h.len, fun j b e => ?_⟩
  have hj := get_some_lt e
  rw [put_len, ← h.len] at hj
  by_cases q : j = i
  · subst q
    have e2 : b = a := by
      rcases get_put_same (env := env) (i := j) (a := a) with z | z
      · rw [z] at e; exact (Option.some.inj e).symm
      · rw [← h.len] at z; omega
    subst e2
    exact ⟨v, by rw [List.getElem?_set_self hj], r⟩
  · rw [get_put_ne q] at e
    obtain ⟨u, h1, h2⟩ := h.at_ j b e
    exact ⟨u, by rw [List.getElem?_set_ne (Ne.symm q)]; exact h1, h2⟩
theorem RepE.none {σ : L2.St} {env : En} (h : RepE w H σ env) {i : Nat} : RepE w H (σ.set i none) (Rt.put env i none) := by
  refine ⟨by rw [List.length_set, put_len]; exact h.len, fun j b e => ?_⟩
  by_cases q : j = i
  · subst q; rw [get_put_none] at e; cases e
  · rw [get_put_ne q] at e
    obtain ⟨u, h1, h2⟩ := h.at_ j b e
    exact ⟨u, by rw [List.getElem?_set_ne (Ne.symm q)]; exact h1, h2⟩
theorem RepE.wipe {σ : L2.St} {env : En} (h : RepE w H σ env) : ∀ vs : List Nat, RepE w H (L2.wipe σ vs) (Rt.wipe env vs)
  | [] => h
  | v :: vs => (RepE.wipe h vs).none
end

/-! ### what must hold behind a reading -/
/-- the classes of errors by their numbers: where they stand, the name of their attribute -/
structure Gc where
  cl : Nat → Addr
  fld : Nat → PySem.Str
section
variable {α β α₁ β₁ : Type}
def Post (g : Gc) (E : XK) (rel : Wd → Hp → β → α → Prop) (w : Wd) (H : Hp) (r : R α) (Q : β → Hp → Prop) : Prop := match r with
  | .ok a st' => ∀ w' H' b, Ext w w' H H' → Ok w' H' st' → rel w' H' b a → Q b H'
  | .ex c p st' => ∀ w' H' d v, Ext w w' H H' → Ok w' H' st' → H' d = some (.xd [(g.fld c, v)]) → Rep w'.fz H' v p → E (.ref (g.cl c)) (some d) H'
  | .no => False
theorem Post.ext {g : Gc} {E : XK} {rel : Wd → Hp → β → α → Prop} {w w' : Wd} {H H' : Hp} {r : R α} {Q : β → Hp → Prop} (x : Ext w w' H H') (p : Post g E rel w H r Q) : Post g E rel w' H' r Q := by
  cases r with
  | ok a st => exact fun w2 H2 b y => p w2 H2 b (x.trans y)
  | ex c q st => exact fun w2 H2 d v y => p w2 H2 d v (x.trans y)
  | no => exact p
theorem Post.bind {g : Gc} {E : XK} {rel₁ : Wd → Hp → β₁ → α₁ → Prop} {rel : Wd → Hp → β → α → Prop} {w : Wd} {H : Hp} {m : M α₁} {k : α₁ → M α} {st : Sto} {Q : β → Hp → Prop} {Q₁ : β₁ → Hp → Prop}
    (p : Post g E rel w H (Rt.bind m k st) Q) (hk : ∀ a st' w' H' b, Ext w w' H H' → Ok w' H' st' → rel₁ w' H' b a → Post g E rel w' H' (k a st') Q → Q₁ b H') : Post g E rel₁ w H (m st) Q₁ := by
  unfold Rt.bind at p
  cases q : m st with
  | ok a st' =>
    rw [q] at p
    exact fun w' H' b x ok' r => hk a st' w' H' b x ok' r (Post.ext x p)
  | ex c p' st' => rw [q] at p; exact p
  | no => rw [q] at p; exact p
def Sim (g : Gc) (E : XK) (rel : Wd → Hp → β → α → Prop) (t : L2.St → Hp → (β → Hp → Prop) → Prop) (f : En → M α) : Prop :=
  ∀ (w : Wd) (σ : L2.St) (H : Hp) (env : En) (st : Sto) (Q : β → Hp → Prop), Ok w H st → RepE w H σ env → Post g E rel w H (f env st) Q → t σ H Q
/-- one thing behind another -/
theorem Sim.bind {g : Gc} {E : XK} {rel₁ : Wd → Hp → β₁ → α₁ → Prop} {rel : Wd → Hp → β → α → Prop} {t : L2.St → Hp → (β₁ → Hp → Prop) → Prop} {k : L2.St → β₁ → Hp → (β → Hp → Prop) → Prop} {f : En → M α₁} {fk : En → α₁ → M α}
    (h : Sim g E rel₁ t f)
    (hk : ∀ (w : Wd) (σ : L2.St) (H : Hp) (env : En) (st : Sto) (b : β₁) (a : α₁) (Q : β → Hp → Prop), Ok w H st → RepE w H σ env → rel₁ w H b a → Post g E rel w H (fk env a st) Q → k σ b H Q) :
    Sim g E rel (fun σ H Q => t σ H fun b H1 => k σ b H1 Q) (fun env => Rt.bind (f env) (fk env)) := by
  intro w σ H env st Q ok re post
  exact h w σ H env st _ ok re (Post.bind post fun a st' w' H' b x ok' r p => hk w' σ H' env st' b a Q ok' (x.repE re) r p)
end
abbrev relA : Wd → Hp → V → A → Prop := fun w H v a => RepA w H v a
abbrev relB : Wd → Hp → Bool → Bool → Prop := fun _ _ b c => b = c
abbrev relL : Wd → Hp → List V → List A → Prop := fun w H vs as => Paired (RepA w H) vs as

structure SE (X : L2.Cx) (g : Gc) (E : XK) (e : Expr) (f : Ex) : Prop where
  ex : ∃ t, PE X e t ∧ Sim g E relA t f
structure SC (X : L2.Cx) (g : Gc) (E : XK) (e : Expr) (f : Tx) : Prop where
  ex : ∃ t, PT X e t ∧ Sim g E relB t f
structure SA (X : L2.Cx) (g : Gc) (E : XK) (es : List Expr) (fs : List Ex) : Prop where
  ex : ∃ t, PA X es t ∧ Sim g E relL t (evs fs)
end Rt

set_option Elab.async false
set_option linter.all false
set_option maxRecDepth 100000
set_option autoImplicit false
namespace Rt
open PySem PySem.Spec PyProof.Rows L2

/-! ### new objects -/
section
variable {w w' : Wd} {H H' : Hp} {st : Sto}
theorem rd_to {H H' : Hp} {a : Addr} {u : HO} (ha : H' a = H a) (h : Rd H a u) : Rd H' a u := h.elim (fun e => .inl (ha.trans e)) fun ⟨o, e⟩ => .inr ⟨o, ha.trans e⟩
theorem rd_there {H : Hp} {a : Addr} {u : HO} (h : Rd H a u) : ∃ o, H a = some o := h.elim (fun e => ⟨_, e⟩) fun ⟨_, e⟩ => ⟨_, e⟩
theorem Kvs.keep (x : Ext w w' H H') {a : Addr} {t : Bool} {kvs : List (P × P)} (ha : H' a = H a) (h : Kvs w.fz H a t kvs) : Kvs w'.fz H' a t kvs := by
  rcases h with ⟨et, es, h1, h2⟩ | ⟨et, es, h1, h2⟩
  · exact .inl ⟨et, es, rd_to ha h1, Paired.imp h2 fun _ _ q => ⟨q.1, x.rep q.2⟩⟩
  · exact .inr ⟨et, es, rd_to ha h1, Paired.imp h2 fun _ _ q => ⟨q.1, x.rep q.2⟩⟩
theorem Kvs.there {F : Fz} {a : Addr} {t : Bool} {kvs : List (P × P)} (h : Kvs F H a t kvs) : ∃ o, H a = some o := by
  rcases h with ⟨_, es, h1, _⟩ | ⟨_, es, h1, _⟩ <;> exact rd_there h1
theorem CellOk.keep (x : Ext w w' H H') {a : Addr} {c : Cell} (ha : H' a = H a) (hf : w'.fz a → w.fz a) (h : CellOk w H a c) : CellOk w' H' a c := by
  cases c with
  | l xs => obtain ⟨f, vs, e, r⟩ := h; exact ⟨fun z => f (hf z), vs, ha.trans e, x.reps r⟩
  | f xs => obtain ⟨f, vs, e, r⟩ := h; exact ⟨(x.fz a f).1, vs, rd_to ha e, x.reps r⟩
  | d t kvs => obtain ⟨f, r, n⟩ := h; exact ⟨fun z => f (hf z), r.keep x ha, fun o u e => n o u (ha.symm.trans e)⟩
  | df t kvs => obtain ⟨f, r⟩ := h; exact ⟨(x.fz a f).1, r.keep x ha⟩
theorem CellOk.there {a : Addr} {c : Cell} (h : CellOk w H a c) : ∃ o, H a = some o := by
  cases c with
  | l xs => obtain ⟨_, vs, e, _⟩ := h; exact ⟨_, e⟩
  | f xs => obtain ⟨_, vs, e, _⟩ := h; exact rd_there e
  | d t kvs => exact h.2.1.there
  | df t kvs => exact h.2.there
theorem Ok.cell_of (ok : Ok w H st) {n : Nat} {a : Addr} (h : w.mu[n]? = some a) : ∃ c, st[n]? = some c ∧ CellOk w H a c := by
  have hn : n < st.length := by rw [← ok.len]; exact (List.getElem?_eq_some_iff.mp h).1
  exact ⟨st[n], List.getElem?_eq_getElem hn, ok.cells n _ a (List.getElem?_eq_getElem hn) h⟩
theorem Ok.mu_there (ok : Ok w H st) {a : Addr} (h : a ∈ w.mu) : ∃ o, H a = some o := by
  obtain ⟨n, hn⟩ := List.getElem?_of_mem h
  obtain ⟨c, _, q⟩ := ok.cell_of hn
  exact q.there
theorem Ok.fresh (ok : Ok w H st) {p : Addr} (h : H p = none) : p ∉ w.mu ∧ ¬ w.fz p := by
  refine ⟨fun z => ?_, fun z => ?_⟩
  · obtain ⟨o, e⟩ := ok.mu_there z
    rw [h] at e; cases e
  · obtain ⟨o, e⟩ := ok.wok p z
    rw [h] at e; cases e
theorem upd_none {H : Hp} {p a : Addr} {o : HO} (h : upd H p o a = none) : H a = none := by
  by_cases z : a = p
  · rw [z, upd_same] at h; cases h
  · rw [upd_ne z] at h; exact h
/-- a thing is laid at p; nothing else is changed -/
theorem Ext.laid (ok : Ok w H st) {p : Addr} {o : HO} (h : H p = none) : Ext w w H (upd H p o) :=
  ⟨fun a f => ⟨f, fun u e => .inl (by rw [upd_ne (ne_of_none e h)]; exact e)⟩, fun a xs e => by rw [upd_ne (ne_of_none e h)]; exact e, fun a b u e => by rw [upd_ne (ne_of_none e h)]; exact e, fun _ _ e => e, rfl, fun a k => by
    obtain ⟨_, _, o', e⟩ := ok.kp a k
    exact upd_ne (ne_of_none e h), fun a => ⟨upd_none, .inl⟩⟩
theorem Ok.laid (ok : Ok w H st) {p : Addr} {o : HO} (h : H p = none) : Ok w (upd H p o) st :=
  ⟨fun a f => by
    obtain ⟨u, e⟩ := ok.wok a f
    exact ⟨u, by rw [upd_ne (ne_of_none e h)]; exact e⟩, ok.len, fun n c a e1 e2 => by
    have q := ok.cells n c a e1 e2
    obtain ⟨u, e⟩ := q.there
    exact q.keep (Ext.laid ok h) (upd_ne (ne_of_none e h)) fun z => z, ok.nd, fun a k => by
    obtain ⟨k1, k2, o', e⟩ := ok.kp a k
    exact ⟨k1, k2, o', by rw [upd_ne (ne_of_none e h)]; exact e⟩⟩
/-- .. and is never changed -/
def Wd.hold (w : Wd) (p : Addr) : Wd := ⟨w.mu, fun a => w.fz a ∨ a = p, w.kp⟩
theorem Ext.held (ok : Ok w H st) {p : Addr} {o : HO} (h : H p = none) : Ext w (w.hold p) H (upd H p o) :=
  let x := Ext.laid (o := o) ok h
  ⟨fun a f => ⟨.inl f, (x.fz a f).2⟩, x.tup, x.frz, x.mu, rfl, x.ke, x.nw⟩
theorem Ok.held (ok : Ok w H st) {p : Addr} {o : HO} (h : H p = none) : Ok (w.hold p) (upd H p o) st :=
  ⟨fun a f => by
    rcases f with f | f
    · exact (ok.laid h).wok a f
    · exact ⟨o, by rw [f]; exact upd_same⟩, ok.len, fun n c a e1 e2 => by
    have q := ok.cells n c a e1 e2
    obtain ⟨u, e⟩ := q.there
    exact q.keep (Ext.held ok h) (upd_ne (ne_of_none e h)) fun z => z.elim (fun z => z) fun z => absurd z (ne_of_none e h), ok.nd, fun a k => by
    obtain ⟨k1, k2, o', e⟩ := ok.kp a k
    exact ⟨k1, fun z => z.elim k2 fun z => absurd z (ne_of_none e h), o', by rw [upd_ne (ne_of_none e h)]; exact e⟩⟩
/-- .. and is a cell of its own -/
def Wd.cell (w : Wd) (p : Addr) : Wd := ⟨w.mu ++ [p], w.fz, w.kp⟩
theorem mu_snoc {mu : List Addr} {p a : Addr} {n : Nat} (h : mu[n]? = some a) : (mu ++ [p])[n]? = some a := by
  rw [List.getElem?_append_left (List.getElem?_eq_some_iff.mp h).1]; exact h
theorem mu_last {mu : List Addr} {p : Addr} : (mu ++ [p])[mu.length]? = some p := by simp
theorem Ext.celled (ok : Ok w H st) {p : Addr} {o : HO} (h : H p = none) : Ext w (w.cell p) H (upd H p o) :=
  let x := Ext.laid (o := o) ok h
  ⟨x.fz, x.tup, x.frz, fun n a e => mu_snoc e, rfl, x.ke, fun a => ⟨(x.nw a).1, fun z => (List.mem_append.mp (show a ∈ w.mu ++ [p] from z)).elim .inl fun z => .inr (by rw [List.mem_singleton.mp z]; exact h)⟩⟩
theorem Ok.celled (ok : Ok w H st) {p : Addr} {o : HO} {c : Cell} (h : H p = none) (hc : CellOk (w.cell p) (upd H p o) p c) : Ok (w.cell p) (upd H p o) (st ++ [c]) := by
  refine ⟨(ok.laid h).wok, ?_, fun n d a e1 e2 => ?_, ?_, fun a k => ?_⟩
  · show (w.mu ++ [p]).length = _
    rw [List.length_append, List.length_append, ok.len]; rfl
  · have e2 : (w.mu ++ [p])[n]? = some a := e2
    by_cases hn : n < w.mu.length
    · rw [List.getElem?_append_left hn] at e2
      rw [List.getElem?_append_left (by rw [← ok.len]; exact hn)] at e1
      have q := ok.cells n d a e1 e2
      obtain ⟨u, e⟩ := q.there
      exact q.keep (Ext.celled ok h) (upd_ne (ne_of_none e h)) fun z => z
    · have e : n = w.mu.length := by
        have := (List.getElem?_eq_some_iff.mp e2).1
        rw [List.length_append] at this
        simp at this
        omega
      subst e
      rw [mu_last] at e2
      cases e2
      have e3 : (st ++ [c])[w.mu.length]? = some c := by rw [ok.len]; simp
      rw [e3] at e1
      cases e1
      exact hc
  · show (w.mu ++ [p]).Nodup
    rw [List.nodup_append]
    exact ⟨ok.nd, List.nodup_cons.mpr ⟨by simp, List.nodup_nil⟩, fun a ha b hb e => by
      have hb : b = p := by simpa using hb
      rw [e, hb] at ha
      exact (ok.fresh h).1 ha⟩
  · obtain ⟨k1, k2, o', e⟩ := ok.kp a k
    refine ⟨fun z => ?_, k2, o', by rw [upd_ne (ne_of_none e h)]; exact e⟩
    rcases List.mem_append.mp (show a ∈ w.mu ++ [p] from z) with z | z
    · exact k1 z
    · have z : a = p := by simpa using z
      rw [z, h] at e; cases e
end

/-! ### reading operands as they are now -/
def Cur (w : Wd) (H : Hp) (x : V) : P → Prop
  | .lst ps => ∃ a vs, x = .ref a ∧ Rd H a (.lst vs) ∧ Reps w.fz H vs ps
  | .dic t kvs => ∃ a, x = .ref a ∧ Kvs w.fz H a t kvs
  | p => Rep w.fz H x p
section
variable {w : Wd} {H : Hp} {st : Sto} {x y : V} {a b : A} {p : P}
theorem Rep.cur (h : Rep w.fz H x p) : Cur w H x p := by
  cases p with
  | lst ps => obtain ⟨a, vs, e, s, r⟩ := h.lst_inv; exact ⟨a, vs, e, s.rd, r⟩
  | dic t kvs => obtain ⟨a, e, _, r⟩ := h.dic_inv; exact ⟨a, e, r⟩
  | non => exact h
  | bl _ => exact h
  | int _ => exact h
  | str _ => exact h
  | tup _ => exact h
  | set _ => exact h
theorem now_cur (ok : Ok w H st) (ra : RepA w H x a) (h : now a st = some p) : Cur w H x p := by
  cases a with
  | v q => cases h; exact Rep.cur ra
  | r n =>
    obtain ⟨ad, e, ex⟩ := ra
    obtain ⟨c, hc, q⟩ := ok.cell_of e
    have h : (match lookC st n with
      | some (.l xs) => some (P.lst xs)
      | some (.f xs) => some (P.lst xs)
      | some (.d t kvs) => some (P.dic t kvs)
      | some (.df t kvs) => some (P.dic t kvs)
      | none => none) = some p := h
    rw [lookC_eq, hc] at h
    cases c with
    | l xs => cases h; obtain ⟨_, vs, e2, r⟩ := q; exact ⟨ad, vs, ex, .inl e2, r⟩
    | f xs => cases h; obtain ⟨_, vs, e2, r⟩ := q; exact ⟨ad, vs, ex, e2, r⟩
    | d t kvs => cases h; exact ⟨ad, ex, q.2.1⟩
    | df t kvs => cases h; exact ⟨ad, ex, q.2⟩
variable {g : Gc} {E : XK}
theorem rd1_inv {gg : P → Option P} {Q : V → Hp → Prop} (ok : Ok w H st) (ra : RepA w H x a) (post : Post g E relA w H (rd1 gg a st) Q) :
    ∃ p r, gg p = some r ∧ Cur w H x p ∧ ∀ w' H' v, Ext w w' H H' → Ok w' H' st → Rep w'.fz H' v r → Q v H' := by
  unfold rd1 at post
  cases e : now a st with
  | none => rw [e] at post; exact post.elim
  | some p =>
    rw [e] at post
    have post : Post g E relA w H (opt ((gg p).map A.v) st) Q := post
    cases q : gg p with
    | none => rw [q] at post; exact post.elim
    | some r => rw [q] at post; exact ⟨p, r, q, now_cur ok ra e, fun w' H' v x ok' r' => post w' H' v x ok' r'⟩
theorem rd2_inv {gg : P → P → Option P} {Q : V → Hp → Prop} (ok : Ok w H st) (ra : RepA w H x a) (rb : RepA w H y b) (post : Post g E relA w H (rd2 gg a b st) Q) :
    ∃ p q r, gg p q = some r ∧ Cur w H x p ∧ Cur w H y q ∧ ∀ w' H' v, Ext w w' H H' → Ok w' H' st → Rep w'.fz H' v r → Q v H' := by
  unfold rd2 at post
  cases e : now a st with
  | none => rw [e] at post; exact post.elim
  | some p =>
    cases e2 : now b st with
    | none => rw [e, e2] at post; exact post.elim
    | some q =>
      rw [e, e2] at post
      have post : Post g E relA w H (opt ((gg p q).map A.v) st) Q := post
      cases z : gg p q with
      | none => rw [z] at post; exact post.elim
      | some r => rw [z] at post; exact ⟨p, q, r, z, now_cur ok ra e, now_cur ok rb e2, fun w' H' v x ok' r' => post w' H' v x ok' r'⟩
theorem rdB_inv {gg : P → P → Option Bool} {Q : Bool → Hp → Prop} (ok : Ok w H st) (ra : RepA w H x a) (rb : RepA w H y b) (post : Post g E relB w H (rdB gg a b st) Q) :
    ∃ p q r, gg p q = some r ∧ Cur w H x p ∧ Cur w H y q ∧ ∀ w' H', Ext w w' H H' → Ok w' H' st → Q r H' := by
  unfold rdB at post
  cases e : now a st with
  | none => rw [e] at post; exact post.elim
  | some p =>
    cases e2 : now b st with
    | none => rw [e, e2] at post; exact post.elim
    | some q =>
      rw [e, e2] at post
      have post : Post g E relB w H (opt (gg p q) st) Q := post
      cases z : gg p q with
      | none => rw [z] at post; exact post.elim
      | some r => rw [z] at post; exact ⟨p, q, r, z, now_cur ok ra e, now_cur ok rb e2, fun w' H' x ok' => post w' H' r x ok' rfl⟩
/-- a new list that may be changed -/
theorem new_post {xs : List P} {vs : List V} {Q : V → Hp → Prop} (ok : Ok w H st) (r : Reps w.fz H vs xs) (post : Post g E relA w H (fresh xs st) Q) (p : Addr) (hp : H p = none) : Q (.ref p) (upd H p (.lst vs)) := by
  have x := Ext.celled (o := .lst vs) ok hp
  refine post (w.cell p) _ _ x (ok.celled hp ⟨(ok.fresh hp).2, vs, upd_same, x.reps r⟩) ⟨p, ?_, rfl⟩
  show (w.mu ++ [p])[st.length]? = some p
  rw [← ok.len]
  exact mu_last
theorem newL_inv {o : Option P} {Q : V → Hp → Prop} (post : Post g E relA w H (newL o st) Q) : ∃ xs, o = some (.lst xs) ∧ Post g E relA w H (fresh xs st) Q := by
  cases o with
  | none => exact post.elim
  | some p =>
    cases p with
    | lst xs => exact ⟨xs, rfl, post⟩
    | _ => exact post.elim
theorem rd2F_inv {gg : P → P → Option P} {Q : V → Hp → Prop} (ok : Ok w H st) (ra : RepA w H x a) (rb : RepA w H y b) (post : Post g E relA w H (rd2F gg a b st) Q) :
    ∃ p q xs, gg p q = some (.lst xs) ∧ Cur w H x p ∧ Cur w H y q ∧ Post g E relA w H (fresh xs st) Q := by
  unfold rd2F at post
  cases e : now a st with
  | none => rw [e] at post; exact post.elim
  | some p =>
    cases e2 : now b st with
    | none => rw [e, e2] at post; exact post.elim
    | some q =>
      rw [e, e2] at post
      obtain ⟨xs, h, post⟩ := newL_inv post
      exact ⟨p, q, xs, h, now_cur ok ra e, now_cur ok rb e2, post⟩
theorem rd1F_inv {gg : P → Option P} {Q : V → Hp → Prop} (ok : Ok w H st) (ra : RepA w H x a) (post : Post g E relA w H (rd1F gg a st) Q) :
    ∃ p xs, gg p = some (.lst xs) ∧ Cur w H x p ∧ Post g E relA w H (fresh xs st) Q := by
  unfold rd1F at post
  cases e : now a st with
  | none => rw [e] at post; exact post.elim
  | some p =>
    rw [e] at post
    obtain ⟨xs, h, post⟩ := newL_inv post
    exact ⟨p, xs, h, now_cur ok ra e, post⟩
/-- a value that is laid anew: a tuple; a list that is changed no more -/
theorem tup_post {ps : List P} {vs : List V} {Q : V → Hp → Prop} (ok : Ok w H st) (r : Reps w.fz H vs ps) (q : ∀ w' H' v, Ext w w' H H' → Ok w' H' st → Rep w'.fz H' v (.tup ps) → Q v H') (p : Addr) (hp : H p = none) : Q (.ref p) (upd H p (.tup vs)) :=
  let x := Ext.laid (o := .tup vs) ok hp
  q w _ _ x (ok.laid hp) (Rep.tup upd_same (x.reps r))
theorem lst_post {ps : List P} {vs : List V} {Q : V → Hp → Prop} (ok : Ok w H st) (r : Reps w.fz H vs ps) (q : ∀ w' H' v, Ext w w' H H' → Ok w' H' st → Rep w'.fz H' v (.lst ps) → Q v H') (p : Addr) (hp : H p = none) : Q (.ref p) (upd H p (.lst vs)) :=
  let x := Ext.held (o := .lst vs) ok hp
  q (w.hold p) _ _ x (ok.held hp) (Rep.lst (.inl ⟨.inr rfl, upd_same⟩) (x.reps r))
end

/-! ### names, constants -/
section
variable {X : L2.Cx} {g : Gc} {E : XK} {pos : Pos}
theorem se_int {i : Int} {j : Nat} : SE X g E (.Constant (.int i) j pos) (eC (.int i)) := ⟨_, pe_int, fun w σ H env st Q ok re p => p w H _ Ext.refl ok Rep.int⟩
theorem se_bl {b : Bool} {j : Nat} : SE X g E (.Constant (.bool b) j pos) (eC (.bl b)) := ⟨_, pe_bl, fun w σ H env st Q ok re p => p w H _ Ext.refl ok Rep.bl⟩
theorem se_non {j : Nat} : SE X g E (.Constant .none j pos) (eC .non) := ⟨_, pe_non, fun w σ H env st Q ok re p => p w H _ Ext.refl ok Rep.non⟩
theorem se_str {x : PySem.Str} {s : List Nat} {j : Nat} (h : x = ⟨s.toArray⟩) : SE X g E (.Constant (.str x) j pos) (eC (.str s)) := ⟨_, pe_str, fun w σ H env st Q ok re p => by
  subst h
  exact p w H _ Ext.refl ok Rep.str⟩
theorem se_neg {i : Int} {j : Nat} {pos' : Pos} : SE X g E (.UnaryOp .USub (.Constant (.int i) j pos') pos) (eC (.int (-i))) := ⟨_, pe_un un_neg pe_int, fun w σ H env st Q ok re p => ⟨i, rfl, p w H _ Ext.refl ok Rep.int⟩⟩
theorem se_var {i : Nat} {x : PySem.Str} (hN : X.N[i]? = some x) (hv : Vis X.env.scope x) (hd : (x == ("__debug__" : PySem.Str)) = false := by decide) (hcd : (x == ("__classdict__" : PySem.Str)) = false := by decide) : SE X g E (.Name x pos) (eV i) := by
  refine ⟨_, pe_var hN hv hd hcd, fun w σ H env st Q ok re p => ?_⟩
  have p : Post g E relA w H (opt (get env i) st) Q := p
  cases e : get env i with
  | none => rw [e] at p; exact p.elim
  | some a =>
    rw [e] at p
    obtain ⟨v, h1, h2⟩ := re.at_ i a e
    exact ⟨v, h1, p w H v Ext.refl ok h2⟩
/-- a module's constant -/
theorem se_globI {x : PySem.Str} {i : Int} (hg : Gl X x) (hm : ∃ t, X.mg x = some (.int i t)) (hd : (x == ("__debug__" : PySem.Str)) = false := by decide) : SE X g E (.Name x pos) (eC (.int i)) := by
  obtain ⟨t, hm⟩ := hm
  exact ⟨_, pe_glob (v := .int i) hg hm ⟨t, rfl⟩ hd, fun w σ H env st Q ok re p => p w H _ Ext.refl ok Rep.int⟩
theorem se_globS {x y : PySem.Str} {s : List Nat} (hg : Gl X x) (hm : ∃ t, X.mg x = some (.str y t)) (h : y = ⟨s.toArray⟩) (hd : (x == ("__debug__" : PySem.Str)) = false := by decide) : SE X g E (.Name x pos) (eC (.str s)) := by
  obtain ⟨t, hm⟩ := hm
  subst h
  exact ⟨_, pe_glob (v := .str ⟨s.toArray⟩) hg hm ⟨t, rfl⟩ hd, fun w σ H env st Q ok re p => p w H _ Ext.refl ok Rep.str⟩
end

/-! ### operators -/
def OpS (g : Gc) (E : XK) (r : R2) (f : A → A → M A) : Prop :=
  ∀ (w : Wd) (H : Hp) (st : Sto) (x y : V) (a b : A) (Q : VK), Ok w H st → RepA w H x a → RepA w H y b → Post g E relA w H (f a b st) Q → r x y H Q
section
variable {X : L2.Cx} {g : Gc} {E : XK} {pos : Pos}
theorem sim2 {ta tb : TE} {fa fb : Ex} {r : R2} {f : A → A → M A} (ha : Sim g E relA ta fa) (hb : Sim g E relA tb fb) (hr : OpS g E r f) : Sim g E relA (tOp r ta tb) (e2 f fa fb) := by
  refine Sim.bind (t := ta) (k := fun σ x H1 Q => tb σ H1 fun y H2 => r x y H2 Q) (f := fa) (fk := fun env x => Rt.bind (fb env) fun y => f x y) ha fun w σ H env st b a Q ok re ra post => ?_
  exact hb w σ H env st _ ok re (Post.bind post fun y st' w' H' v x ok' r' p => hr w' H' st' b v a y Q ok' (x.repA ra) r' p)
theorem se_op {op : Operator} {r : R2} {f : A → A → M A} {a b : Expr} {fa fb : Ex} (ho : OpR X (binaryOp op) r) (hr : OpS g E r f) (ha : SE X g E a fa) (hb : SE X g E b fb) : SE X g E (.BinOp a op b pos) (e2 f fa fb) := by
  obtain ⟨ta, pa, sa⟩ := ha
  obtain ⟨tb, pb, sb⟩ := hb
  exact ⟨_, pe_op ho pa pb, sim2 sa sb hr⟩
end
end Rt

set_option Elab.async false
set_option linter.all false
set_option maxRecDepth 100000
set_option autoImplicit false
namespace Rt
open PySem PySem.Spec PyProof.Rows L2

/-! ### rules by values that the layer has in part -/
section
variable {X : L2.Cx}
/-- list + list, of any standing -/
def rCatL (K : PySem.W.Frag) : R2 := fun x y H Q => ∃ l b xs zs, x = .ref l ∧ y = .ref b ∧ SqL K H l xs ∧ SqL K H b zs ∧ xs.length + zs.length ≤ sizeLine ∧ ∀ p, H p = none → Q (.ref p) (upd H p (.lst (xs ++ zs)))
theorem op_catL : OpR X (binaryOp .Add) (rCatL X.K) := by
  intro pins s σ H x y v u Q I rx ry h
  obtain ⟨l, b, xs, zs, rfl, rfl, hH, hB, hz, q⟩ := h
  cases rx
  cases ry
  obtain ⟨its, r, hl, z⟩ := I.list hH
  obtain ⟨its2, r2, hl2, z2⟩ := I.list hB
  obtain ⟨⟨cls, dd, data, sl⟩, n, ho, hc, hd0, hd⟩ := hl
  obtain ⟨⟨cls2, dd2, data2, sl2⟩, n2, ho2, hc2, hd02, hd2⟩ := hl2
  simp only at hc hd hc2 hd2
  subst hc hd hc2 hd2
  have e1 := r.length
  have e2 := r2.length
  have ea : its.toArray ++ its2.toArray = (its ++ its2).toArray := by simp
  refine concat_meets ⟨_, ho, rfl⟩ ⟨_, ho2, rfl⟩ noFill_list_add seq_list_add PySem.F.slot_list_add PySem.F.entry_list_add (PySem.F.args_list_add_2 _ _) (list_addW l b its.toArray its2.toArray n n2 dd dd2 sl sl2 (by rw [List.size_toArray, List.size_toArray]; omega)) ⟨ho, ho2, ?_⟩
  rw [ea]
  exact ⟨.ref _, _, I.lnew (t' := s.toks) (r.append r2) (by rw [List.length_append]; omega), rfl, q _ I.fresh⟩
end

/-! ### arithmetic -/
section
variable {X : L2.Cx} {K : PySem.W.Frag} {g : Gc} {E : XK}
theorem line_eq : (line : Nat) = sizeLine := by rw [sizeLine_eq]; rfl
theorem cur_int {w : Wd} {H : Hp} {x : V} {i : Int} (c : Cur w H x (.int i)) : x = .int i := Rep.int_inv c
theorem strLen {s : List Nat} : (⟨s.toArray⟩ : PySem.Str).length = s.length := by
  show s.toArray.size = s.length
  simp
theorem strApp {s t : List Nat} : ((⟨s.toArray⟩ : PySem.Str) ++ ⟨t.toArray⟩) = ⟨(s ++ t).toArray⟩ := by
  show PySem.Str.mk (s.toArray ++ t.toArray) = _
  simp

def rAdd (K : PySem.W.Frag) : R2 := fun x y H Q => (rI0 (fun i j => .int (i + j)) x y H Q ∨ (∃ i j, x = .str i ∧ y = .str j ∧ i.length + j.length ≤ sizeLine ∧ Q (.str (i ++ j)) H)) ∨ (rCatA K x y H Q ∨ rCatL K x y H Q)
theorem or_add : OpR X (binaryOp .Add) (rAdd X.K) := OpR.or (OpR.or op_add op_add_str) (OpR.or op_catA op_catL)
theorem os_add : OpS g E (rAdd K) (rd2 addP) := by
  intro w H st x y a b Q ok ra rb post
  obtain ⟨p, q, r, h, cx, cy, fin⟩ := rd2_inv ok ra rb post
  cases p with
  | int i => cases q with
    | int j => cases h; exact .inl (.inl ⟨i, j, cur_int cx, cur_int cy, fin w H _ Ext.refl ok Rep.int⟩)
    | _ => cases h
  | str s => cases q with
    | str t =>
      have h : (if Nat.ble (s.length + t.length) line then some (P.str (s ++ t)) else none) = some r := h
      split at h
      · rename_i hl
        cases h
        refine .inl (.inr ⟨_, _, Rep.str_inv cx, Rep.str_inv cy, ?_, ?_⟩)
        · rw [strLen, strLen, ← line_eq]; exact Nat.le_of_ble_eq_true hl
        · rw [strApp]; exact fin w H _ Ext.refl ok Rep.str
      · cases h
    | _ => cases h
  | tup xs => cases q with
    | tup ys =>
      have h : (if Nat.ble (xs.length + ys.length) line then some (P.tup (xs ++ ys)) else none) = some r := h
      split at h
      · rename_i hl
        cases h
        obtain ⟨aa, vs, ex, sx, rx⟩ := Rep.tup_inv cx
        obtain ⟨bb, us, ey, sy, ry⟩ := Rep.tup_inv cy
        have l1 := Paired.len rx
        have l2 := Paired.len ry
        refine .inr (.inl ⟨aa, bb, vs, us, ex, ey, SqT.of sx, SqT.of sy, by rw [l1, l2, ← line_eq]; exact Nat.le_of_ble_eq_true hl, fun e => ?_, fun e e2 => ?_, fun e e2 p hp => ?_⟩)
        · subst e; cases rx; exact fin w H _ Ext.refl ok (Rep.tup sy ry)
        · subst e2; cases ry; rw [List.append_nil] at fin; exact fin w H _ Ext.refl ok (Rep.tup sx rx)
        · exact tup_post ok (Paired.app rx ry) fin p hp
      · cases h
    | _ => cases h
  | lst xs => cases q with
    | lst ys =>
      have h : (if Nat.ble (xs.length + ys.length) line then some (P.lst (xs ++ ys)) else none) = some r := h
      split at h
      · rename_i hl
        cases h
        obtain ⟨aa, vs, ex, sx, rx⟩ := cx
        obtain ⟨bb, us, ey, sy, ry⟩ := cy
        have l1 := Paired.len rx
        have l2 := Paired.len ry
        exact .inr (.inr ⟨aa, bb, vs, us, ex, ey, .inl sx, .inl sy, by rw [l1, l2, ← line_eq]; exact Nat.le_of_ble_eq_true hl, fun p hp => lst_post ok (Paired.app rx ry) fin p hp⟩)
      · cases h
    | _ => cases h
  | _ => cases h
theorem os_addF : OpS g E (rAdd K) (rd2F addP) := by
  intro w H st x y a b Q ok ra rb post
  obtain ⟨p, q, r, h, cx, cy, fin⟩ := rd2F_inv ok ra rb post
  cases p with
  | lst xs => cases q with
    | lst ys =>
      have h : (if Nat.ble (xs.length + ys.length) line then some (P.lst (xs ++ ys)) else none) = some (.lst r) := h
      split at h
      · rename_i hl
        cases h
        obtain ⟨aa, vs, ex, sx, rx⟩ := cx
        obtain ⟨bb, us, ey, sy, ry⟩ := cy
        have l1 := Paired.len rx
        have l2 := Paired.len ry
        exact .inr (.inr ⟨aa, bb, vs, us, ex, ey, .inl sx, .inl sy, by rw [l1, l2, ← line_eq]; exact Nat.le_of_ble_eq_true hl, fun p hp => new_post ok (Paired.app rx ry) fin p hp⟩)
      · cases h
    | _ => cases h
  | int i => cases q <;> cases h
  | str s => cases q with
    | str t =>
      have h : (if Nat.ble (s.length + t.length) line then some (P.str (s ++ t)) else none) = some (.lst r) := h
      split at h <;> cases h
    | _ => cases h
  | tup s => cases q with
    | tup t =>
      have h : (if Nat.ble (s.length + t.length) line then some (P.tup (s ++ t)) else none) = some (.lst r) := h
      split at h <;> cases h
    | _ => cases h
  | _ => cases h
/-- an operation of ints alone -/
theorem os_int {C : Int → Int → Prop} {f : Int → Int → Int} {gg : P → P → Option P} (h : ∀ p q r, gg p q = some r → ∃ i j, p = .int i ∧ q = .int j ∧ C i j ∧ r = .int (f i j)) : OpS g E (rI C fun i j => .int (f i j)) (rd2 gg) := by
  intro w H st x y a b Q ok ra rb post
  obtain ⟨p, q, r, e, cx, cy, fin⟩ := rd2_inv ok ra rb post
  obtain ⟨i, j, rfl, rfl, c, rfl⟩ := h p q r e
  exact ⟨i, j, cur_int cx, cur_int cy, c, fin w H _ Ext.refl ok Rep.int⟩
theorem os_int0 {f : Int → Int → Int} {gg : P → P → Option P} (h : ∀ p q r, gg p q = some r → ∃ i j, p = .int i ∧ q = .int j ∧ r = .int (f i j)) : OpS g E (rI0 fun i j => .int (f i j)) (rd2 gg) := by
  intro w H st x y a b Q ok ra rb post
  obtain ⟨p, q, r, e, cx, cy, fin⟩ := rd2_inv ok ra rb post
  obtain ⟨i, j, rfl, rfl, rfl⟩ := h p q r e
  exact ⟨i, j, cur_int cx, cur_int cy, fin w H _ Ext.refl ok Rep.int⟩
theorem os_sub : OpS g E (rI0 fun i j => .int (i - j)) (rd2 subP) := os_int0 fun p q r e => by
  cases p <;> cases q <;> cases e
  exact ⟨_, _, rfl, rfl, rfl⟩
theorem os_mod : OpS g E (rI (fun _ j => 0 < j) fun i j => .int (i % j)) (rd2 modP) := os_int fun p q r e => by
  cases p with
  | int i => cases q with
    | int j =>
      have e : (if decide (0 < j) then some (P.int (i % j)) else none) = some r := e
      split at e
      · rename_i h; cases e; exact ⟨i, j, rfl, rfl, of_decide_eq_true h, rfl⟩
      · cases e
    | _ => cases e
  | _ => cases q <;> cases e
theorem os_div : OpS g E (rI CDiv fun i j => .int (i / j)) (rd2 divP) := os_int fun p q r e => by
  cases p with
  | int i => cases q with
    | int j =>
      have e : (if decide (0 < j) && decide (j < 1073741824) then some (P.int (i / j)) else none) = some r := e
      split at e
      · rename_i h
        simp only [Bool.and_eq_true, decide_eq_true_eq] at h
        cases e; exact ⟨i, j, rfl, rfl, h, rfl⟩
      · cases e
    | _ => cases e
  | _ => cases q <;> cases e
theorem pow_cond {i j : Int} (h : (decide (0 ≤ j) && decide (j ≤ 1000000) && decide (-big < i) && decide (i < big)) = true) : CPow i j := by
  simp only [Bool.and_eq_true, decide_eq_true_eq] at h
  obtain ⟨⟨⟨h1, h2⟩, h3⟩, h4⟩ := h
  unfold big at h3 h4
  exact ⟨h1, h2, by omega⟩
theorem os_pow : OpS g E (rI CPow fun i j => .int (i ^ j.toNat)) (rd2 powP) := os_int fun p q r e => by
  cases p with
  | int i => cases q with
    | int j =>
      have e : (if decide (0 ≤ j) && decide (j ≤ 1000000) && decide (-big < i) && decide (i < big) then some (P.int (i ^ j.toNat)) else none) = some r := e
      split at e
      · rename_i h; cases e; exact ⟨i, j, rfl, rfl, pow_cond h, rfl⟩
      · cases e
    | _ => cases e
  | _ => cases q <;> cases e
theorem os_shl : OpS g E (rI CPow fun i j => .int (i * 2 ^ j.toNat)) (rd2 shlP) := os_int fun p q r e => by
  cases p with
  | int i => cases q with
    | int j =>
      have e : (if decide (0 ≤ j) && decide (j ≤ 1000000) && decide (-big < i) && decide (i < big) then some (P.int (i * 2 ^ j.toNat)) else none) = some r := e
      split at e
      · rename_i h; cases e; exact ⟨i, j, rfl, rfl, pow_cond h, rfl⟩
      · cases e
    | _ => cases e
  | _ => cases q <;> cases e
theorem os_shr : OpS g E (rI (fun _ j => 0 ≤ j) fun i j => .int (i / 2 ^ j.toNat)) (rd2 shrP) := os_int fun p q r e => by
  cases p with
  | int i => cases q with
    | int j =>
      have e : (if decide (0 ≤ j) then some (P.int (i / 2 ^ j.toNat)) else none) = some r := e
      split at e
      · rename_i h; cases e; exact ⟨i, j, rfl, rfl, of_decide_eq_true h, rfl⟩
      · cases e
    | _ => cases e
  | _ => cases q <;> cases e
theorem os_and : OpS g E (rI0 fun i j => .int (Builtin.bitAnd i j)) (rd2 andP) := os_int0 fun p q r e => by
  cases p with
  | int i => cases q with
    | int j =>
      have e : (if decide (0 ≤ i) && decide (0 ≤ j) then some (P.int (Int.ofNat (i.toNat &&& j.toNat))) else none) = some r := e
      split at e
      · rename_i h
        simp only [Bool.and_eq_true, decide_eq_true_eq] at h
        cases e
        refine ⟨i, j, rfl, rfl, ?_⟩
        rw [bitAnd_pp h.1 h.2]
        rfl
      · cases e
    | _ => cases e
  | _ => cases q <;> cases e
theorem os_or : OpS g E (rI0 fun i j => .int (Builtin.bitOr i j)) (rd2 orP) := os_int0 fun p q r e => by
  cases p with
  | int i => cases q with
    | int j =>
      have e : (if decide (0 ≤ i) && decide (0 ≤ j) then some (P.int (Int.ofNat (i.toNat ||| j.toNat))) else none) = some r := e
      split at e
      · rename_i h
        simp only [Bool.and_eq_true, decide_eq_true_eq] at h
        cases e
        refine ⟨i, j, rfl, rfl, ?_⟩
        rw [bitOr_nn h.1 h.2]
        rfl
      · cases e
    | _ => cases e
  | _ => cases q <;> cases e
end
end Rt

set_option Elab.async false
set_option linter.all false
set_option maxRecDepth 100000
set_option autoImplicit false
set_option maxHeartbeats 4000000
namespace Rt
open PySem PySem.Spec PyProof.Rows L2
open AutoSeq1 (wpAny_loadPart')

/-! ### lists and tuples times ints -/
theorem int_rmul_listW (a : Int) (t : Tok) (l : Addr) (items : Array Value) (n : Nat) (dd : Option Addr) (sl : Array (Option Value)) :
    Meets (Builtin.«int.__rmul__» ⟨[.int a t, .ref l], []⟩) (fun _ R s => s.heap.get? l = some { cls := .type "list", dict := dd, data := .seq items n, slots := sl } ∧ R (.ok (.ret Value.notImplemented)) s) :=
  .of_wp fun prog w A R s h => by obtain ⟨hp, g, d, tk, os⟩ := s; obtain ⟨hl, h⟩ := h; wp_walk using wpAny_loadPart' hl; exact ⟨_, rfl, h⟩
theorem list_mulW (l : Addr) (items : Array Value) (n : Nat) (dd : Option Addr) (sl : Array (Option Value)) (x : Int) (u : Tok) (hc0 : ¬(!Builtin.List.listFitsIndex x) = true) (hc1 : ¬items.size * x.toNat > (2 ^ 63 - 1) / 8) (hc2 : ¬Builtin.List.listTooLong (items.size * x.toNat) = true) :
    Meets (Builtin.«list.__mul__» ⟨[.ref l, .int x u], []⟩) (fun _ R s => s.heap.get? l = some { cls := .type "list", dict := dd, data := .seq items n, slots := sl } ∧ R (.ok (.ret (Value.ref s.heap.objs.size))) { s with heap := s.heap.push { cls := Value.type "list", data := Data.seq (List.foldl (fun x1 x2 => x1 ++ x2) #[] (List.replicate (if items.isEmpty = true then 0 else x.toNat) items)) }, toks := s.toks }) :=
  .of_wp fun prog w A R s h => by
    obtain ⟨hp, g, d, tk, os⟩ := s; obtain ⟨hl, h⟩ := h
    have hsz := AutoListH.joined_fits hc2
    have f1 := AutoSeq1.idx_int
    wp_walk using wpAny_loadPart' hl; refine wpAny_ite_false (decide_eq_false (Nat.not_lt.mpr hsz)) ?_; wp_walk using wpAny_loadPart' hl; exact ⟨_, rfl, h⟩
section
variable {X : L2.Cx}
def rRepL (K : PySem.W.Frag) : R2 := fun x y H Q => ∃ l k xs, x = .ref l ∧ y = .int k ∧ SqL K H l xs ∧ -(2 ^ 63) ≤ k ∧ k < 2 ^ 63 ∧ xs.length * k.toNat ≤ sizeLine ∧
  ∀ p, H p = none → Q (.ref p) (upd H p (.lst (List.replicate k.toNat xs).flatten))
theorem op_repL : OpR X (binaryOp .Mult) (rRepL X.K) := by
  intro pins s σ H x y v u Q I rx ry h
  obtain ⟨l, k, xs, rfl, rfl, hH, h1, h2, hz, q⟩ := h
  cases rx
  obtain ⟨t, rfl⟩ := ry
  obtain ⟨its, r, ⟨⟨cls, dd, data, sl⟩, n, ho, hc, _, hd⟩, _⟩ := I.list hH
  simp only at hc hd
  subst hc hd
  have hl := r.length
  have hlen : its.toArray.size * k.toNat ≤ sizeLine := by rw [List.size_toArray, ← hl]; exact hz
  have hcap : ¬ its.toArray.size * k.toNat > (2 ^ 63 - 1) / 8 := by
    have : (sizeLine : Nat) ≤ (2 ^ 63 - 1) / 8 := by decide
    omega
  have hfit : ¬ (!Builtin.List.listFitsIndex k) = true := by
    rw [fitsIndex_both h1 h2]
    exact Bool.false_ne_true
  have hlong : ¬ Builtin.List.listTooLong (its.toArray.size * k.toNat) = true := by
    rw [notLongL hlen]
    exact Bool.false_ne_true
  have hnew : List.foldl (fun x1 x2 => x1 ++ x2) #[] (List.replicate (if its.toArray.isEmpty = true then 0 else k.toNat) its.toArray) = (List.replicate k.toNat its).flatten.toArray := by
    rw [size_rep]
    cases its with
    | nil => simp
    | cons a r' => rw [if_neg (by simp)]
  refine wpAny_binaryOp_repeat_ref (T := "list") (U := "int") (by decide) ⟨_, ho, rfl⟩ (fun s' => typeIs_int s' k t) noFill_list_mul F.fills_int_mul F.slot_int_rmul repeat_list F.slot_int_index.lookup
    (call_meets F.slot_int_rmul (typeIs_int s k t) F.entry_int_rmul (F.args_int_rmul_2 _ _) (int_rmul_listW k t l its.toArray n dd sl)
      ⟨ho, rfl, ⟨_, ho, rfl⟩, call_meets F.slot_list_mul ⟨_, ho, rfl⟩ F.entry_list_mul (F.args_list_mul_2 _ _) (list_mulW l its.toArray n dd sl k t hfit hcap hlong) ⟨ho, ?_⟩⟩)
  rw [hnew]
  exact ⟨.ref _, _, I.lnew (t' := s.toks) (r.rep k.toNat) (by rw [PyProof.Rows.lm_len_rep_flat, Nat.mul_comm]; exact hz), rfl, q _ I.fresh⟩
end
theorem tuple_mulOne (l : Addr) (items : Array Value) (n : Nat) (sl : Array (Option Value)) (dd : Option Addr) (x : Int) (u : Tok) (c0 : (decide (x < -(2 ^ 63)) || decide (x ≥ 2 ^ 63)) = false) (c1 : (items.isEmpty || x == 1) = true) :
    Meets (Builtin.«tuple.__mul__» ⟨[.ref l, .int x u], []⟩) (fun _ R s => s.heap.get? l = some { cls := .type "tuple", dict := dd, data := .seq items n, slots := sl } ∧ R (.ok (.ret (Value.ref l))) s) :=
  .of_wp fun prog w A R s h => by
    obtain ⟨hp, g, d, tk, os⟩ := s
    obtain ⟨hl, h⟩ := h
    have f1 := AutoSeq1.idx_int
    wp_walk using wpAny_loadPart' hl
    repeat (first
      | (refine wpAny_ite_false (decide_eq_false (by rw [c0]; exact Bool.false_ne_true)) ?_; wp_walk using wpAny_loadPart' hl)
      | (refine wpAny_ite_true (decide_eq_true (by rw [c1])) ?_; wp_walk using wpAny_loadPart' hl))
    exact ⟨_, rfl, h⟩

theorem tuple_mulNone (l : Addr) (items : Array Value) (n : Nat) (sl : Array (Option Value)) (dd : Option Addr) (x : Int) (u : Tok) (c0 : (decide (x < -(2 ^ 63)) || decide (x ≥ 2 ^ 63)) = false) (c1 : (items.isEmpty || x == 1) = false) (c2 : (decide (x ≤ 0) || items.isEmpty) = true) :
    Meets (Builtin.«tuple.__mul__» ⟨[.ref l, .int x u], []⟩) (fun _ R s => s.heap.get? l = some { cls := .type "tuple", dict := dd, data := .seq items n, slots := sl } ∧
      R (.ok (.ret (Value.ref s.heap.objs.size))) { s with heap := s.heap.push { cls := Value.type "tuple", data := Data.seq #[] }, toks := s.toks }) :=
  .of_wp fun prog w A R s h => by
    obtain ⟨hp, g, d, tk, os⟩ := s
    obtain ⟨hl, h⟩ := h
    have f1 := AutoSeq1.idx_int
    wp_walk using wpAny_loadPart' hl
    repeat (first
      | (refine wpAny_ite_false (decide_eq_false (by rw [c0]; exact Bool.false_ne_true)) ?_; wp_walk using wpAny_loadPart' hl)
      | (refine wpAny_ite_false (decide_eq_false (by rw [c1]; exact Bool.false_ne_true)) ?_; wp_walk using wpAny_loadPart' hl)
      | (refine wpAny_ite_true (decide_eq_true (by rw [c2])) ?_; wp_walk using wpAny_loadPart' hl))
    exact ⟨_, rfl, h⟩
section
variable {X : L2.Cx}
/-- a tuple times an int: once it is itself, nought times the empty one -/
def rRepA (K : PySem.W.Frag) : R2 := fun x y H Q => ∃ l k xs, x = .ref l ∧ y = .int k ∧ SqT K H l xs ∧ k ≤ 1000 ∧ -(2 ^ 63) ≤ k ∧ xs.length ≤ 1000 ∧ ((xs = [] ∨ k = 1) → Q (.ref l) H) ∧ (xs ≠ [] → k ≠ 1 → ∀ p, H p = none → Q (.ref p) (upd H p (.tup (List.replicate k.toNat xs).flatten)))
theorem op_repA : OpR X (binaryOp .Mult) (rRepA X.K) := by
  intro pins s σ H x y v u Q I rx ry h
  obtain ⟨l, k, xs, rfl, rfl, hT, h1, h2, hz, q0, q1⟩ := h
  by_cases hs : xs = [] ∨ k = 1
  · cases rx
    obtain ⟨t, rfl⟩ := ry
    obtain ⟨its, r, ⟨⟨cls, dd, data, sl⟩, ho, hc, n, hd⟩, _⟩ := I.tuple hT
    simp only at hc hd
    subst hc hd
    have c0 : (decide (k < -(2 ^ 63)) || decide (k ≥ 2 ^ 63)) = false := by
      rw [decide_eq_false (by omega), decide_eq_false (by omega)] <;> rfl
    have c1 : (its.toArray.isEmpty || k == 1) = true := by
      rcases hs with e | e
      · subst e; cases r; rfl
      · subst e; simp
    refine wpAny_binaryOp_repeat_ref (T := "tuple") (U := "int") (by decide) ⟨_, ho, rfl⟩ (fun s' => typeIs_int s' k t) noFill_tuple_mul F.fills_int_mul F.slot_int_rmul repeat_tuple F.slot_int_index.lookup
      (call_meets F.slot_int_rmul (typeIs_int s k t) F.entry_int_rmul (F.args_int_rmul_2 _ _) (int_rmul_tuple k t l its.toArray n dd sl)
        ⟨ho, rfl, ⟨_, ho, rfl⟩, call_meets F.slot_tuple_mul ⟨_, ho, rfl⟩ F.entry_tuple_mul (F.args_tuple_mul_2 _ _) (tuple_mulOne l its.toArray n sl dd k t c0 c1) ⟨ho, ?_⟩⟩)
    exact ⟨.ref l, H, I, rfl, q0 hs⟩
  · have hne : xs ≠ [] := fun e => hs (.inl e)
    have hk1 : k ≠ 1 := fun e => hs (.inr e)
    by_cases hk : 2 ≤ k
    · exact op_repT pins s σ H _ _ v u Q I rx ry ⟨l, k, xs, rfl, rfl, hT, hne, hk, h1, hz, q1 hne hk1⟩
    · cases rx
      obtain ⟨t, rfl⟩ := ry
      obtain ⟨its, r, ⟨⟨cls, dd, data, sl⟩, ho, hc, n, hd⟩, _⟩ := I.tuple hT
      simp only at hc hd
      subst hc hd
      have hi : its.toArray.isEmpty = false := by
        cases its with
        | nil => cases r; exact absurd rfl hne
        | cons a b => rfl
      have c0 : (decide (k < -(2 ^ 63)) || decide (k ≥ 2 ^ 63)) = false := by
        rw [decide_eq_false (by omega), decide_eq_false (by omega)] <;> rfl
      have c1 : (its.toArray.isEmpty || k == 1) = false := by
        rw [hi, Bool.false_or]
        exact beq_eq_false_iff_ne.mpr hk1
      have c2 : (decide (k ≤ 0) || its.toArray.isEmpty) = true := by
        rw [decide_eq_true (by omega : k ≤ 0)]; rfl
      have ek : k.toNat = 0 := by omega
      have q := q1 hne hk1
      rw [ek] at q
      refine wpAny_binaryOp_repeat_ref (T := "tuple") (U := "int") (by decide) ⟨_, ho, rfl⟩ (fun s' => typeIs_int s' k t) noFill_tuple_mul F.fills_int_mul F.slot_int_rmul repeat_tuple F.slot_int_index.lookup
        (call_meets F.slot_int_rmul (typeIs_int s k t) F.entry_int_rmul (F.args_int_rmul_2 _ _) (int_rmul_tuple k t l its.toArray n dd sl)
          ⟨ho, rfl, ⟨_, ho, rfl⟩, call_meets F.slot_tuple_mul ⟨_, ho, rfl⟩ F.entry_tuple_mul (F.args_tuple_mul_2 _ _) (tuple_mulNone l its.toArray n sl dd k t c0 c1 c2) ⟨ho, ?_⟩⟩)
      refine ⟨.ref s.heap.objs.size, _, I.laid (t' := s.toks) (o := .tup (List.replicate 0 xs).flatten) (fun b ob q => Heap.get?_push_of_some _ q) (Nat.le_refl _) ?_, rfl, q _ (I.hok.fresh (Nat.le_refl _))⟩
      exact ⟨Nat.zero_le _, [], .nil, IsTup.new _ _⟩
end
section
variable {X : L2.Cx} {K : PySem.W.Frag} {g : Gc} {E : XK}
theorem repL_eq {α β : Type} {R : α → β → Prop} {vs : List α} {xs : List β} (r : Paired R vs xs) : ∀ n : Nat, Paired R (List.replicate n vs).flatten (List.replicate n xs).flatten
  | 0 => .nil
  | n + 1 => by
    rw [List.replicate_succ, List.replicate_succ, List.flatten_cons, List.flatten_cons]
    exact Paired.app r (repL_eq r n)
theorem repL_flat : ∀ (n : Nat) (xs : List P), repL n xs = (List.replicate n xs).flatten
  | 0, _ => rfl
  | n + 1, xs => by rw [repL, repL_flat n xs, List.replicate_succ, List.flatten_cons]
def rMul (K : PySem.W.Frag) : R2 := fun x y H Q => (rI CMul (fun i j => .int (i * j)) x y H Q ∨ rI CMulW (fun i j => .int (i * j)) x y H Q) ∨ (rRepL K x y H Q ∨ rRepA K x y H Q)
theorem or_mul : OpR X (binaryOp .Mult) (rMul X.K) := OpR.or (OpR.or op_mul op_mulW) (OpR.or op_repL op_repA)
theorem mul_cond {i j : Int} (h : mulOk i j = true) : CMul i j ∨ CMulW i j := by
  unfold mulOk at h
  simp only [Bool.or_eq_true, Bool.and_eq_true, decide_eq_true_eq] at h
  unfold big at h
  rcases h with (h | h) | h
  · exact .inl (.inl (by omega))
  · exact .inl (.inr (by omega))
  · have h := Nat.le_of_ble_eq_true h
    exact .inr (by unfold CMulW; omega)
theorem rep_len {n : Nat} {k : Int} (h1 : k ≤ 1000) (h2 : n ≤ 1000) : n * k.toNat ≤ sizeLine := by
  have : n * k.toNat ≤ 1000 * 1000 := Nat.mul_le_mul h2 (by omega)
  rw [sizeLine_eq]; omega
theorem os_mul : OpS g E (rMul K) (rd2 mulP) := by
  intro w H st x y a b Q ok ra rb post
  obtain ⟨p, q, r, h, cx, cy, fin⟩ := rd2_inv ok ra rb post
  cases p with
  | int i => cases q with
    | int j =>
      have h : (if mulOk i j then some (P.int (i * j)) else none) = some r := h
      split at h
      · rename_i hc
        cases h
        rcases mul_cond hc with c | c
        · exact .inl (.inl ⟨i, j, cur_int cx, cur_int cy, c, fin w H _ Ext.refl ok Rep.int⟩)
        · exact .inl (.inr ⟨i, j, cur_int cx, cur_int cy, c, fin w H _ Ext.refl ok Rep.int⟩)
      · cases h
    | _ => cases h
  | lst xs => cases q with
    | int j =>
      have h : (if decide (-1000 ≤ j) && decide (j ≤ 1000) && Nat.ble xs.length 1000 then some (P.lst (repL j.toNat xs)) else none) = some r := h
      split at h
      · rename_i hc
        simp only [Bool.and_eq_true, decide_eq_true_eq] at hc
        have h3 := Nat.le_of_ble_eq_true hc.2
        cases h
        obtain ⟨aa, vs, ex, sx, rx⟩ := cx
        refine .inr (.inl ⟨aa, j, vs, ex, cur_int cy, .inl sx, by omega, by omega, rep_len hc.1.2 (by rw [Paired.len rx]; exact h3), fun p hp => ?_⟩)
        rw [repL_flat] at fin
        exact lst_post ok (repL_eq rx _) fin p hp
      · cases h
    | _ => cases h
  | tup xs => cases q with
    | int j =>
      have h : (if decide (-1000 ≤ j) && decide (j ≤ 1000) && Nat.ble xs.length 1000 then some (P.tup (repL j.toNat xs)) else none) = some r := h
      split at h
      · rename_i hc
        simp only [Bool.and_eq_true, decide_eq_true_eq] at hc
        have h3 := Nat.le_of_ble_eq_true hc.2
        cases h
        obtain ⟨aa, vs, ex, sx, rx⟩ := Rep.tup_inv cx
        rw [repL_flat] at fin
        refine .inr (.inr ⟨aa, j, vs, ex, cur_int cy, SqT.of sx, hc.1.2, by omega, by rw [Paired.len rx]; exact h3, fun e => ?_, fun _ _ p hp => tup_post ok (repL_eq rx _) fin p hp⟩)
        rw [ex] at cx
        have e2 : (List.replicate j.toNat xs).flatten = xs := by
          rcases e with e | e
          · subst e; cases rx; simp
          · subst e; simp
        rw [e2] at fin
        exact fin w H _ Ext.refl ok (by rw [← ex]; rw [← ex] at cx; exact cx)
      · cases h
    | _ => cases h
  | _ => cases q <;> cases h
theorem os_mulF : OpS g E (rMul K) (rd2F mulP) := by
  intro w H st x y a b Q ok ra rb post
  obtain ⟨p, q, r, h, cx, cy, fin⟩ := rd2F_inv ok ra rb post
  cases p with
  | lst xs => cases q with
    | int j =>
      have h : (if decide (-1000 ≤ j) && decide (j ≤ 1000) && Nat.ble xs.length 1000 then some (P.lst (repL j.toNat xs)) else none) = some (.lst r) := h
      split at h
      · rename_i hc
        simp only [Bool.and_eq_true, decide_eq_true_eq] at hc
        have h3 := Nat.le_of_ble_eq_true hc.2
        cases h
        obtain ⟨aa, vs, ex, sx, rx⟩ := cx
        refine .inr (.inl ⟨aa, j, vs, ex, cur_int cy, .inl sx, by omega, by omega, rep_len hc.1.2 (by rw [Paired.len rx]; exact h3), fun p hp => ?_⟩)
        rw [repL_flat] at fin
        exact new_post ok (repL_eq rx _) fin p hp
      · cases h
    | _ => cases h
  | int i => cases q with
    | int j =>
      have h : (if mulOk i j then some (P.int (i * j)) else none) = some (.lst r) := h
      split at h <;> cases h
    | _ => cases h
  | tup xs => cases q with
    | int j =>
      have h : (if decide (-1000 ≤ j) && decide (j ≤ 1000) && Nat.ble xs.length 1000 then some (P.tup (repL j.toNat xs)) else none) = some (.lst r) := h
      split at h <;> cases h
    | _ => cases h
  | _ => cases q <;> cases h
/-- one operand -/
def Op1S (g : Gc) (E : XK) (r : V → Hp → VK → Prop) (f : A → M A) : Prop :=
  ∀ (w : Wd) (H : Hp) (st : Sto) (x : V) (a : A) (Q : VK), Ok w H st → RepA w H x a → Post g E relA w H (f a st) Q → r x H Q
theorem sim1 {ta : TE} {fa : Ex} {r : V → Hp → VK → Prop} {f : A → M A} (ha : Sim g E relA ta fa) (hr : Op1S g E r f) : Sim g E relA (tUn r ta) (e1 f fa) :=
  Sim.bind (t := ta) (k := fun σ x H1 Q => r x H1 Q) (f := fa) (fk := fun env x => f x) ha fun w σ H env st b a Q ok re ra post => hr w H st b a Q ok ra post
theorem se_un {op : UnaryOp} {r : V → Hp → VK → Prop} {f : A → M A} {a : Expr} {fa : Ex} {pos : Pos} (ho : UnR X (unaryOp op) r) (hr : Op1S g E r f) (ha : SE X g E a fa) : SE X g E (.UnaryOp op a pos) (e1 f fa) := by
  obtain ⟨ta, pa, sa⟩ := ha
  exact ⟨_, pe_un ho pa, sim1 sa hr⟩
theorem o1_neg : Op1S g E (rU fun i => .int (-i)) (rd1 negP) := by
  intro w H st x a Q ok ra post
  obtain ⟨p, r, h, cx, fin⟩ := rd1_inv ok ra post
  cases p <;> cases h
  exact ⟨_, cur_int cx, fin w H _ Ext.refl ok Rep.int⟩
theorem o1_inv : Op1S g E (rU fun i => .int (Builtin.bitNot i)) (rd1 invP) := by
  intro w H st x a Q ok ra post
  obtain ⟨p, r, h, cx, fin⟩ := rd1_inv ok ra post
  cases p <;> cases h
  exact ⟨_, cur_int cx, fin w H _ Ext.refl ok Rep.int⟩
end
end Rt

set_option Elab.async false
set_option linter.all false
set_option maxRecDepth 100000
set_option autoImplicit false
set_option maxHeartbeats 4000000
namespace Rt
open PySem PySem.Spec PyProof.Rows L2

/-! ### plain data -/
def toD : Nat → P → PyData
  | 0, _ => .none
  | n + 1, p => match p with
    | .non => .none
    | .bl b => .bool b
    | .int i => .int i
    | .str s => .str ⟨s.toArray⟩
    | .tup xs => .tuple (xs.map (toD n))
    | .lst xs => .list (xs.map (toD n))
    | _ => .none
theorem allP_iff {q : P → Bool} : ∀ {xs : List P}, allP q xs = true ↔ ∀ x ∈ xs, q x = true
  | [] => by simp [allP]
  | x :: r => by simp [allP, allP_iff (xs := r)]
theorem anyP_eq {q : P → Bool} : ∀ {xs : List P}, anyP q xs = xs.any q
  | [] => rfl
  | x :: r => by rw [anyP, anyP_eq (xs := r), List.any_cons]
theorem natsEq_eq : ∀ {xs ys : List Nat}, natsEq xs ys = decide (xs = ys)
  | [], [] => rfl
  | [], _ :: _ => rfl
  | _ :: _, [] => rfl
  | x :: xs, y :: ys => by
    rw [natsEq, natsEq_eq (xs := xs) (ys := ys)]
    by_cases h : x = y
    · subst h
      simp
    · have : Nat.beq x y = false := by
        cases q : Nat.beq x y with
        | false => rfl
        | true => exact absurd (Nat.eq_of_beq_eq_true q) h
      rw [this]
      simp [h]
section
variable {K : PySem.W.Frag} {w : Wd} {H : Hp}
theorem dpAll_of {n : Nat} (ih : ∀ p x, dataN n p = true → Cur w H x p → Dp K H x (toD n p)) : ∀ {vs : List V} {ps : List P}, Reps w.fz H vs ps → (∀ p ∈ ps, dataN n p = true) → DpAll K H vs (ps.map (toD n))
  | _, _, .nil, _ => .nil
  | _, _, .cons r t, h => .cons (ih _ _ (h _ (by simp)) (Rep.cur r)) (dpAll_of ih t fun p hp => h p (by simp [hp]))
theorem dp_of : ∀ (n : Nat) (p : P) (x : V), dataN n p = true → Cur w H x p → Dp K H x (toD n p)
  | 0, _, _, h, _ => by cases h
  | n + 1, p, x, h, c => by
    cases p with
    | non => cases Rep.non_inv c; exact .non
    | bl b => cases Rep.bl_inv c; exact .bl b
    | int i => cases Rep.int_inv c; exact .int i
    | str s => cases Rep.str_inv c; exact .str _
    | tup ps =>
      obtain ⟨a, vs, e, s, r⟩ := Rep.tup_inv c
      subst e
      exact .tup (SqT.of s) (dpAll_of (dp_of n) r (allP_iff.mp h))
    | lst ps =>
      obtain ⟨a, vs, e, s, r⟩ := c
      subst e
      exact .lst (.inl s) (dpAll_of (dp_of n) r (allP_iff.mp h))
    | dic t kvs => cases h
    | set xs => cases h
end
theorem lay_all {n : Nat} (ih : ∀ p, dataN n p = true → (toD n p).canLay0 = true ∧ (toD n p).depth ≤ n) : ∀ {ps : List P}, (∀ p ∈ ps, dataN n p = true) → PyData.canLayAll0 (ps.map (toD n)) = true ∧ PyData.depthAll (ps.map (toD n)) ≤ n
  | [], _ => ⟨by simp [PyData.canLayAll0], by simp [PyData.depthAll]⟩
  | p :: r, h => by
    obtain ⟨a, b⟩ := ih p (h p (by simp))
    obtain ⟨c, d⟩ := lay_all ih (ps := r) fun q hq => h q (by simp [hq])
    refine ⟨by simp [PyData.canLayAll0, a, c], ?_⟩
    simp only [List.map_cons, PyData.depthAll]
    omega
theorem strOk_of {s : List Nat} (h : s.all (fun c => Nat.blt c 1114112) = true) : PyData.strOk ⟨s.toArray⟩ = true := by
  unfold PyData.strOk
  simp only [List.all_toArray]
  rw [List.all_eq_true] at h ⊢
  intro c hc
  have h1 := Nat.le_of_ble_eq_true (h c hc)
  exact decide_eq_true (show c < 0x110000 by omega)
theorem lay_of : ∀ (n : Nat) (p : P), dataN n p = true → (toD n p).canLay0 = true ∧ (toD n p).depth ≤ n
  | 0, _, h => by cases h
  | n + 1, p, h => by
    cases p with
    | non => exact ⟨by simp [toD, PyData.canLay0], by simp [toD, PyData.depth]⟩
    | bl b => exact ⟨by simp [toD, PyData.canLay0], by simp [toD, PyData.depth]⟩
    | int i => exact ⟨by simp [toD, PyData.canLay0], by simp [toD, PyData.depth]⟩
    | str s => exact ⟨by simp only [toD, PyData.canLay0]; exact strOk_of h, by simp [toD, PyData.depth]⟩
    | tup ps =>
      obtain ⟨a, b⟩ := lay_all (lay_of n) (allP_iff.mp h)
      exact ⟨by simp only [toD, PyData.canLay0]; exact a, by simp only [toD, PyData.depth]; omega⟩
    | lst ps =>
      obtain ⟨a, b⟩ := lay_all (lay_of n) (allP_iff.mp h)
      exact ⟨by simp only [toD, PyData.canLay0]; exact a, by simp only [toD, PyData.depth]; omega⟩
    | dic t kvs => cases h
    | set xs => cases h
theorem shaped_of {n : Nat} {p : P} (hn : n ≤ 64) (h : dataN n p = true) : SeqAt.shaped (toD n p) = true := by
  obtain ⟨a, b⟩ := lay_of n p h
  show ((toD n p).canLay0 && decide ((toD n p).depth ≤ 64)) = true
  rw [a, decide_eq_true (by omega : (toD n p).depth ≤ 64)]
  rfl
theorem eqv_all {n : Nat} (ih : ∀ p q, dataN n p = true → dataN n q = true → PyData.eqv (toD n p) (toD n q) = eqN n p q) : ∀ {ps qs : List P}, (∀ p ∈ ps, dataN n p = true) → (∀ q ∈ qs, dataN n q = true) → PyData.eqvAll (ps.map (toD n)) (qs.map (toD n)) = eqL (eqN n) ps qs
  | [], [], _, _ => by simp [PyData.eqvAll, eqL]
  | [], _ :: _, _, _ => by simp [PyData.eqvAll, eqL]
  | _ :: _, [], _, _ => by simp [PyData.eqvAll, eqL]
  | p :: ps, q :: qs, h, h' => by
    simp only [List.map_cons, PyData.eqvAll, eqL]
    rw [ih p q (h p (by simp)) (h' q (by simp)), eqv_all ih (fun z hz => h z (by simp [hz])) fun z hz => h' z (by simp [hz])]
theorem str_beq {x y : List Nat} : ((⟨x.toArray⟩ : PySem.Str) == ⟨y.toArray⟩) = natsEq x y := by
  rw [natsEq_eq, Bool.beq_eq_decide_eq]
  by_cases h : x = y
  · subst h; simp
  · have : ¬ (PySem.Str.mk x.toArray) = PySem.Str.mk y.toArray := fun e => h (by
      have e1 := congrArg (fun z => z.cps.toList) e
      simpa using e1)
    simp [h]
theorem eqv_of : ∀ (n : Nat) (p q : P), dataN n p = true → dataN n q = true → PyData.eqv (toD n p) (toD n q) = eqN n p q
  | 0, _, _, h, _ => by cases h
  | n + 1, p, q, h, h' => by
    cases p <;> cases q <;> first
      | (cases h; done)
      | (cases h'; done)
      | (simp only [toD, PyData.eqv, eqN]; done)
      | (simp only [toD, PyData.eqv, eqN]; exact str_beq)
      | (simp only [toD, PyData.eqv, eqN]; exact eqv_all (eqv_of n) (allP_iff.mp h) (allP_iff.mp h'))

/-! ### comparisons by values -/
def CmpS (K : PySem.W.Frag) (gg : P → P → Option Bool) (r : R2) : Prop :=
  ∀ (w : Wd) (H : Hp) (st : Sto) (x y : V) (p q : P) (k : Bool) (Qv : VK), Ok w H st → Cur w H x p → Cur w H y q → gg p q = some k → Qv (.bl k) H → r x y H Qv
/-- an expression whose value is the bool that a test tells -/
structure SB (X : L2.Cx) (g : Gc) (E : XK) (e : Expr) (c : Tx) : Prop where
  ex : ∃ t, PE X e t ∧ ∀ (w : Wd) (σ : L2.St) (H : Hp) (env : En) (st : Sto) (Q : Bool → Hp → Prop) (Qv : VK), Ok w H st → RepE w H σ env → Post g E relB w H (c env st) Q → (∀ k H', Q k H' → Qv (.bl k) H') → t σ H Qv
/-- a test whose whole is whatever it is -/
structure SW (X : L2.Cx) (g : Gc) (E : XK) (e : Expr) (f : Tx) : Prop where
  ex : ∃ t, PW X e t ∧ Sim g E relB t f
section
variable {X : L2.Cx} {g : Gc} {E : XK} {pos : Pos} {e a b c : Expr} {fa fb fc : Ex} {ca cb cc : Tx} {rest : List Expr}
theorem SB.se (h : SB X g E e ca) : SE X g E e (eB ca) := by
  obtain ⟨t, p, s⟩ := h
  refine ⟨t, p, fun w σ H env st Q ok re post => ?_⟩
  exact s w σ H env st _ Q ok re (Post.bind (Q₁ := fun k H' => Q (.bl k) H') post fun k st' w' H' k' x ok' r q => by
    cases r
    exact q w' H' _ Ext.refl ok' Rep.bl) fun k H' z => z
theorem SE.sb (h : SE X g E e fa) : SB X g E e (cE fa) := by
  obtain ⟨t, p, s⟩ := h
  refine ⟨t, p, fun w σ H env st Q Qv ok re post hq => ?_⟩
  refine s w σ H env st Qv ok re (Post.bind post fun v st' w' H' v' x ok' r q => ?_)
  cases v with
  | r n => exact q.elim
  | v p =>
    cases p with
    | bl k =>
      cases Rep.bl_inv r
      exact hq k H' (q w' H' k Ext.refl ok' rfl)
    | _ => exact q.elim
theorem simC {ta tb : TE} {gg : P → P → Option Bool} {r : R2} (sa : Sim g E relA ta fa) (sb : Sim g E relA tb fb) (hs : CmpS X.K gg r) {w : Wd} {σ : L2.St} {H : Hp} {env : En} {st : Sto} {Q : Bool → Hp → Prop} {Qv : VK} (ok : Ok w H st) (re : RepE w H σ env)
    (post : Post g E relB w H (cmp gg fa fb env st) Q) (hq : ∀ k H', Q k H' → Qv (.bl k) H') : tOp r ta tb σ H Qv := by
  refine sa w σ H env st _ ok re (Post.bind post fun x st1 w1 H1 v1 x1 ok1 r1 post1 => ?_)
  refine sb w1 σ H1 env st1 _ ok1 (x1.repE re) (Post.bind post1 fun y st2 w2 H2 v2 x2 ok2 r2 post2 => ?_)
  obtain ⟨p, q, k, h, cx, cy, fin⟩ := rdB_inv ok2 (x2.repA r1) r2 post2
  exact hs w2 H2 st2 v1 v2 p q k Qv ok2 cx cy h (hq k H2 (fin w2 H2 Ext.refl ok2))
theorem sb_cmp {op : CmpOp} {gg : P → P → Option Bool} {r : R2} (ho : OpR X (compareOp op) r) (hs : CmpS X.K gg r) (ha : SE X g E a fa) (hb : SE X g E b fb) (hm : behindInMarks op b = false) : SB X g E (.Compare a [op] [b] pos) (cmp gg fa fb) := by
  obtain ⟨ta, pa, sa⟩ := ha
  obtain ⟨tb, pb, sb⟩ := hb
  exact ⟨_, pe_cmpR ho pa pb hm, fun w σ H env st Q Qv ok re post hq => simC sa sb hs ok re post hq⟩
theorem sc_cmp {op : CmpOp} {gg : P → P → Option Bool} {r : R2} (ho : OpR X (compareOp op) r) (hs : CmpS X.K gg r) (ha : SE X g E a fa) (hb : SE X g E b fb) (hm : behindInMarks op b = false) : SC X g E (.Compare a [op] [b] pos) (cmp gg fa fb) := by
  obtain ⟨ta, pa, sa⟩ := ha
  obtain ⟨tb, pb, sb⟩ := hb
  exact ⟨_, pt_cmpR ho pa pb hm, fun w σ H env st Q ok re post => simC sa sb hs ok re post fun k H' z => ⟨k, rfl, z⟩⟩
theorem simC2 {ta tb tc : TE} {gg gg' : P → P → Option Bool} {r r' : R2} (sa : Sim g E relA ta fa) (sb : Sim g E relA tb fb) (sc : Sim g E relA tc fc) (hs : CmpS X.K gg r) (hs' : CmpS X.K gg' r') {w : Wd} {σ : L2.St} {H : Hp} {env : En} {st : Sto} {Q : Bool → Hp → Prop} {Qv : VK} (ok : Ok w H st) (re : RepE w H σ env)
    (post : Post g E relB w H (cmp2 gg gg' fa fb fc env st) Q) (hq : ∀ k H', Q k H' → Qv (.bl k) H') : tChain r r' ta tb tc σ H Qv := by
  refine sa w σ H env st _ ok re (Post.bind post fun x st1 w1 H1 v1 x1 ok1 r1 post1 => ?_)
  refine sb w1 σ H1 env st1 _ ok1 (x1.repE re) (Post.bind post1 fun y st2 w2 H2 v2 x2 ok2 r2 post2 => ?_)
  have post3 : Post g E relB w2 H2 (rdB gg x y st2) (fun k H' => if k = true then tc σ H' fun w' H4 => r' v2 w' H4 Qv else Qv (.bl false) H') := by
    refine Post.bind post2 fun k st3 w3 H3 k' x3 ok3 r3 post3 => ?_
    have e : k' = k := r3
    subst e
    cases k' with
    | false =>
      rw [if_neg Bool.false_ne_true] at post3 ⊢
      exact hq false H3 (post3 w3 H3 false Ext.refl ok3 rfl)
    | true =>
      rw [if_pos rfl] at post3 ⊢
      refine sc w3 σ H3 env st3 _ ok3 (x3.repE (x2.repE (x1.repE re))) (Post.bind post3 fun z st4 w4 H4 v4 x4 ok4 r4 post4 => ?_)
      obtain ⟨p, q, k, h, cx, cy, fin⟩ := rdB_inv ok4 (x4.repA (x3.repA r2)) r4 post4
      exact hs' w4 H4 st4 v2 v4 p q k Qv ok4 cx cy h (hq k H4 (fin w4 H4 Ext.refl ok4))
  obtain ⟨p, q, k, h, cx, cy, fin⟩ := rdB_inv ok2 (x2.repA r1) r2 post3
  refine hs w2 H2 st2 v1 v2 p q k _ ok2 cx cy h ?_
  exact ⟨k, rfl, fin w2 H2 Ext.refl ok2⟩
theorem nb1 {op op' : CmpOp} {b c : Expr} : True := trivial
theorem sb_cmp2 {op op' : CmpOp} {gg gg' : P → P → Option Bool} {r r' : R2} (ho : OpR X (compareOp op) r) (ho' : OpR X (compareOp op') r') (hs : CmpS X.K gg r) (hs' : CmpS X.K gg' r') (ha : SE X g E a fa) (hb : SE X g E b fb) (hc : SE X g E c fc)
    (mk : ∀ {ta tb tc : TE}, PE X a ta → PE X b tb → PE X c tc → PE X e (tChain r r' ta tb tc)) : SB X g E e (cmp2 gg gg' fa fb fc) := by
  obtain ⟨ta, pa, sa⟩ := ha
  obtain ⟨tb, pb, sb⟩ := hb
  obtain ⟨tc, pc, sc⟩ := hc
  exact ⟨_, mk pa pb pc, fun w σ H env st Q Qv ok re post hq => simC2 sa sb sc hs hs' ok re post hq⟩
theorem SC.of_t {t : TE} (p : PT X e (fun σ H Q => t σ H fun x H' => ∃ k, x = .bl k ∧ Q k H')) (s : ∀ (w : Wd) (σ : L2.St) (H : Hp) (env : En) (st : Sto) (Q : Bool → Hp → Prop) (Qv : VK), Ok w H st → RepE w H σ env → Post g E relB w H (ca env st) Q → (∀ k H', Q k H' → Qv (.bl k) H') → t σ H Qv) : SC X g E e ca :=
  ⟨_, p, fun w σ H env st Q ok re post => s w σ H env st Q _ ok re post fun k H' z => ⟨k, rfl, z⟩⟩
/-- a value that is True or False as a test: a call, a name .. -/
theorem SB.sc (h : SB X g E e ca) (he : ∀ whole, isTrue e X.env whole = (do let v ← whole; standAt e.pos; holding [v] (truthy v)) := by intro _; rfl) : SC X g E e ca := by
  obtain ⟨t, p, s⟩ := h
  exact ⟨_, pt_val p he, fun w σ H env st Q ok re post => s w σ H env st Q _ ok re post fun k H' z => ⟨k, rfl, z⟩⟩
/-- any value by its truth -/
theorem cur_tru {K : PySem.W.Frag} {w : Wd} {H : Hp} {x : V} {p : P} {k : Bool} (c : Cur w H x p) (h : truP p = some k) : TruV K x H k := by
  have ez : ∀ xs : List P, (!xs.isEmpty) = (((xs.length : Nat) : Int) != 0) := fun xs => by
    cases xs with
    | nil => rfl
    | cons x r =>
      have e : (((x :: r).length : Int) == 0) = false := beq_eq_false_iff_ne.mpr (by simp only [List.length_cons]; omega)
      rw [bne, e] <;> rfl
  have eq2 : ∀ {vs : List V} {ps : List P}, Reps w.fz H vs ps → ps.isEmpty = vs.isEmpty := fun r => by cases r <;> rfl
  cases p with
  | non => cases h; cases Rep.non_inv c; rfl
  | bl b => cases h; cases Rep.bl_inv c; rfl
  | int i => cases h; cases Rep.int_inv c; rfl
  | str s =>
    have h : (if Nat.ble s.length line then some (!s.isEmpty) else none) = some k := h
    split at h
    · rename_i hl
      cases h
      cases Rep.str_inv c
      refine ⟨by rw [strLen, ← line_eq]; exact Nat.le_of_ble_eq_true hl, ?_⟩
      rw [strLen]
      cases s with
      | nil => rfl
      | cons x r =>
        have e : (((x :: r).length : Int) == 0) = false := beq_eq_false_iff_ne.mpr (by simp only [List.length_cons]; omega)
        rw [bne, e] <;> rfl
    · cases h
  | tup ps =>
    cases h
    obtain ⟨a, vs, e, s, r⟩ := Rep.tup_inv c
    subst e
    exact .inr (.inl ⟨vs, SqT.of s, by rw [eq2 r]⟩)
  | lst ps =>
    cases h
    obtain ⟨a, vs, e, s, r⟩ := c
    subst e
    exact .inl ⟨vs, .inl s, by rw [eq2 r]⟩
  | dic t kvs => cases h
  | set xs => cases h
theorem sc_tru (h : SE X g E e fa) (he : ∀ whole, isTrue e X.env whole = (do let v ← whole; standAt e.pos; holding [v] (truthy v)) := by intro _; rfl) : SC X g E e (cT fa) := by
  obtain ⟨t, p, s⟩ := h
  refine ⟨_, pt_truth p he, fun w σ H env st Q ok re post => ?_⟩
  refine s w σ H env st _ ok re (Post.bind post fun x st1 w1 H1 v1 x1 ok1 r1 post1 => ?_)
  have post1 : Post g E relB w1 H1 (match now x st1 with
    | some p => opt (truP p) st1
    | none => .no) Q := post1
  cases q : now x st1 with
  | none => rw [q] at post1; exact post1.elim
  | some p =>
    rw [q] at post1
    have post1 : Post g E relB w1 H1 (opt (truP p) st1) Q := post1
    cases q2 : truP p with
    | none => rw [q2] at post1; exact post1.elim
    | some k => rw [q2] at post1; exact ⟨k, cur_tru (now_cur ok1 r1 q) q2, post1 w1 H1 k Ext.refl ok1 rfl⟩
theorem SW.sc (h : SW X g E e ca) : SC X g E e ca := by
  obtain ⟨t, p, s⟩ := h
  exact ⟨t, p.pt, s⟩
theorem sw_and1 (ha : SC X g E a ca) : SW X g E (.BoolOp .And [a] pos) ca := by
  obtain ⟨t, p, s⟩ := ha
  exact ⟨t, pw_and1 p, s⟩
theorem sw_or1 (ha : SC X g E a ca) : SW X g E (.BoolOp .Or [a] pos) ca := by
  obtain ⟨t, p, s⟩ := ha
  exact ⟨t, pw_or1 p, s⟩
theorem sw_and (ha : SC X g E a ca) (hb : SW X g E (.BoolOp .And (b :: rest) pos) cb) : SW X g E (.BoolOp .And (a :: b :: rest) pos) (cAnd ca cb) := by
  obtain ⟨ta, pa, sa⟩ := ha
  obtain ⟨tb, pb, sb⟩ := hb
  refine ⟨_, pw_and pa pb, fun w σ H env st Q ok re post => ?_⟩
  refine sa w σ H env st _ ok re (Post.bind post fun k st1 w1 H1 k1 x1 ok1 r1 post1 => ?_)
  have r1 : k1 = k := r1
  subst r1
  cases k1 with
  | true => exact sb w1 σ H1 env st1 Q ok1 (x1.repE re) post1
  | false => exact post1 w1 H1 false Ext.refl ok1 rfl
theorem sw_or (ha : SC X g E a ca) (hb : SW X g E (.BoolOp .Or (b :: rest) pos) cb) : SW X g E (.BoolOp .Or (a :: b :: rest) pos) (cOr ca cb) := by
  obtain ⟨ta, pa, sa⟩ := ha
  obtain ⟨tb, pb, sb⟩ := hb
  refine ⟨_, pw_or pa pb, fun w σ H env st Q ok re post => ?_⟩
  refine sa w σ H env st _ ok re (Post.bind post fun k st1 w1 H1 k1 x1 ok1 r1 post1 => ?_)
  have r1 : k1 = k := r1
  subst r1
  cases k1 with
  | false => exact sb w1 σ H1 env st1 Q ok1 (x1.repE re) post1
  | true => exact post1 w1 H1 true Ext.refl ok1 rfl
theorem sc_not (ha : SC X g E a ca) : SC X g E (.UnaryOp .Not a pos) (cNot ca) := by
  obtain ⟨ta, pa, sa⟩ := ha
  refine ⟨_, pt_not pa, fun w σ H env st Q ok re post => ?_⟩
  refine sa w σ H env st _ ok re (Post.bind post fun k st1 w1 H1 k1 x1 ok1 r1 post1 => ?_)
  have r1 : k1 = k := r1
  subst r1
  exact post1 w1 H1 _ Ext.refl ok1 rfl
/-- .. as values -/
theorem sb_one {op : BoolOp} (ha : SB X g E a ca) : SB X g E (.BoolOp op [a] pos) ca := by
  obtain ⟨t, p, s⟩ := ha
  exact ⟨t, pe_one p, s⟩
theorem sb_and (ha : SB X g E a ca) (hb : SB X g E (.BoolOp .And (b :: rest) pos) cb) : SB X g E (.BoolOp .And (a :: b :: rest) pos) (cAnd ca cb) := by
  obtain ⟨ta, pa, sa⟩ := ha
  obtain ⟨tb, pb, sb⟩ := hb
  refine ⟨_, pe_and pa pb, fun w σ H env st Q Qv ok re post hq => ?_⟩
  refine sa w σ H env st _ _ ok re (Post.bind (Q₁ := fun k H' => if k = true then tb σ H' Qv else Qv (.bl false) H') post fun k st1 w1 H1 k1 x1 ok1 r1 post1 => ?_) fun k H' z => ⟨k, rfl, z⟩
  have r1 : k1 = k := r1
  subst r1
  cases k1 with
  | true => exact sb w1 σ H1 env st1 Q Qv ok1 (x1.repE re) post1 hq
  | false => exact hq false H1 (post1 w1 H1 false Ext.refl ok1 rfl)
theorem sb_or (ha : SB X g E a ca) (hb : SB X g E (.BoolOp .Or (b :: rest) pos) cb) : SB X g E (.BoolOp .Or (a :: b :: rest) pos) (cOr ca cb) := by
  obtain ⟨ta, pa, sa⟩ := ha
  obtain ⟨tb, pb, sb⟩ := hb
  refine ⟨_, pe_or pa pb, fun w σ H env st Q Qv ok re post hq => ?_⟩
  refine sa w σ H env st _ _ ok re (Post.bind (Q₁ := fun k H' => if k = true then Qv (.bl true) H' else tb σ H' Qv) post fun k st1 w1 H1 k1 x1 ok1 r1 post1 => ?_) fun k H' z => ⟨k, rfl, z⟩
  have r1 : k1 = k := r1
  subst r1
  cases k1 with
  | false => exact sb w1 σ H1 env st1 Q Qv ok1 (x1.repE re) post1 hq
  | true => exact hq true H1 (post1 w1 H1 true Ext.refl ok1 rfl)
theorem sb_not (ha : SB X g E a ca) : SB X g E (.UnaryOp .Not a pos) (cNot ca) := by
  obtain ⟨ta, pa, sa⟩ := ha
  refine ⟨_, pe_not pa, fun w σ H env st Q Qv ok re post hq => ?_⟩
  refine sa w σ H env st _ _ ok re (Post.bind (Q₁ := fun k H' => Qv (.bl (!k)) H') post fun k st1 w1 H1 k1 x1 ok1 r1 post1 => ?_) fun k H' z => ⟨k, rfl, z⟩
  have r1 : k1 = k := r1
  subst r1
  exact hq _ H1 (post1 w1 H1 _ Ext.refl ok1 rfl)
theorem se_if (hc : SC X g E c cc) (ha : SE X g E a fa) (hb : SE X g E b fb) : SE X g E (.IfExp c a b pos) (eIf cc fa fb) := by
  obtain ⟨tc, pc, sc⟩ := hc
  obtain ⟨ta, pa, sa⟩ := ha
  obtain ⟨tb, pb, sb⟩ := hb
  refine ⟨_, pe_ifExp pc pa pb, fun w σ H env st Q ok re post => ?_⟩
  refine sc w σ H env st _ ok re (Post.bind post fun k st1 w1 H1 k1 x1 ok1 r1 post1 => ?_)
  have r1 : k1 = k := r1
  subst r1
  cases k1 with
  | true => exact sa w1 σ H1 env st1 Q ok1 (x1.repE re) post1
  | false => exact sb w1 σ H1 env st1 Q ok1 (x1.repE re) post1
end
end Rt

set_option Elab.async false
set_option linter.all false
set_option maxRecDepth 100000
set_option autoImplicit false
set_option maxHeartbeats 4000000
namespace Rt
open PySem PySem.Spec PyProof.Rows L2

/-! ### == and != -/
section
variable {X : L2.Cx} {K : PySem.W.Frag} {w : Wd} {H : Hp} {x y : V} {p q : P} {k : Bool}
theorem eqP_D (cx : Cur w H x p) (cy : Cur w H y q) (h : eqP p q = some k) : ∃ d e, Dp K H x d ∧ Dp K H y e ∧ SeqAt.shaped d = true ∧ SeqAt.shaped e = true ∧ PyData.eqv d e = k := by
  have gen : (isData p && isData q) = true → some (eqN deep p q) = some k → ∃ d e, Dp K H x d ∧ Dp K H y e ∧ SeqAt.shaped d = true ∧ SeqAt.shaped e = true ∧ PyData.eqv d e = k := fun h1 h2 => by
    obtain ⟨a, b⟩ := Bool.and_eq_true_iff.mp h1
    exact ⟨toD deep p, toD deep q, dp_of deep p x a cx, dp_of deep q y b cy, shaped_of (by decide) a, shaped_of (by decide) b, by rw [eqv_of deep p q a b]; exact Option.some.inj h2⟩
  unfold eqP at h
  split at h
  · rename_i i j
    exact ⟨.int i, .int j, by cases Rep.int_inv cx; exact .int i, by cases Rep.int_inv cy; exact .int j, rfl, rfl, by simpa [PyData.eqv] using h⟩
  · split at h
    · rename_i h1
      exact gen h1 h
    · cases h
theorem cs_eq : CmpS K eqP (rEqD K) := fun w H st x y p q k Qv ok cx cy h hq => by
  obtain ⟨d, e, h1, h2, h3, h4, h5⟩ := eqP_D (K := K) cx cy h
  exact ⟨d, e, h1, h2, h3, h4, by rw [h5]; exact hq⟩
theorem cs_ne : CmpS K neP (rNeD K) := fun w H st x y p q k Qv ok cx cy h hq => by
  unfold neP at h
  cases e : eqP p q with
  | none => rw [e] at h; cases h
  | some b =>
    rw [e] at h
    cases h
    obtain ⟨d, e, h1, h2, h3, h4, h5⟩ := eqP_D (K := K) cx cy e
    exact ⟨d, e, h1, h2, h3, h4, by rw [h5]; exact hq⟩
end

/-! ### order -/
section
variable {X : L2.Cx} {K : PySem.W.Frag}
theorem natsLt_eq : ∀ {xs ys : List Nat}, natsLt xs ys = decide (xs < ys)
  | [], [] => by simp [natsLt]
  | [], _ :: _ => by simp [natsLt]
  | _ :: _, [] => by simp [natsLt]
  | x :: xs, y :: ys => by
    rw [natsLt, natsLt_eq (xs := xs) (ys := ys)]
    have e1 : Nat.beq x y = decide (x = y) := by
      by_cases h : x = y
      · subst h; simp
      · rw [decide_eq_false h]
        cases q : Nat.beq x y with
        | false => rfl
        | true => exact absurd (Nat.eq_of_beq_eq_true q) h
    have e2 : Nat.blt x y = decide (x < y) := by
      by_cases h : x < y
      · rw [decide_eq_true h]; exact Nat.ble_eq_true_of_le h
      · rw [decide_eq_false h]
        cases q : Nat.blt x y with
        | false => rfl
        | true => exact absurd (Nat.le_of_ble_eq_true q) h
    rw [e1, e2]
    by_cases h : x = y
    · subst h
      rw [if_pos (by simp)]
      simp [List.cons_lt_cons_iff]
    · rw [if_neg (by simpa using h)]
      simp [List.cons_lt_cons_iff, h]
theorem ints_reps {w : Wd} {H : Hp} : ∀ {vs : List V} {ps : List P}, Reps w.fz H vs ps → allP isIntP ps = true → vs = (ps.map intOf).map V.int
  | _, _, .nil, _ => rfl
  | _, _, .cons (b := p) r t, h => by
    obtain ⟨h1, h2⟩ := Bool.and_eq_true_iff.mp (show (isIntP p && allP isIntP _) = true from h)
    cases p with
    | int i =>
      rw [ints_reps t h2, Rep.int_inv r]
      rfl
    | _ => cases h1
theorem lt_ints : ∀ {n : Nat} {xs ys : List P}, allP isIntP xs = true → allP isIntP ys = true → ltL (eqN (n + 1)) (ltN (n + 1)) xs ys = HT.lexLt (xs.map intOf) (ys.map intOf)
  | _, [], [], _, _ => rfl
  | _, [], _ :: _, _, _ => rfl
  | _, _ :: _, [], _, _ => rfl
  | n, x :: xs, y :: ys, h, h' => by
    obtain ⟨h1, h2⟩ := Bool.and_eq_true_iff.mp (show (isIntP x && allP isIntP xs) = true from h)
    obtain ⟨h3, h4⟩ := Bool.and_eq_true_iff.mp (show (isIntP y && allP isIntP ys) = true from h')
    cases x with
    | int i => cases y with
      | int j =>
        show (if (i == j) = true then ltL (eqN (n + 1)) (ltN (n + 1)) xs ys else decide (i < j)) = if i = j then HT.lexLt (xs.map intOf) (ys.map intOf) else decide (i < j)
        rw [lt_ints h2 h4]
        by_cases e : i = j
        · subst e; simp
        · rw [if_neg (by simpa using e), if_neg e]
      | _ => cases h3
    | _ => cases h1
def rLtS : R2 := fun x y H Q => ∃ i j, x = .str i ∧ y = .str j ∧ Q (.bl (decide (i.cps.toList < j.cps.toList))) H
def rLtA (K : PySem.W.Frag) : R2 := fun x y H Q => (rI0 (fun i j => .bl (decide (i < j))) x y H Q ∨ rLtS x y H Q) ∨ rLtT K x y H Q
theorem or_lt (hu : X.A.units < cLine) : OpR X (compareOp .Lt) (rLtA X.K) := OpR.or (OpR.or op_lt op_lt_str) (op_ltT hu)
theorem cs_lt : CmpS K ltO (rLtA K) := fun w H st x y p q k Qv ok cx cy h hq => by
  cases p with
  | int i => cases q with
    | int j => cases h; exact .inl (.inl ⟨i, j, cur_int cx, cur_int cy, hq⟩)
    | _ => cases h
  | str s => cases q with
    | str t =>
      cases h
      refine .inl (.inr ⟨_, _, Rep.str_inv cx, Rep.str_inv cy, ?_⟩)
      rw [natsLt_eq] at hq
      simpa using hq
    | _ => cases h
  | tup xs => cases q with
    | tup ys =>
      have h : (if flatInts (.tup xs) && flatInts (.tup ys) then some (ltN 2 (.tup xs) (.tup ys)) else none) = some k := h
      split at h
      · rename_i hf
        obtain ⟨f1, f2⟩ := Bool.and_eq_true_iff.mp hf
        cases h
        obtain ⟨a, vs, ex, sx, rx⟩ := Rep.tup_inv cx
        obtain ⟨b, us, ey, sy, ry⟩ := Rep.tup_inv cy
        refine .inr ⟨a, b, xs.map intOf, ys.map intOf, ex, ey, ?_, ?_, ?_⟩
        · rw [← ints_reps rx f1]; exact SqT.of sx
        · rw [← ints_reps ry f2]; exact SqT.of sy
        · rw [← lt_ints (n := 0) f1 f2]; exact hq
      · cases h
    | _ => cases h
  | _ => cases q <;> cases h
def rLeA : R2 := fun x y H Q => rI0 (fun i j => .bl (decide (i ≤ j))) x y H Q ∨ (∃ i j, x = .str i ∧ y = .str j ∧ Q (.bl (!decide (j.cps.toList < i.cps.toList))) H)
theorem or_le : OpR X (compareOp .LtE) rLeA := OpR.or op_le op_le_str
theorem cs_le : CmpS K leO rLeA := fun w H st x y p q k Qv ok cx cy h hq => by
  cases p with
  | int i => cases q with
    | int j => cases h; exact .inl ⟨i, j, cur_int cx, cur_int cy, hq⟩
    | _ => cases h
  | str s => cases q with
    | str t =>
      cases h
      refine .inr ⟨_, _, Rep.str_inv cx, Rep.str_inv cy, ?_⟩
      rw [natsLt_eq] at hq
      simpa using hq
    | _ => cases h
  | _ => cases q <;> cases h
def rGtA : R2 := fun x y H Q => rI0 (fun i j => .bl (decide (j < i))) x y H Q ∨ (∃ i j, x = .str i ∧ y = .str j ∧ Q (.bl (decide (j.cps.toList < i.cps.toList))) H)
theorem or_gt : OpR X (compareOp .Gt) rGtA := OpR.or op_gt op_gt_str
theorem cs_gt : CmpS K gtO rGtA := fun w H st x y p q k Qv ok cx cy h hq => by
  cases p with
  | int i => cases q with
    | int j => cases h; exact .inl ⟨i, j, cur_int cx, cur_int cy, hq⟩
    | _ => cases h
  | str s => cases q with
    | str t =>
      cases h
      refine .inr ⟨_, _, Rep.str_inv cx, Rep.str_inv cy, ?_⟩
      rw [natsLt_eq] at hq
      simpa using hq
    | _ => cases h
  | _ => cases q <;> cases h
def rGeA : R2 := fun x y H Q => rI0 (fun i j => .bl (decide (j ≤ i))) x y H Q ∨ (∃ i j, x = .str i ∧ y = .str j ∧ Q (.bl (!decide (i.cps.toList < j.cps.toList))) H)
theorem or_ge : OpR X (compareOp .GtE) rGeA := OpR.or op_ge op_ge_str
theorem cs_ge : CmpS K geO rGeA := fun w H st x y p q k Qv ok cx cy h hq => by
  cases p with
  | int i => cases q with
    | int j => cases h; exact .inl ⟨i, j, cur_int cx, cur_int cy, hq⟩
    | _ => cases h
  | str s => cases q with
    | str t =>
      cases h
      refine .inr ⟨_, _, Rep.str_inv cx, Rep.str_inv cy, ?_⟩
      rw [natsLt_eq] at hq
      simpa using hq
    | _ => cases h
  | _ => cases q <;> cases h
end

/-! ### is -/
section
variable {X : L2.Cx} {K : PySem.W.Frag}
theorem is_bl_gen {M : Model} {A : Around} {E Q : Value → Shared → Prop} {s : Shared} {v : Value} {b : Bool} (hv : ∀ id, v ≠ .builtin id) (h : Q (.bool (v == .bool b)) s) : wpAny M A (compareOp .Is v (.bool b)) Q E s := by
  cases v with
  | bool c =>
    have e : (Value.bool c == Value.bool b) = (c == b) := by cases c <;> cases b <;> rfl
    rw [e] at h
    cases c <;> cases b <;> exact wpAny_pure h
  | builtin id => exact absurd rfl (hv id)
  | _ => exact wpAny_pure h
theorem isnot_bl_gen {M : Model} {A : Around} {E Q : Value → Shared → Prop} {s : Shared} {v : Value} {b : Bool} (hv : ∀ id, v ≠ .builtin id) (h : Q (.bool (!(v == .bool b))) s) : wpAny M A (compareOp .IsNot v (.bool b)) Q E s := by
  cases v with
  | bool c =>
    have e : (Value.bool c == Value.bool b) = (c == b) := by cases c <;> cases b <;> rfl
    rw [e] at h
    cases c <;> cases b <;> exact wpAny_pure h
  | builtin id => exact absurd rfl (hv id)
  | _ => exact wpAny_pure h
def isBlV (b : Bool) : V → Bool
  | .bl c => c == b
  | _ => false
theorem relV_bl {x : V} {v : Value} {b : Bool} (r : RelV x v) : (v == Value.bool b) = isBlV b x := by
  cases x with
  | non => cases r; rfl
  | bl c => cases r; cases c <;> cases b <;> rfl
  | int _ => obtain ⟨t, rfl⟩ := r; rfl
  | str _ => obtain ⟨t, rfl⟩ := r; rfl
  | byt _ => obtain ⟨t, rfl⟩ := r; rfl
  | flt _ => obtain ⟨t, rfl⟩ := r; rfl
  | ref _ => cases r; rfl
  | ty _ => cases r; rfl
theorem relV_nb {x : V} {v : Value} (r : RelV x v) : ∀ id, v ≠ .builtin id := fun id e => by
  subst e
  cases x with
  | int _ => obtain ⟨t, z⟩ := r; cases z
  | str _ => obtain ⟨t, z⟩ := r; cases z
  | byt _ => obtain ⟨t, z⟩ := r; cases z
  | flt _ => obtain ⟨t, z⟩ := r; cases z
  | _ => cases r
def rIsB : R2 := fun x y H Q => ∃ b, y = .bl b ∧ Q (.bl (isBlV b x)) H
def rIsNotB : R2 := fun x y H Q => ∃ b, y = .bl b ∧ Q (.bl (!isBlV b x)) H
theorem op_isB : OpR X (compareOp .Is) rIsB := by
  intro pins s σ H x y v u Q I rx ry h
  obtain ⟨b, rfl, q⟩ := h
  cases (show u = Value.bool b from ry)
  exact is_bl_gen (relV_nb rx) (fin_bl I q (relV_bl rx).symm)
theorem op_isNotB : OpR X (compareOp .IsNot) rIsNotB := by
  intro pins s σ H x y v u Q I rx ry h
  obtain ⟨b, rfl, q⟩ := h
  cases (show u = Value.bool b from ry)
  exact isnot_bl_gen (relV_nb rx) (fin_bl I q (by rw [relV_bl rx]))
def rIsA : R2 := fun x y H Q => (y = .non ∧ Q (.bl (decide (x = .non))) H) ∨ rIsB x y H Q
def rIsNotA : R2 := fun x y H Q => (y = .non ∧ Q (.bl (!decide (x = .non))) H) ∨ rIsNotB x y H Q
theorem or_is : OpR X (compareOp .Is) rIsA := OpR.or op_isN op_isB
theorem or_isNot : OpR X (compareOp .IsNot) rIsNotA := OpR.or op_notN op_isNotB
theorem cur_non {w : Wd} {H : Hp} {x : V} {p : P} (c : Cur w H x p) : decide (x = .non) = isNon p := by
  cases p with
  | non => cases Rep.non_inv c; rfl
  | bl b => cases Rep.bl_inv c; rfl
  | int i => cases Rep.int_inv c; rfl
  | str s => cases Rep.str_inv c; rfl
  | tup ps => obtain ⟨a, vs, e, _⟩ := Rep.tup_inv c; subst e; rfl
  | lst ps => obtain ⟨a, vs, e, _⟩ := c; subst e; rfl
  | dic t kvs => obtain ⟨a, e, _⟩ := c; subst e; rfl
  | set xs => obtain ⟨n, h⟩ := (show Rep w.fz H x (.set xs) from c); cases n <;> exact h.elim
theorem cur_bl {w : Wd} {H : Hp} {x : V} {p : P} {b : Bool} (c : Cur w H x p) : isBlV b x = isBl b p := by
  cases p with
  | non => cases Rep.non_inv c; rfl
  | bl b => cases Rep.bl_inv c; rfl
  | int i => cases Rep.int_inv c; rfl
  | str s => cases Rep.str_inv c; rfl
  | tup ps => obtain ⟨a, vs, e, _⟩ := Rep.tup_inv c; subst e; rfl
  | lst ps => obtain ⟨a, vs, e, _⟩ := c; subst e; rfl
  | dic t kvs => obtain ⟨a, e, _⟩ := c; subst e; rfl
  | set xs => obtain ⟨n, h⟩ := (show Rep w.fz H x (.set xs) from c); cases n <;> exact h.elim
theorem cs_is : CmpS K isO rIsA := fun w H st x y p q k Qv ok cx cy h hq => by
  cases q with
  | non => cases h; exact .inl ⟨Rep.non_inv cy, by rw [cur_non cx]; exact hq⟩
  | bl b => cases h; exact .inr ⟨b, Rep.bl_inv cy, by rw [cur_bl cx]; exact hq⟩
  | _ => cases h
theorem cs_isNot : CmpS K isNotO rIsNotA := fun w H st x y p q k Qv ok cx cy h hq => by
  cases q with
  | non => cases h; exact .inl ⟨Rep.non_inv cy, by rw [cur_non cx]; exact hq⟩
  | bl b => cases h; exact .inr ⟨b, Rep.bl_inv cy, by rw [cur_bl cx]; exact hq⟩
  | _ => cases h
end

/-! ### keys of dicts -/
theorem keyV_ok {p : P} (h : keyAtom p = true) : ∃ k, keyV p = some k := by
  cases p with
  | int i => exact ⟨_, rfl⟩
  | str s => exact ⟨_, rfl⟩
  | _ => cases h
theorem keysV_ok : ∀ {ps : List P}, allP keyAtom ps = true → ∃ ks, keysV ps = some ks
  | [], _ => ⟨[], rfl⟩
  | p :: r, h => by
    obtain ⟨h1, h2⟩ := Bool.and_eq_true_iff.mp (show (keyAtom p && allP keyAtom r) = true from h)
    obtain ⟨k, e⟩ := keyV_ok h1
    obtain ⟨ks, e2⟩ := keysV_ok h2
    exact ⟨k :: ks, by rw [keysV, e, e2]⟩
theorem key_eq {n : Nat} {p q : P} {k l : Key} (h : keyV p = some k) (h' : keyV q = some l) : eqN (n + 1) p q = decide (k = l) := by
  cases p with
  | int i =>
    cases h
    cases q with
    | int j => cases h'; show (i == j) = _; rw [key_ll]
    | str t => cases h'; exact (key_lr _ _).symm
    | _ => cases h'
  | str s =>
    cases h
    cases q with
    | int j => cases h'; exact (key_rl _ _).symm
    | str t => cases h'; show natsEq s t = _; rw [key_rr, ← str_beq, Bool.beq_eq_decide_eq]
    | _ => cases h'
  | _ => cases h
theorem keys_eq {n : Nat} : ∀ {ps qs : List P} {ks ls : List Key}, keysV ps = some ks → keysV qs = some ls → eqL (eqN (n + 1)) ps qs = decide (ks = ls)
  | [], [], _, _, h, h' => by cases h; cases h'; rfl
  | [], q :: qs, _, _, h, h' => by
    cases h
    have h' : (match keyV q, keysV qs with
      | some k, some ks => some (k :: ks)
      | _, _ => none) = some _ := h'
    split at h'
    · cases h'; rfl
    · cases h'
  | p :: ps, [], _, _, h, h' => by
    cases h'
    have h : (match keyV p, keysV ps with
      | some k, some ks => some (k :: ks)
      | _, _ => none) = some _ := h
    split at h
    · cases h; rfl
    · cases h
  | p :: ps, q :: qs, _, _, h, h' => by
    have h : (match keyV p, keysV ps with
      | some k, some ks => some (k :: ks)
      | _, _ => none) = some _ := h
    have h' : (match keyV q, keysV qs with
      | some k, some ks => some (k :: ks)
      | _, _ => none) = some _ := h'
    split at h
    · rename_i k ks e1 e2
      split at h'
      · rename_i l ls e3 e4
        cases h
        cases h'
        show (eqN (n + 1) p q && eqL (eqN (n + 1)) ps qs) = _
        rw [key_eq e1 e3, keys_eq e2 e4]
        by_cases a : k = l
        · subst a; simp
        · simp [a]
      · cases h'
    · cases h
section
variable {w : Wd} {H : Hp}
theorem rep_key {v : V} {p : P} {k : Key} (r : Rep w.fz H v p) (h : keyV p = some k) : v = kV k := by
  cases p with
  | int i => cases h; exact Rep.int_inv r
  | str s => cases h; exact Rep.str_inv r
  | _ => cases h
theorem reps_keys : ∀ {vs : List V} {ps : List P} {ks : List Key}, Reps w.fz H vs ps → keysV ps = some ks → vs = ks.map kV
  | _, _, _, .nil, h => by cases h; rfl
  | _, _, _, .cons (b := p) (l₂ := ps) r t, h => by
    have h : (match keyV p, keysV ps with
      | some k, some ks => some (k :: ks)
      | _, _ => none) = some _ := h
    split at h
    · rename_i k ks e1 e2
      cases h
      rw [rep_key r e1, reps_keys t e2]
      rfl
    · cases h
/-- what a dict holds at a key -/
theorem look_eq {κ : Type} [DecidableEq κ] {p : P} {k : κ} {Z : κ × V → P × P → Prop} (hz : ∀ e q, Z e q → eqN deep q.1 p = decide (e.1 = k)) : ∀ {es : List (κ × V)} {kvs : List (P × P)}, Paired (fun e q => Z e q ∧ Rep w.fz H e.2 q.2) es kvs →
    (lookD p kvs).isSome = (valV es k).isSome ∧ ∀ r, lookD p kvs = some r → ∃ v, valV es k = some v ∧ Rep w.fz H v r
  | _, _, .nil => ⟨rfl, fun r h => nomatch h⟩
  | _, _, .cons (a := e) (b := q) r t => by
    have ih := look_eq hz t
    have z := hz e q r.1
    obtain ⟨q1, q2⟩ := q
    by_cases c : e.1 = k
    · rw [decide_eq_true c] at z
      have e1 : ∀ m, lookD p ((q1, q2) :: m) = some q2 := fun m => by
        show (if eqN deep q1 p = true then some q2 else lookD p m) = _
        rw [if_pos z]
      rw [valV_pos c, e1]
      exact ⟨rfl, fun r' h => ⟨e.2, rfl, by cases h; exact r.2⟩⟩
    · rw [decide_eq_false c] at z
      have e1 : ∀ m, lookD p ((q1, q2) :: m) = lookD p m := fun m => by
        show (if eqN deep q1 p = true then some q2 else lookD p m) = _
        rw [if_neg (by rw [z]; exact Bool.false_ne_true)]
      rw [valV_neg c, e1]
      exact ih
theorem dget_of {a : Addr} {t : Bool} {kvs : List (P × P)} {x : V} {p : P} (r : Kvs w.fz H a t kvs) (cx : Cur w H x p) (h : keyOk t p = true) : ∃ o, DGet H a x o ∧ (lookD p kvs).isSome = o.isSome ∧ ∀ q, lookD p kvs = some q → ∃ v, o = some v ∧ Rep w.fz H v q := by
  rcases r with ⟨et, es, h1, h2⟩ | ⟨et, es, h1, h2⟩
  · subst et
    have ha : keyAtom p = true := by
      cases p <;> first
        | exact h
        | (cases h; done)
    obtain ⟨k, ek⟩ := keyV_ok ha
    have cx' : Rep w.fz H x p := by
      cases p <;> first
        | exact cx
        | (cases ha; done)
    obtain ⟨l1, l2⟩ := look_eq (k := k) (p := p) (Z := fun e q => keyV q.1 = some e.1) (fun e q z => key_eq z ek) h2
    exact ⟨valV es k, .inl ⟨es, k, h1, rep_key cx' ek, rfl⟩, l1, l2⟩
  · subst et
    cases p with
    | tup ps =>
      obtain ⟨ks, ek⟩ := keysV_ok (show allP keyAtom ps = true from h)
      obtain ⟨b, vs, ex, sx, rx⟩ := Rep.tup_inv cx
      rw [reps_keys rx ek] at sx
      obtain ⟨l1, l2⟩ := look_eq (k := ks) (p := .tup ps) (Z := fun e q => ∃ ps, q.1 = .tup ps ∧ keysV ps = some e.1) (fun e q z => by
        obtain ⟨qs, e1, e2⟩ := z
        rw [e1]
        exact keys_eq e2 ek) h2
      exact ⟨valV es ks, .inr ⟨es, ks, b, h1, ex, sx, rfl⟩, l1, l2⟩
    | _ => cases h
end

/-! ### in -/
section
variable {X : L2.Cx} {K : PySem.W.Frag}
def rInT (K : PySem.W.Frag) : R2 := fun x y H Q => ∃ d ds, Dp K H x d ∧ Dp K H y (.tuple ds) ∧ SeqAt.shaped d = true ∧ SeqAt.shaped (.tuple ds) = true ∧ Q (.bl (ds.any fun z => PyData.eqv z d)) H
def rNotInT (K : PySem.W.Frag) : R2 := fun x y H Q => ∃ d ds, Dp K H x d ∧ Dp K H y (.tuple ds) ∧ SeqAt.shaped d = true ∧ SeqAt.shaped (.tuple ds) = true ∧ Q (.bl (!ds.any fun z => PyData.eqv z d)) H
theorem op_inT (hu : X.A.units + 65 < cLine) : OpR X (compareOp .In) (rInT X.K) := by
  intro pins s σ H x y v u Q I rx ry h
  obtain ⟨d, ds, hd, he, sd, se, q⟩ := h
  obtain ⟨as, r1⟩ := Dp.reads I d x v hd rx
  obtain ⟨bs, r2⟩ := Dp.reads I (.tuple ds) y u he ry
  exact SeqAt.in_tuple_reads r2 r1 (SeqAt.canLay_of_shaped se) (SeqAt.canLay_of_shaped sd) (room_in_shaped sd hu) ⟨.bl _, H, I, rfl, q⟩
theorem op_notInT (hu : X.A.units + 65 < cLine) : OpR X (compareOp .NotIn) (rNotInT X.K) := by
  intro pins s σ H x y v u Q I rx ry h
  obtain ⟨d, ds, hd, he, sd, se, q⟩ := h
  obtain ⟨as, r1⟩ := Dp.reads I d x v hd rx
  obtain ⟨bs, r2⟩ := Dp.reads I (.tuple ds) y u he ry
  exact SeqAt.notIn_tuple_reads r2 r1 (SeqAt.canLay_of_shaped se) (SeqAt.canLay_of_shaped sd) (room_in_shaped sd hu) ⟨.bl _, H, I, rfl, q⟩
def rInK : R2 := fun x y H Q => ∃ a o, y = .ref a ∧ DGet H a x o ∧ Q (.bl o.isSome) H
def rNotInK : R2 := fun x y H Q => ∃ a o, y = .ref a ∧ DGet H a x o ∧ Q (.bl (!o.isSome)) H
theorem op_inK (hu : X.A.units + 1 < cLine) : OpR X (compareOp .In) rInK := by
  intro pins s σ H x y v u Q I rx ry h
  obtain ⟨a, o, rfl, g, q⟩ := h
  obtain rfl : u = Value.ref a := ry
  exact d_in hu I g rx fun s3 I3 => ⟨.bl o.isSome, H, I3, rfl, q⟩
theorem op_notInK (hu : X.A.units + 1 < cLine) : OpR X (compareOp .NotIn) rNotInK := by
  intro pins s σ H x y v u Q I rx ry h
  obtain ⟨a, o, rfl, g, q⟩ := h
  obtain rfl : u = Value.ref a := ry
  exact d_notIn hu I g rx fun s3 I3 => ⟨.bl (!o.isSome), H, I3, rfl, q⟩
def rInS1 : R2 := fun x y H Q => ∃ (c : Nat) (z : PySem.Str), x = .str ⟨#[c]⟩ ∧ y = .str z ∧ Q (.bl (decide (c ∈ z.cps.toList))) H
def rNotInS1 : R2 := fun x y H Q => ∃ (c : Nat) (z : PySem.Str), x = .str ⟨#[c]⟩ ∧ y = .str z ∧ Q (.bl (!decide (c ∈ z.cps.toList))) H
def rInA (K : PySem.W.Frag) : R2 := fun x y H Q => (rInD K x y H Q ∨ rInT K x y H Q) ∨ (rInK x y H Q ∨ rInS1 x y H Q)
def rNotInA (K : PySem.W.Frag) : R2 := fun x y H Q => (rNotInD K x y H Q ∨ rNotInT K x y H Q) ∨ (rNotInK x y H Q ∨ rNotInS1 x y H Q)
theorem or_in (hu : X.A.units + 65 < cLine) : OpR X (compareOp .In) (rInA X.K) := OpR.or (OpR.or (op_inD hu) (op_inT hu)) (OpR.or (op_inK (by omega)) op_in_sign)
theorem or_notIn (hu : X.A.units + 65 < cLine) : OpR X (compareOp .NotIn) (rNotInA X.K) := OpR.or (OpR.or (op_notInD hu) (op_notInT hu)) (OpR.or (op_notInK (by omega)) op_notIn_sign)
theorem any_data {n : Nat} {p : P} (hp : dataN n p = true) : ∀ {qs : List P}, (∀ q ∈ qs, dataN n q = true) → ((qs.map (toD n)).any fun z => PyData.eqv z (toD n p)) = anyP (fun z => eqN n z p) qs
  | [], _ => rfl
  | q :: r, h => by
    rw [List.map_cons, List.any_cons, anyP, eqv_of n q p (h q (by simp)) hp, any_data hp fun z hz => h z (by simp [hz])]
theorem any_sign {c : Nat} : ∀ {t : List Nat}, (t.any fun d => Nat.beq d c) = decide (c ∈ t)
  | [] => by simp
  | d :: r => by
    rw [List.any_cons, any_sign (t := r)]
    by_cases h : d = c
    · subst h
      simp
    · have : Nat.beq d c = false := by
        cases q : Nat.beq d c with
        | false => rfl
        | true => exact absurd (Nat.eq_of_beq_eq_true q) h
      rw [this]
      have h2 : ¬ c = d := fun e => h e.symm
      simp [h2]
/-- the four ways of in -/
theorem in_ways {w : Wd} {H : Hp} {x y : V} {p q : P} {k : Bool} (cx : Cur w H x p) (cy : Cur w H y q) (h : inO p q = some k) :
    (∃ d ds, Dp K H x d ∧ Dp K H y (.list ds) ∧ SeqAt.shaped d = true ∧ SeqAt.shaped (.list ds) = true ∧ (ds.any fun z => PyData.eqv z d) = k) ∨
    (∃ d ds, Dp K H x d ∧ Dp K H y (.tuple ds) ∧ SeqAt.shaped d = true ∧ SeqAt.shaped (.tuple ds) = true ∧ (ds.any fun z => PyData.eqv z d) = k) ∨
    (∃ a o, y = .ref a ∧ DGet H a x o ∧ o.isSome = k) ∨ (∃ (c : Nat) (z : PySem.Str), x = .str ⟨#[c]⟩ ∧ y = .str z ∧ decide (c ∈ z.cps.toList) = k) := by
  cases q with
  | lst ys =>
    have h : (if isData p && allP isData ys then some (anyP (fun z => eqN deep z p) ys) else none) = some k := h
    split at h
    · rename_i hf
      obtain ⟨f1, f2⟩ := Bool.and_eq_true_iff.mp hf
      cases h
      have f3 : dataN (deep + 1) (.lst ys) = true := f2
      refine .inl ⟨toD deep p, ys.map (toD deep), dp_of deep p x f1 cx, dp_of (deep + 1) (.lst ys) y f3 cy, shaped_of (by decide) f1, shaped_of (n := deep + 1) (p := .lst ys) (by decide) f3, any_data f1 (allP_iff.mp f2)⟩
    · cases h
  | tup ys =>
    have h : (if isData p && allP isData ys then some (anyP (fun z => eqN deep z p) ys) else none) = some k := h
    split at h
    · rename_i hf
      obtain ⟨f1, f2⟩ := Bool.and_eq_true_iff.mp hf
      cases h
      have f3 : dataN (deep + 1) (.tup ys) = true := f2
      refine .inr (.inl ⟨toD deep p, ys.map (toD deep), dp_of deep p x f1 cx, dp_of (deep + 1) (.tup ys) y f3 cy, shaped_of (by decide) f1, shaped_of (n := deep + 1) (p := .tup ys) (by decide) f3, any_data f1 (allP_iff.mp f2)⟩)
    · cases h
  | dic t kvs =>
    have h : (if keyOk t p then some (lookD p kvs).isSome else none) = some k := h
    split at h
    · rename_i hf
      cases h
      obtain ⟨a, e, r⟩ := cy
      obtain ⟨o, g, e2, _⟩ := dget_of r cx hf
      exact .inr (.inr (.inl ⟨a, o, e, g, e2.symm⟩))
    · cases h
  | str t =>
    cases p with
    | str s =>
      cases s with
      | nil => cases h
      | cons c r => cases r with
        | cons _ _ => cases h
        | nil =>
          cases h
          refine .inr (.inr (.inr ⟨c, ⟨t.toArray⟩, Rep.str_inv cx, Rep.str_inv cy, ?_⟩))
          rw [any_sign]
    | _ => cases h
  | _ => cases h
theorem cs_in : CmpS K inO (rInA K) := fun w H st x y p q k Qv ok cx cy h hq => by
  rcases in_ways (K := K) cx cy h with ⟨d, ds, a, b, c, e, f⟩ | ⟨d, ds, a, b, c, e, f⟩ | ⟨a, o, e, g, f⟩ | ⟨c, z, e1, e2, f⟩
  · exact .inl (.inl ⟨d, ds, a, b, c, e, by rw [f]; exact hq⟩)
  · exact .inl (.inr ⟨d, ds, a, b, c, e, by rw [f]; exact hq⟩)
  · exact .inr (.inl ⟨a, o, e, g, by rw [f]; exact hq⟩)
  · exact .inr (.inr ⟨c, z, e1, e2, by rw [f]; exact hq⟩)
theorem cs_notIn : CmpS K notInO (rNotInA K) := fun w H st x y p q k Qv ok cx cy h hq => by
  unfold notInO at h
  cases z : inO p q with
  | none => rw [z] at h; cases h
  | some b =>
    rw [z] at h
    cases h
    rcases in_ways (K := K) cx cy z with ⟨d, ds, a, b, c, e, f⟩ | ⟨d, ds, a, b, c, e, f⟩ | ⟨a, o, e, g, f⟩ | ⟨c, z, e1, e2, f⟩
    · exact .inl (.inl ⟨d, ds, a, b, c, e, by rw [f]; exact hq⟩)
    · exact .inl (.inr ⟨d, ds, a, b, c, e, by rw [f]; exact hq⟩)
    · exact .inr (.inl ⟨a, o, e, g, by rw [f]; exact hq⟩)
    · exact .inr (.inr ⟨c, z, e1, e2, by rw [f]; exact hq⟩)
end
end Rt

set_option Elab.async false
set_option linter.all false
set_option maxRecDepth 100000
set_option autoImplicit false
set_option maxHeartbeats 4000000
namespace Rt
open PySem PySem.Spec PyProof.Rows L2

/-! ### a value for good -/
section
variable {w : Wd} {H : Hp} {st : Sto} {g : Gc} {E : XK}
theorem Ok.freeze (ok : Ok w H st) {n : Nat} {a : Addr} (hm : w.mu[n]? = some a) {c c' : Cell} (hc : st[n]? = some c) (hn : ¬ w.fz a) (h : CellOk (w.hold a) H a c') : Ext w (w.hold a) H H ∧ Ok (w.hold a) H (st.set n c') := by
  have x : Ext w (w.hold a) H H := ⟨fun b f => ⟨.inl f, fun _ e => .inl e⟩, fun _ _ e => e, fun _ _ _ e => e, fun _ _ e => e, rfl, fun _ _ => rfl, fun _ => ⟨fun h => h, .inl⟩⟩
  refine ⟨x, fun b f => ?_, by rw [List.length_set]; exact ok.len, fun m d b e1 e2 => ?_, ok.nd, fun b k => ?_⟩
  rotate_right
  · obtain ⟨k1, k2, o, e⟩ := ok.kp b k
    exact ⟨k1, fun z => z.elim k2 fun z => k1 (by rw [z]; exact List.mem_of_getElem? hm), o, e⟩
  · rcases f with f | f
    · exact ok.wok b f
    · obtain ⟨c0, _, q⟩ := ok.cell_of hm
      rw [f]; exact q.there
  · have e2 : w.mu[m]? = some b := e2
    by_cases hm2 : m = n
    · subst hm2
      rw [hm] at e2; cases e2
      rw [List.getElem?_set_self (List.getElem?_eq_some_iff.mp hc).1] at e1
      cases e1
      exact h
    · rw [List.getElem?_set_ne (Ne.symm hm2)] at e1
      have hb : b ≠ a := fun e => by
        subst e
        obtain ⟨h1, e3⟩ := List.getElem?_eq_some_iff.mp hm
        obtain ⟨h2, e4⟩ := List.getElem?_eq_some_iff.mp e2
        exact hm2 ((List.getElem_inj ok.nd).mp (e4.trans e3.symm))
      exact (ok.cells m d b e1 e2).keep x rfl fun z => z.elim (fun z => z) fun z => absurd z hb
theorem toV_ok (ok : Ok w H st) {v : V} {a : A} (ra : RepA w H v a) {p : P} {st' : Sto} (h : toV a st = .ok p st') : ∃ w', Ext w w' H H ∧ Ok w' H st' ∧ Rep w'.fz H v p := by
  cases a with
  | v q => cases h; exact ⟨w, Ext.refl, ok, ra⟩
  | r n =>
    obtain ⟨ad, e, ex⟩ := ra
    subst ex
    obtain ⟨c, hc, q⟩ := ok.cell_of e
    have h : (match lookC st n with
      | some (.l xs) => R.ok (P.lst xs) (putC st n (.f xs))
      | some (.f xs) => .ok (.lst xs) st
      | some (.d t kvs) => .ok (.dic t kvs) (putC st n (.df t kvs))
      | some (.df t kvs) => .ok (.dic t kvs) st
      | none => .no) = .ok p st' := h
    rw [lookC_eq, hc] at h
    cases c with
    | l xs =>
      cases h
      obtain ⟨nf, vs, e2, r⟩ := q
      have x : Ext w (w.hold ad) H H := ⟨fun b f => ⟨.inl f, fun _ e => .inl e⟩, fun _ _ e => e, fun _ _ _ e => e, fun _ _ e => e, rfl, fun _ _ => rfl, fun _ => ⟨fun h => h, .inl⟩⟩
      obtain ⟨x2, ok2⟩ := ok.freeze (c' := .f xs) e hc nf ⟨.inr rfl, vs, .inl e2, x.reps r⟩
      rw [← putC_eq] at ok2
      exact ⟨w.hold ad, x2, ok2, Rep.lst (.inl ⟨.inr rfl, e2⟩) (x.reps r)⟩
    | f xs =>
      cases h
      obtain ⟨f, vs, e2, r⟩ := q
      exact ⟨w, Ext.refl, ok, Rep.lst (e2.elim (fun e => .inl ⟨f, e⟩) .inr) r⟩
    | d t kvs =>
      cases h
      obtain ⟨nf, r, _⟩ := q
      have x : Ext w (w.hold ad) H H := ⟨fun b f => ⟨.inl f, fun _ e => .inl e⟩, fun _ _ e => e, fun _ _ _ e => e, fun _ _ e => e, rfl, fun _ _ => rfl, fun _ => ⟨fun h => h, .inl⟩⟩
      obtain ⟨x2, ok2⟩ := ok.freeze (c' := .df t kvs) e hc nf ⟨.inr rfl, r.keep x rfl⟩
      rw [← putC_eq] at ok2
      exact ⟨w.hold ad, x2, ok2, Rep.dic (.inr rfl) (r.keep x rfl)⟩
    | df t kvs =>
      cases h
      exact ⟨w, Ext.refl, ok, Rep.dic q.1 q.2⟩
section
variable {α β : Type} {rel : Wd → Hp → β → α → Prop} {Q : β → Hp → Prop}
/-- behind toV -/
theorem toV_post {k : P → M α} {v : V} {a : A} (ok : Ok w H st) (ra : RepA w H v a) (post : Post g E rel w H (Rt.bind (toV a) k st) Q) :
    ∃ w' st' p, Ext w w' H H ∧ Ok w' H st' ∧ Rep w'.fz H v p ∧ Post g E rel w' H (k p st') Q := by
  unfold Rt.bind at post
  cases q : toV a st with
  | ok p st' =>
    rw [q] at post
    obtain ⟨w', x, ok', r⟩ := toV_ok ok ra q
    exact ⟨w', st', p, x, ok', r, Post.ext x post⟩
  | ex c p st' =>
    exfalso
    cases a with
    | v z => cases q
    | r n =>
      have q : (match lookC st n with
        | some (.l xs) => R.ok (P.lst xs) (putC st n (.f xs))
        | some (.f xs) => .ok (.lst xs) st
        | some (.d t kvs) => .ok (.dic t kvs) (putC st n (.df t kvs))
        | some (.df t kvs) => .ok (.dic t kvs) st
        | none => .no) = .ex c p st' := q
      split at q <;> cases q
  | no => rw [q] at post; exact post.elim
theorem bind_assoc_ {γ δ ε : Type} (m : M γ) (f : γ → M δ) (h : δ → M ε) (s : Sto) : Rt.bind (Rt.bind m f) h s = Rt.bind m (fun a => Rt.bind (f a) h) s := by
  unfold Rt.bind
  cases m s <;> rfl
theorem toVs_post : ∀ {vs : List V} {as : List A} {w : Wd} {st : Sto} {k : List P → M α}, Ok w H st → Paired (RepA w H) vs as → Post g E rel w H (Rt.bind (toVs as) k st) Q →
    ∃ w' st' ps, Ext w w' H H ∧ Ok w' H st' ∧ Reps w'.fz H vs ps ∧ Post g E rel w' H (k ps st') Q
  | _, _, w, st, k, ok, .nil, post => ⟨w, st, [], Ext.refl, ok, .nil, post⟩
  | _, _, w, st, k, ok, .cons (b := a) (l₂ := as) ra t, post => by
    have post : Post g E rel w H (Rt.bind (Rt.bind (toV a) fun p => Rt.bind (toVs as) fun ps => ret (p :: ps)) k st) Q := post
    rw [bind_assoc_] at post
    obtain ⟨w1, st1, p, x1, ok1, r1, post1⟩ := toV_post ok ra post
    rw [bind_assoc_] at post1
    obtain ⟨w2, st2, ps, x2, ok2, r2, post2⟩ := toVs_post ok1 (Paired.imp t fun _ _ => x1.repA) post1
    exact ⟨w2, st2, p :: ps, x1.trans x2, ok2, .cons (x2.rep r1) r2, post2⟩
end
end

/-! ### arguments, displays -/
section
variable {X : L2.Cx} {g : Gc} {E : XK} {pos : Pos} {e : Expr} {es : List Expr} {f : Ex} {fs : List Ex}
theorem sa_nil : SA X g E [] [] := ⟨_, pa_nil, fun w σ H env st Q ok re post => post w H [] Ext.refl ok .nil⟩
theorem sa_cons (he : SE X g E e f) (hr : SA X g E es fs) (hs : starEach (e :: es) X.env = (false, eval e X.env) :: starEach es X.env := by rfl) : SA X g E (e :: es) (f :: fs) := by
  obtain ⟨t, p, s⟩ := he
  obtain ⟨tr, pr, sr⟩ := hr
  refine ⟨_, pa_cons p pr hs, fun w σ H env st Q ok re post => ?_⟩
  refine s w σ H env st _ ok re (Post.bind post fun a st1 w1 H1 v1 x1 ok1 r1 post1 => ?_)
  refine sr w1 σ H1 env st1 _ ok1 (x1.repE re) (Post.bind post1 fun as st2 w2 H2 vs x2 ok2 r2 post2 => ?_)
  exact post2 w2 H2 _ Ext.refl ok2 (.cons (x2.repA r1) r2)
theorem bind_ok {α β : Type} {m : M α} {k : α → M β} {st st' : Sto} {b : β} (h : Rt.bind m k st = .ok b st') : ∃ a st1, m st = .ok a st1 ∧ k a st1 = .ok b st' := by
  unfold Rt.bind at h
  cases q : m st with
  | ok a st1 => rw [q] at h; exact ⟨a, st1, rfl, h⟩
  | ex c p st1 => rw [q] at h; cases h
  | no => rw [q] at h; cases h
theorem evs_len : ∀ {fs : List Ex} {env : En} {st st' : Sto} {as : List A}, evs fs env st = .ok as st' → as.length = fs.length
  | [], _, _, _, _, h => by cases h; rfl
  | f :: r, env, st, st', as, h => by
    obtain ⟨a, st1, _, h⟩ := bind_ok (show Rt.bind (f env) (fun x => Rt.bind (evs r env) fun xs => ret (x :: xs)) st = .ok as st' from h)
    obtain ⟨xs, st2, h2, h⟩ := bind_ok h
    cases h
    rw [List.length_cons, List.length_cons, evs_len h2]
/-- a reading of arguments, with how many they are -/
theorem SA.post (sa : SA X g E es fs) : ∃ t, PA X es t ∧ ∀ (w : Wd) (σ : L2.St) (H : Hp) (env : En) (st : Sto) (Q : List V → Hp → Prop), Ok w H st → RepE w H σ env → Post g E relL w H (evs fs env st) (fun vs H' => vs.length = fs.length → Q vs H') → t σ H Q := by
  obtain ⟨t, p, s⟩ := sa
  refine ⟨t, p, fun w σ H env st Q ok re post => s w σ H env st Q ok re ?_⟩
  cases q : evs fs env st with
  | ok as st' =>
    rw [q] at post
    exact fun w' H' vs x ok' r => post w' H' vs x ok' r ((Paired.len r).trans (evs_len q))
  | ex c p st' => rw [q] at post; exact post
  | no => rw [q] at post; exact post
theorem small_line {n : Nat} (h : n ≤ 1000) : n ≤ sizeLine := Nat.le_of_lt (small1000 h)
theorem Post.strong {α β : Type} {rel : Wd → Hp → β → α → Prop} {w : Wd} {H : Hp} {r : R α} {Q Q' : β → Hp → Prop} (p : Post g E rel w H r Q) (h : ∀ b H', Q b H' → Q' b H') : Post g E rel w H r Q' := by
  cases r with
  | ok a st => exact fun w' H' b x ok r => h b H' (p w' H' b x ok r)
  | ex c q st => exact p
  | no => exact p
theorem se_tup {k : Nat} (sa : SA X g E es fs) (hz : fs.length ≤ 1000 := by decide) : SE X g E (.Tuple es k pos) (eTup fs) := by
  obtain ⟨t, p, s⟩ := sa.post
  refine ⟨_, pe_tup p, fun w σ H env st Q ok re post => ?_⟩
  refine s w σ H env st _ ok re (Post.bind post fun as st1 w1 H1 vs x1 ok1 r1 post1 => ?_)
  intro hl
  obtain ⟨w2, st2, ps, x2, ok2, r2, post2⟩ := toVs_post ok1 r1 post1
  exact ⟨by rw [hl]; exact small_line hz, fun p hp => tup_post ok2 r2 (fun w' H' v x ok' r' => post2 w' H' v x ok' r') p hp⟩
theorem se_lst (sa : SA X g E es fs) (hz : fs.length ≤ 1000 := by decide) : SE X g E (.List es pos) (eLst fs) := by
  obtain ⟨t, p, s⟩ := sa.post
  refine ⟨_, pe_lst p, fun w σ H env st Q ok re post => ?_⟩
  refine s w σ H env st _ ok re (Post.bind post fun as st1 w1 H1 vs x1 ok1 r1 post1 => ?_)
  intro hl
  obtain ⟨w2, st2, ps, x2, ok2, r2, post2⟩ := toVs_post ok1 r1 post1
  exact ⟨by rw [hl]; exact small_line hz, fun p hp => lst_post ok2 r2 (fun w' H' v x ok' r' => post2 w' H' v x ok' r') p hp⟩
theorem se_lstR (sa : SA X g E es fs) (hz : fs.length ≤ 1000 := by decide) : SE X g E (.List es pos) (eLstR fs) := by
  obtain ⟨t, p, s⟩ := sa.post
  refine ⟨_, pe_lst p, fun w σ H env st Q ok re post => ?_⟩
  refine s w σ H env st _ ok re (Post.bind post fun as st1 w1 H1 vs x1 ok1 r1 post1 => ?_)
  intro hl
  obtain ⟨w2, st2, ps, x2, ok2, r2, post2⟩ := toVs_post ok1 r1 post1
  exact ⟨by rw [hl]; exact small_line hz, fun p hp => new_post ok2 r2 post2 p hp⟩
/-- with starred ones -/
structure SAS (X : L2.Cx) (g : Gc) (E : XK) (es : List Expr) (fs : List (Bool × Ex)) : Prop where
  ex : ∃ t, PA X es t ∧ Sim g E relL t (spl fs)
variable {fss : List (Bool × Ex)}
theorem ss_nil : SAS X g E [] [] := ⟨_, pa_nil, fun w σ H env st Q ok re post => post w H [] Ext.refl ok .nil⟩
theorem ss_cons (he : SE X g E e f) (hr : SAS X g E es fss) (hs : starEach (e :: es) X.env = (false, eval e X.env) :: starEach es X.env := by rfl) : SAS X g E (e :: es) ((false, f) :: fss) := by
  obtain ⟨t, p, s⟩ := he
  obtain ⟨tr, pr, sr⟩ := hr
  refine ⟨_, pa_cons p pr hs, fun w σ H env st Q ok re post => ?_⟩
  refine s w σ H env st _ ok re (Post.bind post fun a st1 w1 H1 v1 x1 ok1 r1 post1 => ?_)
  refine sr w1 σ H1 env st1 _ ok1 (x1.repE re) (Post.bind post1 fun as st2 w2 H2 vs x2 ok2 r2 post2 => ?_)
  exact post2 w2 H2 _ Ext.refl ok2 (.cons (x2.repA r1) r2)
theorem reps_A {w : Wd} {H : Hp} : ∀ {vs : List V} {ps : List P}, Reps w.fz H vs ps → Paired (RepA w H) vs (ps.map A.v)
  | _, _, .nil => .nil
  | _, _, .cons r t => .cons r (reps_A t)
theorem seq_rep {w : Wd} {H : Hp} {v : V} {p : P} {ys : List P} (K : PySem.W.Frag) (r : Rep w.fz H v p) (h : seqP p = some ys) : ∃ a xs, v = .ref a ∧ (SqT K H a xs ∨ SqL K H a xs) ∧ Reps w.fz H xs ys := by
  cases p with
  | tup ps => cases h; obtain ⟨a, vs, e, s, r⟩ := r.tup_inv; exact ⟨a, vs, e, .inl (SqT.of s), r⟩
  | lst ps => cases h; obtain ⟨a, vs, e, s, r⟩ := r.lst_inv; exact ⟨a, vs, e, .inr (.inl s.rd), r⟩
  | _ => cases h
theorem ss_star {p' : Pos} (he : SE X g E e f) (hr : SAS X g E es fss) (hs : starEach (.Starred e p' :: es) X.env = (true, eval e X.env) :: starEach es X.env := by rfl) : SAS X g E (.Starred e p' :: es) ((true, f) :: fss) := by
  obtain ⟨t, p, s⟩ := he
  obtain ⟨tr, pr, sr⟩ := hr
  refine ⟨_, StX.pa_star p pr hs, fun w σ H env st Q ok re post => ?_⟩
  refine s w σ H env st _ ok re (Post.bind post fun a st1 w1 H1 v1 x1 ok1 r1 post1 => ?_)
  obtain ⟨w2, st2, q, x2, ok2, r2, post2⟩ := toV_post ok1 r1 post1
  have post2 : Post g E relL w2 H1 (Rt.bind (opt (seqP q)) (fun ys => Rt.bind (spl fss env) fun xs => ret (ys.map A.v ++ xs)) st2) Q := post2
  cases z : seqP q with
  | none => rw [z] at post2; exact post2.elim
  | some ys =>
    rw [z] at post2
    have post2 : Post g E relL w2 H1 (Rt.bind (spl fss env) (fun xs => ret (ys.map A.v ++ xs)) st2) Q := post2
    obtain ⟨ad, xs, e1, e2, e3⟩ := seq_rep X.K r2 z
    refine ⟨ad, xs, e1, e2, ?_⟩
    refine sr w2 σ H1 env st2 _ ok2 (x2.repE (x1.repE re)) (Post.bind post2 fun as st3 w3 H3 vs x3 ok3 r3 post3 => ?_)
    exact post3 w3 H3 _ Ext.refl ok3 (Paired.app (reps_A (x3.reps e3)) r3)
theorem if_post {α β : Type} {rel : Wd → Hp → β → α → Prop} {w : Wd} {H : Hp} {b : Bool} {m : M α} {st : Sto} {Q : β → Hp → Prop} (p : Post g E rel w H ((if b then m else no) st) Q) : b = true ∧ Post g E rel w H (m st) Q := by
  cases b with
  | true => exact ⟨rfl, p⟩
  | false => exact p.elim
theorem se_tupS {k : Nat} (sa : SAS X g E es fss) : SE X g E (.Tuple es k pos) (eTupS fss) := by
  obtain ⟨t, p, s⟩ := sa
  refine ⟨_, pe_tup p, fun w σ H env st Q ok re post => ?_⟩
  refine s w σ H env st _ ok re (Post.bind post fun as st1 w1 H1 vs x1 ok1 r1 post1 => ?_)
  obtain ⟨w2, st2, ps, x2, ok2, r2, post2⟩ := toVs_post ok1 r1 post1
  obtain ⟨hb, post2⟩ := if_post post2
  exact ⟨by rw [Paired.len r2, ← line_eq]; exact Nat.le_of_ble_eq_true hb, fun p hp => tup_post ok2 r2 (fun w' H' v x ok' r' => post2 w' H' v x ok' r') p hp⟩
theorem se_lstS (sa : SAS X g E es fss) : SE X g E (.List es pos) (eLstS fss) := by
  obtain ⟨t, p, s⟩ := sa
  refine ⟨_, pe_lst p, fun w σ H env st Q ok re post => ?_⟩
  refine s w σ H env st _ ok re (Post.bind post fun as st1 w1 H1 vs x1 ok1 r1 post1 => ?_)
  obtain ⟨w2, st2, ps, x2, ok2, r2, post2⟩ := toVs_post ok1 r1 post1
  obtain ⟨hb, post2⟩ := if_post post2
  exact ⟨by rw [Paired.len r2, ← line_eq]; exact Nat.le_of_ble_eq_true hb, fun p hp => lst_post ok2 r2 (fun w' H' v x ok' r' => post2 w' H' v x ok' r') p hp⟩
end

/-! ### calls of the text's own defs -/
/-- what a def is worth: its values are those of fn -/
def spOf (g : Gc) (fn : Fn) : Sp := fun vs H Q E => ∃ (w : Wd) (st : Sto) (as : List A), Ok w H st ∧ Paired (RepA w H) vs as ∧ Post g E relA w H (fn as st) Q
/-- the world of a call whose arguments are values: the cells are kept -/
def Wd.alone (w : Wd) : Wd := ⟨[], w.fz, fun a => w.kp a ∨ (a ∈ w.mu ∧ ¬ w.fz a)⟩
theorem Ok.alone {w : Wd} {H : Hp} {st : Sto} (ok : Ok w H st) : Ok w.alone H [] := ⟨ok.wok, rfl, fun n c a e => by simp at e, List.nodup_nil, fun a k => by
  rcases k with k | ⟨k, nf⟩
  · exact ⟨by simp [Wd.alone], (ok.kp a k).2.1, (ok.kp a k).2.2⟩
  · exact ⟨by simp [Wd.alone], nf, ok.mu_there k⟩⟩
/-- .. and back -/
theorem Ok.rejoin {w w' : Wd} {H H' : Hp} {st st' : Sto} (ok : Ok w H st) (x : Ext w.alone w' H H') (ok' : Ok w' H' st') : Ext w ⟨w.mu, w'.fz, w.kp⟩ H H' ∧ Ok ⟨w.mu, w'.fz, w.kp⟩ H' st := by
  have ke : ∀ a, a ∈ w.mu → ¬ w.fz a → H' a = H a ∧ ¬ w'.fz a := fun a h nf => ⟨x.ke a (.inr ⟨h, nf⟩), by
    have k : w'.kp a := by rw [x.kp]; exact .inr ⟨h, nf⟩
    exact (ok'.kp a k).2.1⟩
  have y : Ext w ⟨w.mu, w'.fz, w.kp⟩ H H' := ⟨x.fz, x.tup, x.frz, fun _ _ e => e, rfl, fun a k => x.ke a (.inl k), fun a => ⟨(x.nw a).1, .inl⟩⟩
  refine ⟨y, ok'.wok, ok.len, fun n c a e1 e2 => ?_, ok.nd, fun a k => ?_⟩
  · have hm : a ∈ w.mu := List.mem_of_getElem? e2
    have q := ok.cells n c a e1 e2
    cases c with
    | l xs => obtain ⟨nf, vs, e, r⟩ := q; exact ⟨(ke a hm nf).2, vs, (ke a hm nf).1.trans e, y.reps r⟩
    | f xs => obtain ⟨f, vs, e, r⟩ := q; exact ⟨(x.fz a f).1, vs, y.rd f e, y.reps r⟩
    | d t kvs => obtain ⟨nf, r, z⟩ := q; exact ⟨(ke a hm nf).2, r.keep y (ke a hm nf).1, fun o u e => z o u ((ke a hm nf).1.symm.trans e)⟩
    | df t kvs =>
      obtain ⟨f, r⟩ := q
      refine ⟨(x.fz a f).1, ?_⟩
      rcases r with ⟨et, es, h1, h2⟩ | ⟨et, es, h1, h2⟩
      · exact .inl ⟨et, es, y.rd f h1, Paired.imp h2 fun _ _ q => ⟨q.1, y.rep q.2⟩⟩
      · exact .inr ⟨et, es, y.rd f h1, Paired.imp h2 fun _ _ q => ⟨q.1, y.rep q.2⟩⟩
  · obtain ⟨k1, k2, o, e⟩ := ok.kp a k
    have k' : w'.kp a := by rw [x.kp]; exact .inl k
    exact ⟨k1, (ok'.kp a k').2.1, o, (x.ke a (.inl k)).trans e⟩
theorem vals_A {w u : Wd} {H : Hp} (hf : u.fz = w.fz) : ∀ {vs : List V} {as : List A}, Paired (RepA w H) vs as → lone.allB isVal as = true → Paired (RepA u H) vs as
  | _, _, .nil, _ => .nil
  | _, _, .cons (b := a) r t, h => by
    obtain ⟨h1, h2⟩ := Bool.and_eq_true_iff.mp (show (isVal a && lone.allB isVal _) = true from h)
    refine .cons ?_ (vals_A hf t h2)
    cases a with
    | v p => exact (show Rep u.fz H _ p from by rw [hf]; exact r)
    | r n => cases h1
theorem lone_sp {g : Gc} {fn : Fn} {w : Wd} {H : Hp} {st : Sto} {vs : List V} {as : List A} {Q : VK} {E : XK} (ok : Ok w H st) (r : Paired (RepA w H) vs as) (post : Post g E relA w H (lone fn as st) Q) : spOf g fn vs H Q E := by
  unfold lone at post
  cases h : lone.allB isVal as with
  | false => rw [h] at post; exact ⟨w, st, as, ok, r, post⟩
  | true =>
    rw [h] at post
    simp only [if_true] at post
    refine ⟨w.alone, [], as, ok.alone, vals_A (w := w) (u := w.alone) rfl r h, ?_⟩
    cases q : fn as [] with
    | no => rw [q] at post; exact post.elim
    | ex c p st' =>
      rw [q] at post
      intro w' H' d v x ok' hd rp
      obtain ⟨y, ok2⟩ := ok.rejoin x ok'
      exact post _ H' d v y ok2 hd rp
    | ok a st' =>
      rw [q] at post
      intro w' H' b x ok' ra
      obtain ⟨y, ok2⟩ := ok.rejoin x ok'
      cases a with
      | v p => exact post _ H' b y ok2 ra
      | r n =>
        cases n with
        | succ n => exact post.elim
        | zero =>
          cases st' with
          | nil => exact post.elim
          | cons c st2 =>
            cases st2 with
            | cons _ _ => exact post.elim
            | nil =>
              obtain ⟨D, e1, e2⟩ := ra
              have hc := ok'.cells 0 c D rfl e1
              have hmu : w'.mu = [D] := by
                have l := ok'.len
                cases hm : w'.mu with
                | nil => rw [hm] at e1; cases e1
                | cons z r =>
                  rw [hm] at e1 l
                  cases e1
                  cases r with
                  | nil => rfl
                  | cons _ _ => simp at l
              have hD : H D = none := by
                rcases (x.nw D).2 (by rw [hmu]; exact List.mem_cons_self) with z | z
                · simp [Wd.alone] at z
                · exact z
              have fr := ok.fresh hD
              have nkp : ¬ w.kp D := fun k => by
                obtain ⟨_, _, o, e⟩ := ok.kp D k
                rw [hD] at e; cases e
              have y2 : Ext w ⟨w.mu ++ [D], w'.fz, w.kp⟩ H H' := ⟨y.fz, y.tup, y.frz, fun n a e => mu_snoc e, rfl, y.ke, fun a => ⟨(y.nw a).1, fun z => (List.mem_append.mp (show a ∈ w.mu ++ [D] from z)).elim .inl fun z => .inr (by rw [List.mem_singleton.mp z]; exact hD)⟩⟩
              have ok3 : Ok ⟨w.mu ++ [D], w'.fz, w.kp⟩ H' (st ++ [c]) := by
                refine ⟨ok2.wok, ?_, fun n d a q1 q2 => ?_, ?_, fun a k => ?_⟩
                · show (w.mu ++ [D]).length = _
                  rw [List.length_append, List.length_append, ok.len]; rfl
                · have q2 : (w.mu ++ [D])[n]? = some a := q2
                  by_cases hn : n < w.mu.length
                  · rw [List.getElem?_append_left hn] at q2
                    rw [List.getElem?_append_left (by rw [← ok.len]; exact hn)] at q1
                    have z := ok2.cells n d a q1 q2
                    cases d <;> exact z
                  · have en : n = w.mu.length := by
                      have := (List.getElem?_eq_some_iff.mp q2).1
                      rw [List.length_append] at this
                      simp at this
                      omega
                    subst en
                    rw [mu_last] at q2
                    cases q2
                    have e3 : (st ++ [c])[w.mu.length]? = some c := by rw [ok.len]; simp
                    rw [e3] at q1
                    cases q1
                    cases c <;> exact hc
                · show (w.mu ++ [D]).Nodup
                  rw [List.nodup_append]
                  exact ⟨ok.nd, List.nodup_cons.mpr ⟨by simp, List.nodup_nil⟩, fun a ha b hb e => by
                    have hb : b = D := by simpa using hb
                    rw [e, hb] at ha
                    exact fr.1 ha⟩
                · obtain ⟨k1, k2, k3⟩ := ok2.kp a k
                  refine ⟨fun z => ?_, k2, k3⟩
                  rcases List.mem_append.mp (show a ∈ w.mu ++ [D] from z) with z | z
                  · exact k1 z
                  · rw [List.mem_singleton.mp z] at k; exact nkp k
              refine post _ H' b y2 ok3 ⟨D, ?_, e2⟩
              show (w.mu ++ [D])[st.length]? = some D
              rw [← ok.len]; exact mu_last
/-- a def that is known: where it stands, how its arguments bind -/
structure Kn (P : Program) (w : World) (K : PySem.W.Frag) (mg : PySem.Str → Option Value) (base : Heap) (CX : CXT) (g : Gc) (k : Nat) (x : PySem.Str) (f : Addr) (fd : FuncData) (ps : List PySem.Str) (fn : Fn) : Prop where
  ok : FnOk P w K mg base CX k f fd ps (spOf g fn)
  mgx : mg x = some (.ref f)
  kp : PySem.W.keepIn K (.ref f) = true
  b : Binds K fd ps []
section
variable {X : L2.Cx} {CX : CXT} {g : Gc} {E : XK} {pos p : Pos} {es : List Expr} {fs gs : List Ex} {k : Nat} {x : PySem.Str} {f : Addr} {fd : FuncData} {ps : List PySem.Str} {fn : Fn}
theorem se_call {e : Expr} (C : Kn X.prog X.w X.K X.mg X.base CX g k x f fd ps fn) (hr : Room k X.A) (hx : Passes CX X E) (hg : Gl X x) (ha : SA X g E (e :: es) fs) (hdb : (x == ("__debug__" : PySem.Str)) = false := by decide)
    (he : starEach (e :: es) X.env = (false, eval e X.env) :: starEach es X.env := by rfl) (hpl : (backTo pos (starEach es X.env)).any (·.1) = false := by rfl) : SE X g E (.Call (.Name x p) (e :: es) [] pos) (call fn fs) := by
  obtain ⟨t, pt, s⟩ := ha
  refine ⟨_, pe_call C.ok hr hg C.mgx C.kp C.b .nil hx pt hdb he hpl, fun w σ H env st Q ok re post => ?_⟩
  refine s w σ H env st _ ok re (Post.bind post fun as st1 w1 H1 vs x1 ok1 r1 post1 => ?_)
  show spOf g fn (vs ++ []) H1 Q E
  rw [List.append_nil]
  exact lone_sp ok1 r1 post1
theorem se_call0 (C : Kn X.prog X.w X.K X.mg X.base CX g k x f fd ps fn) (hr : Room k X.A) (hx : Passes CX X E) (hg : Gl X x) (hdb : (x == ("__debug__" : PySem.Str)) = false := by decide) : SE X g E (.Call (.Name x p) [] [] pos) (call fn []) := by
  refine ⟨_, pe_call0 C.ok hr hg C.mgx C.kp C.b .nil hx hdb, fun w σ H env st Q ok re post => ?_⟩
  exact lone_sp ok .nil post
/-- keywords -/
def gsel {α : Type} (d : α) (o : List Nat) (us ws : List α) : List α := o.map fun i => (us ++ ws).getD i d
theorem gsel_vals {o : List Nat} {vs zs : List V} {us ws : List Value} (r : Vals vs us) (q : Vals zs ws) : Vals (gsel V.non o vs zs) (gsel Value.none o us ws) := by
  have h := r.append q
  unfold gsel
  induction o with
  | nil => exact .nil
  | cons i o ih =>
    refine .cons ?_ ih
    show RelV ((vs ++ zs).getD i V.non) ((us ++ ws).getD i Value.none)
    rw [List.getD_eq_getElem?_getD, List.getD_eq_getElem?_getD]
    cases e : (vs ++ zs)[i]? with
    | none => rw [h.none_of e]; rfl
    | some v =>
      obtain ⟨u, e2, r2⟩ := h.get e
      rw [e2]
      exact r2
theorem pick_rel {w : Wd} {H : Hp} {vs : List V} {as : List A} (r : Paired (RepA w H) vs as) : ∀ {o : List Nat} {bs : List A}, pick o as = some bs → Paired (RepA w H) (o.map fun i => vs.getD i V.non) bs
  | [], bs, h => by cases h; exact .nil
  | i :: o, bs, h => by
    have h : (match as[i]?, pick o as with
      | some a, some b => some (a :: b)
      | _, _ => none) = some bs := h
    split at h
    · rename_i a b e1 e2
      cases h
      obtain ⟨v, e3, r2⟩ := Paired.at_ r e1
      refine .cons ?_ (pick_rel r e2)
      show RepA w H (vs.getD i V.non) a
      rw [List.getD_eq_getElem?_getD, e3]
      exact r2
    · cases h
structure SK (X : L2.Cx) (g : Gc) (E : XK) (kws : List Keyword) (fs : List Ex) : Prop where
  ex : ∃ t, PK X kws t ∧ Sim g E relL t (evs fs)
theorem sk_nil : SK X g E [] [] := ⟨_, pk_nil, fun w σ H env st Q ok re post => post w H [] Ext.refl ok .nil⟩
theorem sk_cons {e : Expr} {f' : Ex} {kws : List Keyword} {nm : Option PySem.Str} {kpos : Pos} (he : SE X g E e f') (hr : SK X g E kws fs) : SK X g E (⟨nm, e, kpos⟩ :: kws) (f' :: fs) := by
  obtain ⟨t, p, s⟩ := he
  obtain ⟨tr, pr, sr⟩ := hr
  refine ⟨_, pk_cons p pr, fun w σ H env st Q ok re post => ?_⟩
  refine s w σ H env st _ ok re (Post.bind post fun a st1 w1 H1 v1 x1 ok1 r1 post1 => ?_)
  refine sr w1 σ H1 env st1 _ ok1 (x1.repE re) (Post.bind post1 fun as st2 w2 H2 vs x2 ok2 r2 post2 => ?_)
  exact post2 w2 H2 _ Ext.refl ok2 (.cons (x2.repA r1) r2)
theorem SK.post {kws : List Keyword} (sa : SK X g E kws fs) : ∃ t, PK X kws t ∧ ∀ (w : Wd) (σ : L2.St) (H : Hp) (env : En) (st : Sto) (Q : List V → Hp → Prop), Ok w H st → RepE w H σ env → Post g E relL w H (evs fs env st) (fun vs H' => vs.length = fs.length → Q vs H') → t σ H Q := by
  obtain ⟨t, p, s⟩ := sa
  refine ⟨t, p, fun w σ H env st Q ok re post => s w σ H env st Q ok re ?_⟩
  cases q : evs fs env st with
  | ok as st' =>
    rw [q] at post
    exact fun w' H' vs x ok' r => post w' H' vs x ok' r ((Paired.len r).trans (evs_len q))
  | ex c p st' => rw [q] at post; exact post
  | no => rw [q] at post; exact post
theorem opt_post {α β γ : Type} {rel : Wd → Hp → β → α → Prop} {w : Wd} {H : Hp} {o : Option γ} {k : γ → M α} {st : Sto} {Q : β → Hp → Prop} (p : Post g E rel w H (Rt.bind (opt o) k st) Q) : ∃ c, o = some c ∧ Post g E rel w H (k c st) Q := by
  cases o with
  | none => exact p.elim
  | some c => exact ⟨c, rfl, p⟩
theorem se_callK {e : Expr} {kws : List Keyword} {ks : List PySem.Str} {o : List Nat} (C : Kn X.prog X.w X.K X.mg X.base CX g k x f fd ps fn) (hr : Room k X.A) (hx : Passes CX X E) (hg : Gl X x) (hb : KBn X.K fd ps fs.length ks (gsel Value.none o) (gsel V.non o)) (hl : gs.length = ks.length)
    (ha : SA X g E (e :: es) fs) (hk : SK X g E kws gs) (hall : (backToKw pos (keywordEach kws X.env)).all (·.1.isSome) = true := by rfl) (hks : (backToKw pos (keywordEach kws X.env)).filterMap (·.1) = ks := by rfl)
    (hdb : (x == ("__debug__" : PySem.Str)) = false := by decide) (he : starEach (e :: es) X.env = (false, eval e X.env) :: starEach es X.env := by rfl)
    (hpl : ((backTo pos (starEach (e :: es) X.env)).any (·.1) || (backToKw pos (keywordEach kws X.env)).any (·.1.isNone)) = false := by rfl) : SE X g E (.Call (.Name x p) (e :: es) kws pos) (callK fn o fs gs) := by
  obtain ⟨t, pt, s⟩ := ha.post
  obtain ⟨tk, pk, sk⟩ := hk.post
  refine ⟨_, pe_callN C.ok hr hg C.mgx C.kp hb hx pt pk hall hks hdb he hpl, fun w σ H env st Q ok re post => ?_⟩
  refine s w σ H env st _ ok re (Post.bind post fun as st1 w1 H1 vs x1 ok1 r1 post1 => ?_)
  intro l1
  refine sk w1 σ H1 env st1 _ ok1 (x1.repE re) (Post.bind post1 fun bs st2 w2 H2 zs x2 ok2 r2 post2 => ?_)
  intro l2
  obtain ⟨cs, hc, post3⟩ := opt_post post2
  exact ⟨l1, l2.trans hl, lone_sp ok2 (pick_rel (Paired.app (Paired.imp r1 fun _ _ => x2.repA) r2) hc) post3⟩
/-- keywords alone -/
theorem pe_callN0 {kws : List Keyword} {ks : List PySem.Str} {sp : Sp} {tk : TA} {gg : List Value → List Value → List Value} {gV : List V → List V → List V} (F : FnOk X.prog X.w X.K X.mg X.base CX k f fd ps sp) (hr : Room k X.A) (hg : Gl X x) (hm : X.mg x = some (.ref f)) (hk : PySem.W.keepIn X.K (.ref f) = true) (hb : KBn X.K fd ps 0 ks gg gV) (hx : Passes CX X E)
    (hkw : PK X kws tk) (hall : (backToKw pos (keywordEach kws X.env)).all (·.1.isSome) = true) (hks : (backToKw pos (keywordEach kws X.env)).filterMap (·.1) = ks)
    (hdb : (x == ("__debug__" : PySem.Str)) = false := by decide)
    (hpl : ((backTo pos (starEach [] X.env)).any (·.1) || (backToKw pos (keywordEach kws X.env)).any (·.1.isNone)) = false) :
    PE X (.Call (.Name x p) [] kws pos) (tCallN 0 ks.length sp gV E tNil tk) := by
  refine ⟨fun pins s σ H Q I h => ?_⟩
  refine wpAny_Call_Name_kw (ld_glob I hg hm ?_ hdb)
  refine PySem.W.callWith_KW0 (h₀ := X.base) I.ok.mod.kin hk hall ?_ hpl
  refine thn (hkw.run pos pins s σ H _ I h) fun ws s2 ⟨zs, H2, I2, rz, l1, l2, q2⟩ => ⟨I2.kIn, ?_⟩
  rw [hks]
  exact run_fnN F hr hb hx I2 .nil rz l1 l2 q2
theorem se_callK0 {kws : List Keyword} {ks : List PySem.Str} {o : List Nat} (C : Kn X.prog X.w X.K X.mg X.base CX g k x f fd ps fn) (hr : Room k X.A) (hx : Passes CX X E) (hg : Gl X x) (hb : KBn X.K fd ps 0 ks (gsel Value.none o) (gsel V.non o)) (hl : gs.length = ks.length)
    (hk : SK X g E kws gs) (hall : (backToKw pos (keywordEach kws X.env)).all (·.1.isSome) = true := by rfl) (hks : (backToKw pos (keywordEach kws X.env)).filterMap (·.1) = ks := by rfl)
    (hdb : (x == ("__debug__" : PySem.Str)) = false := by decide)
    (hpl : ((backTo pos (starEach [] X.env)).any (·.1) || (backToKw pos (keywordEach kws X.env)).any (·.1.isNone)) = false := by rfl) : SE X g E (.Call (.Name x p) [] kws pos) (callK fn o [] gs) := by
  obtain ⟨tk, pk, sk⟩ := hk.post
  refine ⟨_, pe_callN0 C.ok hr hg C.mgx C.kp hb hx pk hall hks hdb hpl, fun w σ H env st Q ok re post => ?_⟩
  refine sk w σ H env st _ ok re (Post.bind (show Post g E relA w H (Rt.bind (evs gs env) (fun bs => Rt.bind (opt (pick o ([] ++ bs))) (lone fn)) st) Q from post) fun bs st2 w2 H2 zs x2 ok2 r2 post2 => ?_)
  intro l2
  obtain ⟨cs, hc, post3⟩ := opt_post post2
  exact ⟨rfl, l2.trans hl, lone_sp ok2 (pick_rel (vs := [] ++ zs) r2 hc) post3⟩
end
end Rt

set_option Elab.async false
set_option linter.all false
set_option maxRecDepth 100000
set_option autoImplicit false
set_option maxHeartbeats 4000000
namespace Rt
open PySem PySem.Spec PyProof.Rows L2

/-! ### worlds side by side -/
structure Ext0 (w w' : Wd) (H H' : Hp) : Prop where
  fz : ∀ a, w.fz a → w'.fz a ∧ ∀ u, H a = some u → Rd H' a u
  tup : ∀ a xs, H a = some (.tup xs) → H' a = some (.tup xs)
  frz : ∀ a o u, H a = some (.frz o u) → H' a = some (.frz o u)
  al : ∀ a, H' a = none → H a = none
theorem Ext.to0 {w w' : Wd} {H H' : Hp} (x : Ext w w' H H') : Ext0 w w' H H' := ⟨x.fz, x.tup, x.frz, fun a => (x.nw a).1⟩
theorem Ext0.trans {w w1 w2 : Wd} {H H1 H2 : Hp} (a : Ext0 w w1 H H1) (b : Ext0 w1 w2 H1 H2) : Ext0 w w2 H H2 :=
  ⟨fun x f => ⟨(b.fz x (a.fz x f).1).1, fun u e => ((a.fz x f).2 u e).elim (fun e => (b.fz x (a.fz x f).1).2 u e) fun ⟨o, e⟩ => .inr ⟨o, b.frz x o u e⟩⟩, fun x xs h => b.tup x xs (a.tup x xs h), fun x o u h => b.frz x o u (a.frz x o u h), fun x h => a.al x (b.al x h)⟩
theorem Ext0.full {w w' : Wd} {H H' : Hp} (x : Ext0 w w' H H') : Ext ⟨[], w.fz, fun _ => False⟩ ⟨[], w'.fz, fun _ => False⟩ H H' := ⟨x.fz, x.tup, x.frz, fun _ _ e => by simp at e, rfl, fun _ f => f.elim, fun a => ⟨x.al a, fun z => by simp at z⟩⟩
theorem Ext0.rep {w w' : Wd} {H H' : Hp} (x : Ext0 w w' H H') {v : V} {p : P} (h : Rep w.fz H v p) : Rep w'.fz H' v p := x.full.rep h
theorem Ext0.reps {w w' : Wd} {H H' : Hp} (x : Ext0 w w' H H') {vs : List V} {ps : List P} (h : Reps w.fz H vs ps) : Reps w'.fz H' vs ps := x.full.reps h
theorem Ext0.lstZ {w w' : Wd} {H H' : Hp} (x : Ext0 w w' H H') {a : Addr} {vs : List V} (h : LstZ w.fz H a vs) : LstZ w'.fz H' a vs := x.full.lstZ h

/-! ### what is gone through -/
def Walk (J : L2.It) (w : Wd) (H : Hp) (xs : List P) : Prop := ∀ (i : Nat) (w' : Wd) (H' : Hp) (st : Sto), Ext0 w w' H H' → Ok w' H' st →
  (∀ p, xs[i]? = some p → J.go i H' ∧ ∀ x H'', J.yld i H' x H'' → Ext w' w' H' H'' ∧ Ok w' H'' st ∧ Rep w'.fz H'' x p) ∧ (xs.length ≤ i → J.stop i H')
theorem Walk.ext {J : L2.It} {w w' : Wd} {H H' : Hp} {xs : List P} (k : Walk J w H xs) (x : Ext0 w w' H H') : Walk J w' H' xs := fun i w2 H2 st y ok => k i w2 H2 st (x.trans y) ok
abbrev relI : Wd → Hp → L2.It → List P → Prop := fun w H J xs => Walk J w H xs
structure SI (X : L2.Cx) (g : Gc) (E : XK) (tg iter : Expr) (it : Rt.It) : Prop where
  ex : ∃ wi, PI X tg iter wi ∧ Sim g E relI wi it
section
variable {w : Wd} {H : Hp} {K : PySem.W.Frag}
theorem walk_lst {a : Addr} {vs : List V} {ps : List P} (z : LstZ w.fz H a vs) (r : Reps w.fz H vs ps) : Walk (Itl K a) w H ps := fun i w' H' st x ok => by
  have z' := x.lstZ z
  have r' := x.reps r
  refine ⟨fun p hp => ?_, fun hl => ⟨vs, .inl z'.rd, by rw [Paired.len r]; exact hl⟩⟩
  obtain ⟨v, hv, rv⟩ := Paired.at_ r' hp
  refine ⟨⟨vs, v, .inl z'.rd, hv⟩, fun y H'' q => ?_⟩
  obtain ⟨e, q⟩ := q
  subst e
  have e2 := q vs (.inl z'.rd)
  rw [hv] at e2
  cases e2
  exact ⟨Ext.refl, ok, rv⟩
theorem walk_tup {a : Addr} {vs : List V} {ps : List P} (z : H a = some (.tup vs)) (r : Reps w.fz H vs ps) : Walk (Itt K a) w H ps := fun i w' H' st x ok => by
  have z' := SqT.of (K := K) (x.tup _ _ z)
  have r' := x.reps r
  refine ⟨fun p hp => ?_, fun hl => ⟨vs, z', by rw [Paired.len r]; exact hl⟩⟩
  obtain ⟨v, hv, rv⟩ := Paired.at_ r' hp
  refine ⟨⟨vs, v, z', hv⟩, fun y H'' q => ?_⟩
  obtain ⟨e, q⟩ := q
  subst e
  have e2 := q vs z'
  rw [hv] at e2
  cases e2
  exact ⟨Ext.refl, ok, rv⟩
theorem walk_str {s : List Nat} : Walk (Its ⟨s.toArray⟩) w H (s.map fun c => .str [c]) := fun i w' H' st x ok => by
  refine ⟨fun p hp => ?_, fun hl => by simpa [Its] using hl⟩
  rw [List.getElem?_map] at hp
  cases e : s[i]? with
  | none => rw [e] at hp; cases hp
  | some c =>
    rw [e] at hp
    cases hp
    have hi := (List.getElem?_eq_some_iff.mp e).1
    refine ⟨by simpa [Its] using hi, fun y H'' q => ?_⟩
    obtain ⟨e1, c', e2, e3⟩ := q
    subst e1 e3
    have e4 : s[i]? = some c' := by simpa using e2
    rw [e] at e4
    cases e4
    exact ⟨Ext.refl, ok, Rep.str⟩
theorem key_rep {F : Fz} {k : Key} {p : P} (h : keyV p = some k) : Rep F H (kV k) p := by
  cases p with
  | int i => cases h; exact Rep.int
  | str s => cases h; exact Rep.str
  | _ => cases h
theorem keys_reps {F : Fz} : ∀ {ks : List Key} {ps : List P}, keysV ps = some ks → Reps F H (ks.map kV) ps
  | ks, [], h => by cases h; exact .nil
  | ks, p :: r, h => by
    have h : (match keyV p, keysV r with
      | some k, some ks => some (k :: ks)
      | _, _ => none) = some ks := h
    split at h
    · rename_i k ks' e1 e2
      cases h
      exact .cons (key_rep e1) (keys_reps e2)
    · cases h
theorem walk_dK {d : Addr} {o : Obj} {es : List (Key × V)} {kvs : List (P × P)} (z : H d = some (.frz o (.dK es))) (r : Paired (fun (e : Key × V) (q : P × P) => keyV q.1 = some e.1 ∧ Rep w.fz H e.2 q.2) es kvs) : Walk (Itk d o es) w H (kvs.map (·.1)) := fun i w' H' st x ok => by
  have z' := x.frz _ _ _ z
  refine ⟨fun p hp => ?_, fun hl => ⟨z', by rw [Paired.len r]; simpa using hl⟩⟩
  rw [List.getElem?_map] at hp
  cases e : kvs[i]? with
  | none => rw [e] at hp; cases hp
  | some kv =>
    rw [e] at hp
    cases hp
    obtain ⟨ev, he, r1, r2⟩ := Paired.at_ r e
    refine ⟨⟨z', (List.getElem?_eq_some_iff.mp he).1⟩, fun y H'' q => ?_⟩
    obtain ⟨e1, k, v, e2, e3⟩ := q
    subst e1 e3
    rw [he] at e2
    cases e2
    exact ⟨Ext.refl, ok, key_rep r1⟩
theorem walk_dT {d : Addr} {o : Obj} {es : List (List Key × V)} {kvs : List (P × P)} (z : H d = some (.frz o (.dT es))) (r : Paired (fun (e : List Key × V) (q : P × P) => (∃ ps, q.1 = .tup ps ∧ keysV ps = some e.1) ∧ Rep w.fz H e.2 q.2) es kvs) : Walk (Itkt d o es) w H (kvs.map (·.1)) := fun i w' H' st x ok => by
  have z' := x.frz _ _ _ z
  refine ⟨fun p hp => ?_, fun hl => ⟨z', by rw [Paired.len r]; simpa using hl⟩⟩
  rw [List.getElem?_map] at hp
  cases e : kvs[i]? with
  | none => rw [e] at hp; cases hp
  | some kv =>
    rw [e] at hp
    cases hp
    obtain ⟨ev, he, ⟨ps, r1, r3⟩, r2⟩ := Paired.at_ r e
    refine ⟨⟨z', (List.getElem?_eq_some_iff.mp he).1⟩, fun y H'' q => ?_⟩
    obtain ⟨e1, k, v, b, e2, e3, e4⟩ := q
    subst e1 e3
    rw [he] at e2
    cases e2
    refine ⟨Ext.refl, ok, ?_⟩
    show Rep w'.fz _ (V.ref b) kv.1
    rw [r1]
    exact Rep.tup e4 (keys_reps r3)
theorem rangeL_at : ∀ (n : Nat) (lo : Int) (i : Nat), (rangeL lo n)[i]? = if i < n then some (.int (lo + i)) else none
  | 0, lo, i => by simp [rangeL]
  | n + 1, lo, 0 => by simp [rangeL]
  | n + 1, lo, i + 1 => by
    rw [rangeL, List.getElem?_cons_succ, rangeL_at n (lo + 1) i]
    have e : lo + 1 + (i : Int) = lo + ((i + 1 : Nat) : Int) := by omega
    rw [e]
    by_cases h : i < n
    · rw [if_pos h, if_pos (by omega)]
    · rw [if_neg h, if_neg (by omega)]
theorem rangeL_len : ∀ (n : Nat) (lo : Int), (rangeL lo n).length = n
  | 0, _ => rfl
  | n + 1, lo => by rw [rangeL, List.length_cons, rangeL_len n]
theorem walk_range {lo : Int} {n : Nat} : Walk (Itr lo n) w H (rangeL lo n) := fun i w' H' st x ok => by
  refine ⟨fun p hp => ?_, fun hl => by rw [rangeL_len] at hl; exact hl⟩
  rw [rangeL_at] at hp
  split at hp
  · rename_i hi
    cases hp
    refine ⟨hi, fun y H'' q => ?_⟩
    obtain ⟨e1, e2⟩ := q
    subst e1 e2
    exact ⟨Ext.refl, ok, Rep.int⟩
  · cases hp
end

/-! ### a dict is locked -/
section
variable {w : Wd} {H : Hp} {st : Sto}
theorem Ext.locked {d : Addr} {u : HO} {o : Obj} (ok : Ok w H st) (f : w.fz d) (h : H d = some u) (ht : ∀ xs, u ≠ .tup xs) (hz : ∀ o u', u ≠ .frz o u') : Ext w w H (upd H d (.frz o u)) := by
  refine ⟨fun a fa => ⟨fa, fun v e => ?_⟩, fun a xs e => ?_, fun a o' u' e => ?_, fun _ _ e => e, rfl, fun a k => ?_, fun a => ⟨upd_none, .inl⟩⟩
  · by_cases ha : a = d
    · subst ha
      rw [h] at e
      cases e
      exact .inr ⟨o, upd_same⟩
    · exact .inl (by rw [upd_ne ha]; exact e)
  · rw [upd_ne fun z => by rw [z, h] at e; cases e; exact ht _ rfl]; exact e
  · rw [upd_ne fun z => by rw [z, h] at e; cases e; exact hz _ _ rfl]; exact e
  · exact upd_ne fun z => by rw [z] at k; exact (ok.kp d k).2.1 f
theorem CellOk.locked {d : Addr} {u : HO} {o : Obj} (ok : Ok w H st) (f : w.fz d) (h : H d = some u) (hl : ∀ xs, u ≠ .lst xs) (ht : ∀ xs, u ≠ .tup xs) (hz : ∀ o u', u ≠ .frz o u') {a : Addr} {c : Cell} (k : CellOk w H a c) : CellOk w (upd H d (.frz o u)) a c := by
  have x := Ext.locked (o := o) ok f h ht hz
  by_cases ha : a = d
  · subst ha
    cases c with
    | l xs => exact absurd f k.1
    | f xs =>
      obtain ⟨_, vs, e, _⟩ := k
      rcases e with e | ⟨q, e⟩
      · rw [h] at e; cases e; exact absurd rfl (hl _)
      · rw [h] at e; cases e; exact absurd rfl (hz _ _)
    | d t kvs => exact absurd f k.1
    | df t kvs =>
      refine ⟨f, ?_⟩
      rcases k.2 with ⟨et, es, h1, h2⟩ | ⟨et, es, h1, h2⟩
      · exact .inl ⟨et, es, x.rd f h1, Paired.imp h2 fun _ _ q => ⟨q.1, x.rep q.2⟩⟩
      · exact .inr ⟨et, es, x.rd f h1, Paired.imp h2 fun _ _ q => ⟨q.1, x.rep q.2⟩⟩
  · exact k.keep x (upd_ne ha) fun z => z
theorem Ok.locked {d : Addr} {u : HO} {o : Obj} (ok : Ok w H st) (f : w.fz d) (h : H d = some u) (hl : ∀ xs, u ≠ .lst xs) (ht : ∀ xs, u ≠ .tup xs) (hz : ∀ o u', u ≠ .frz o u') : Ok w (upd H d (.frz o u)) st := by
  refine ⟨fun a fa => ?_, ok.len, fun n c a e1 e2 => (ok.cells n c a e1 e2).locked ok f h hl ht hz, ok.nd, fun a k => ?_⟩
  · by_cases ha : a = d
    · exact ⟨_, by rw [ha]; exact upd_same⟩
    · obtain ⟨v, e⟩ := ok.wok a fa
      exact ⟨v, by rw [upd_ne ha]; exact e⟩
  · obtain ⟨k1, k2, v, e⟩ := ok.kp a k
    exact ⟨k1, k2, v, by rw [upd_ne fun z => by rw [z] at k2; exact k2 f]; exact e⟩
end

/-! ### any value that can be gone through -/
def iAny (K : PySem.W.Frag) (te : TE) : TI := fun σ H R => te σ H fun x H1 =>
  (∃ a xs, x = .ref a ∧ SqL K H1 a xs ∧ R (Itl K a) H1) ∨ (∃ a xs, x = .ref a ∧ SqT K H1 a xs ∧ R (Itt K a) H1) ∨ (∃ s, x = .str s ∧ R (Its s) H1) ∨
  (∃ d es, x = .ref d ∧ ((∃ o, H1 d = some (.frz o (.dK es)) ∧ R (Itk d o es) H1) ∨ (H1 d = some (.dK es) ∧ ∀ o, R (Itk d o es) (upd H1 d (.frz o (.dK es)))))) ∨
  (∃ d es, x = .ref d ∧ ((∃ o, H1 d = some (.frz o (.dT es)) ∧ R (Itkt d o es) H1) ∨ (H1 d = some (.dT es) ∧ ∀ o, R (Itkt d o es) (upd H1 d (.frz o (.dT es))))))
theorem pi_val {X : L2.Cx} {tg e : Expr} {te : TE} (he : PE X e te) : PI X tg e (iAny X.K te) := by
  refine ⟨fun pins s σ H R I h => ?_⟩
  refine thn (he.run pins s σ H _ I h) fun v s1 ⟨x, H1, I1, r1, q1⟩ => ?_
  rcases q1 with ⟨a, xs, e, hq, q⟩ | ⟨a, xs, e, hq, q⟩ | ⟨y, e, q⟩ | ⟨d, es, e, q⟩ | ⟨d, es, e, q⟩
  · subst e
    cases r1
    obtain ⟨its, rv, p, hz⟩ := I1.list hq
    exact wpAny_pyIter_list p.isList (pi_one (tk := s1.toks) I1 _ (turn_list a _) ⟨_, Heap.get?_push_size _ rfl, rfl, rfl⟩ q)
  · subst e
    cases r1
    obtain ⟨its, rv, p, hz⟩ := I1.tuple hq
    exact wpAny_pyIter_tuple (show s1.heap.IsTuple a its.toArray from p) (pi_one (tk := s1.toks) I1 _ (turn_tuple a _) ⟨_, Heap.get?_push_size _ rfl, rfl, rfl⟩ q)
  · subst e
    obtain ⟨t, rfl⟩ := r1
    cases ha : y.cps.all (· < 128)
    · exact wpAny_pyIter_wide ha (pi_one (tk := s1.toks) I1 _ (turn_str _ y t "str_iterator" (.inr rfl)) ⟨_, Heap.get?_push_size _ rfl, rfl, rfl⟩ q)
    · exact wpAny_pyIter_ascii ha (pi_one (tk := s1.toks) I1 _ (turn_str _ y t "str_ascii_iterator" (.inl rfl)) ⟨_, Heap.get?_push_size _ rfl, rfl, rfl⟩ q)
  · subst e
    obtain rfl : v = Value.ref d := r1
    have go : ∀ {H2 : Hp} {o : Obj}, Inv X pins σ H2 s1 → H2 d = some (.frz o (.dK es)) → R (Itk d o es) H2 → wpAny (model X.prog X.w) X.A (pyIter (.ref d)) (PIE X pins σ tg R) X.xe s1 := fun {H2 o} I2 hd q => by
      obtain ⟨hs, hgd, hx, ee, ep, vs, hdt, hsz, kv, hm⟩ := I2.frzK hd
      refine iter_keys hs hgd hx hdt (pi_one (tk := s1.toks) I2 _ (turn_keys _ hdt) ⟨_, Heap.get?_push_size _ rfl, rfl, ?_⟩ q)
      rw [hsz] <;> rfl
    rcases q with ⟨o, hd, q⟩ | ⟨hd, q⟩
    · exact go I1 hd q
    · obtain ⟨od, I2⟩ := I1.lock hd trivial
      exact go I2 upd_same (q od)
  · subst e
    obtain rfl : v = Value.ref d := r1
    have go : ∀ {H2 : Hp} {o : Obj}, Inv X pins σ H2 s1 → H2 d = some (.frz o (.dT es)) → R (Itkt d o es) H2 → wpAny (model X.prog X.w) X.A (pyIter (.ref d)) (PIE X pins σ tg R) X.xe s1 := fun {H2 o} I2 hd q => by
      obtain ⟨hs, hgd, hx, ee, ep, hdt, hsz, ent⟩ := I2.frzT hd
      refine iter_keys hs hgd hx hdt (pi_one (tk := s1.toks) I2 _ (turn_keysT _ hdt) ⟨_, Heap.get?_push_size _ rfl, rfl, ?_⟩ q)
      rw [hsz] <;> rfl
    rcases q with ⟨o, hd, q⟩ | ⟨hd, q⟩
    · exact go I1 hd q
    · obtain ⟨od, I2⟩ := I1.lock hd trivial
      exact go I2 upd_same (q od)
section
variable {X : L2.Cx} {g : Gc} {E : XK} {e tg : Expr} {f : Ex}
theorem si_val (h : SE X g E e f) : SI X g E tg e (itE f) := by
  obtain ⟨t, p, s⟩ := h
  refine ⟨_, pi_val p, fun w σ H env st Q ok re post => ?_⟩
  refine s w σ H env st _ ok re (Post.bind post fun a st1 w1 H1 v1 x1 ok1 r1 post1 => ?_)
  obtain ⟨w2, st2, q, x2, ok2, r2, post2⟩ := toV_post ok1 r1 post1
  cases q with
  | lst ps =>
    obtain ⟨ad, vs, e1, z, r⟩ := r2.lst_inv
    exact .inl ⟨ad, vs, e1, .inl z.rd, post2 w2 H1 _ Ext.refl ok2 (walk_lst z r)⟩
  | tup ps =>
    obtain ⟨ad, vs, e1, z, r⟩ := r2.tup_inv
    exact .inr (.inl ⟨ad, vs, e1, SqT.of z, post2 w2 H1 _ Ext.refl ok2 (walk_tup z r)⟩)
  | str s => exact .inr (.inr (.inl ⟨_, r2.str_inv, post2 w2 H1 _ Ext.refl ok2 walk_str⟩))
  | dic t kvs =>
    obtain ⟨d, e1, fd, kv⟩ := r2.dic_inv
    rcases kv with ⟨et, es, h1, h2⟩ | ⟨et, es, h1, h2⟩
    · refine .inr (.inr (.inr (.inl ⟨d, es, e1, ?_⟩)))
      rcases h1 with h1 | ⟨o, h1⟩
      · refine .inr ⟨h1, fun o => ?_⟩
        have x3 := Ext.locked (o := o) ok2 fd h1 (fun _ z => nomatch z) (fun _ _ z => nomatch z)
        exact post2 w2 _ _ x3 (ok2.locked fd h1 (fun _ z => nomatch z) (fun _ z => nomatch z) fun _ _ z => nomatch z) (walk_dK upd_same (Paired.imp h2 fun _ _ q => ⟨q.1, x3.rep q.2⟩))
      · exact .inl ⟨o, h1, post2 w2 H1 _ Ext.refl ok2 (walk_dK h1 h2)⟩
    · refine .inr (.inr (.inr (.inr ⟨d, es, e1, ?_⟩)))
      rcases h1 with h1 | ⟨o, h1⟩
      · refine .inr ⟨h1, fun o => ?_⟩
        have x3 := Ext.locked (o := o) ok2 fd h1 (fun _ z => nomatch z) (fun _ _ z => nomatch z)
        exact post2 w2 _ _ x3 (ok2.locked fd h1 (fun _ z => nomatch z) (fun _ z => nomatch z) fun _ _ z => nomatch z) (walk_dT upd_same (Paired.imp h2 fun _ _ q => ⟨q.1, x3.rep q.2⟩))
      · exact .inl ⟨o, h1, post2 w2 H1 _ Ext.refl ok2 (walk_dT h1 h2)⟩
  | set xs => obtain ⟨n, h⟩ := r2; cases n <;> exact h.elim
  | _ => exact post2.elim
/-! ### ranges -/
theorem wide_of {i : Int} (h : wide62 i = true) : -(2 ^ 62) ≤ i ∧ i < 2 ^ 62 := by
  obtain ⟨a, b⟩ := Bool.and_eq_true_iff.mp h
  exact ⟨of_decide_eq_true a, of_decide_eq_true b⟩
theorem repA_int {w : Wd} {H : Hp} {v : V} {i : Int} (h : RepA w H v (.v (.int i))) : v = .int i := Rep.int_inv h
variable {a b c : Expr} {fa fb fc : Ex} {p pos : Pos}
theorem si_range1 (hg : Gl X "range") (hm : X.mg "range" = none) (ha : SE X g E a fa) (hs : starEach [a] X.env = (false, eval a X.env) :: starEach [] X.env := by rfl) : SI X g E tg (.Call (.Name "range" p) [a] [] pos) (itR1 fa) := by
  obtain ⟨ta, pa, sa⟩ := ha
  refine ⟨_, pi_range1 hg hm (pa_cons pa pa_nil hs) hs, fun w σ H env st Q ok re post => ?_⟩
  refine sa w σ H env st _ ok re (Post.bind post fun x st1 w1 H1 v1 x1 ok1 r1 post1 => ?_)
  have post1 : Post g E relI w1 H1 ((match x with
    | .v (.int n) => if wide62 n then ret (rangeL 0 n.toNat) else no
    | _ => no) st1) _ := post1
  split at post1
  · rename_i n _
    obtain ⟨hw, post2⟩ := if_post post1
    obtain ⟨h1, h2⟩ := wide_of hw
    exact ⟨n, by rw [repA_int r1], h1, h2, post2 w1 H1 _ Ext.refl ok1 walk_range⟩
  · exact post1.elim
theorem si_range2 (hg : Gl X "range") (hm : X.mg "range" = none) (ha : SE X g E a fa) (hb : SE X g E b fb) (hs : starEach [a, b] X.env = (false, eval a X.env) :: starEach [b] X.env := by rfl) (hs2 : starEach [b] X.env = (false, eval b X.env) :: starEach [] X.env := by rfl) :
    SI X g E tg (.Call (.Name "range" p) [a, b] [] pos) (itR2 fa fb) := by
  obtain ⟨ta, pa, sa⟩ := ha
  obtain ⟨tb, pb, sb⟩ := hb
  refine ⟨_, pi_range2 hg hm (pa_cons pa (pa_cons pb pa_nil hs2) hs) (by rw [hs, hs2]; rfl) (by rw [hs2]; rfl), fun w σ H env st Q ok re post => ?_⟩
  refine sa w σ H env st _ ok re (Post.bind post fun x st1 w1 H1 v1 x1 ok1 r1 post1 => ?_)
  refine sb w1 σ H1 env st1 _ ok1 (x1.repE re) (Post.bind post1 fun y st2 w2 H2 v2 x2 ok2 r2 post2 => ?_)
  have post2 : Post g E relI w2 H2 ((match x, y with
    | .v (.int i), .v (.int j) => if wide62 i && wide62 j then ret (rangeL i (j - i).toNat) else no
    | _, _ => no) st2) _ := post2
  split at post2
  · rename_i i j _
    obtain ⟨hw, post3⟩ := if_post post2
    obtain ⟨hw1, hw2⟩ := Bool.and_eq_true_iff.mp hw
    obtain ⟨h1, h2⟩ := wide_of hw1
    obtain ⟨h3, h4⟩ := wide_of hw2
    exact ⟨i, j, by rw [repA_int r1, repA_int r2], ⟨h1, h2, h3, h4⟩, post3 w2 H2 _ Ext.refl ok2 walk_range⟩
  · exact post2.elim
end
end Rt

set_option Elab.async false
set_option linter.all false
set_option maxRecDepth 100000
set_option autoImplicit false
set_option maxHeartbeats 4000000
namespace Rt
open PySem PySem.Spec PyProof.Rows L2

/-! ### targets -/
/-- two slot lists that part at these places alone -/
def Agree (is : List Nat) (σ σ' : L2.St) : Prop := σ'.length = σ.length ∧ ∀ j, j ∉ is → σ'[j]? = σ[j]?
theorem Agree.refl {is : List Nat} {σ : L2.St} : Agree is σ σ := ⟨rfl, fun _ _ => rfl⟩
theorem Agree.trans {is js : List Nat} {a b c : L2.St} (h : Agree is a b) (k : Agree js b c) : Agree (is ++ js) a c :=
  ⟨k.1.trans h.1, fun j hj => (k.2 j fun z => hj (List.mem_append_right _ z)).trans (h.2 j fun z => hj (List.mem_append_left _ z))⟩
theorem wipe_at {σ : L2.St} : ∀ {vs : List Nat} (j : Nat), (L2.wipe σ vs)[j]? = if j ∈ vs then (σ[j]?).map fun _ => none else σ[j]?
  | [], j => by simp [L2.wipe]
  | v :: vs, j => by
    rw [L2.wipe]
    by_cases h : v = j
    · subst h
      rw [if_pos List.mem_cons_self]
      by_cases hl : v < σ.length
      · rw [List.getElem?_set_self (by rw [wipe_length]; exact hl), List.getElem?_eq_getElem hl]; rfl
      · rw [List.getElem?_eq_none (by rw [List.length_set, wipe_length]; omega), List.getElem?_eq_none (by omega)]; rfl
    · rw [List.getElem?_set_ne h, wipe_at (vs := vs) j]
      by_cases h2 : j ∈ vs
      · rw [if_pos h2, if_pos (List.mem_cons_of_mem _ h2)]
      · rw [if_neg h2, if_neg fun z => (List.mem_cons.mp z).elim (fun e => h e.symm) h2]
theorem Agree.wiped {is vs : List Nat} {σ σ' : L2.St} (h : Agree is (L2.wipe σ vs) σ') (hs : ∀ i ∈ is, i ∈ vs) : L2.wipe σ' vs = L2.wipe σ vs := by
  refine List.ext_getElem? fun j => ?_
  have hl : σ'.length = σ.length := h.1.trans (wipe_length σ vs)
  rw [wipe_at, wipe_at]
  by_cases hj : j ∈ vs
  · rw [if_pos hj, if_pos hj]
    by_cases hb : j < σ.length
    · rw [List.getElem?_eq_getElem hb, List.getElem?_eq_getElem (by omega)]; rfl
    · rw [List.getElem?_eq_none (by omega), List.getElem?_eq_none (by omega)]
  · rw [if_neg hj, if_neg hj, h.2 j fun z => hj (hs j z), wipe_at, if_neg hj]
abbrev relG : Wd → Hp → L2.St → En → Prop := fun w H σ env => RepE w H σ env
def SimG (g : Gc) (E : XK) (is : List Nat) (G : TG) (t : Tg) : Prop := ∀ (w : Wd) (σ : L2.St) (H : Hp) (env : En) (st : Sto) (v : V) (a : A) (Q : L2.St → Hp → Prop), Ok w H st → RepE w H σ env → RepA w H v a →
  Post g E relG w H (t a env st) (fun σ' H' => Agree is σ σ' → Q σ' H') → G v σ H Q
structure SG (X : L2.Cx) (g : Gc) (E : XK) (is : List Nat) (tg : Expr) (t : Tg) : Prop where
  ex : ∃ G, PG X tg G ∧ SimG g E is G t
def SimGs (g : Gc) (E : XK) (is : List Nat) (G : TGs) (ts : List Tg) : Prop := ∀ (w : Wd) (σ : L2.St) (H : Hp) (env : En) (st : Sto) (vs : List V) (ps : List P) (Q : L2.St → Hp → Prop), Ok w H st → RepE w H σ env → Reps w.fz H vs ps →
  Post g E relG w H (unpack ts ps env st) (fun σ' H' => Agree is σ σ' → Q σ' H') → G vs σ H Q
structure SGs (X : L2.Cx) (g : Gc) (E : XK) (is : List Nat) (es : List Expr) (ts : List Tg) : Prop where
  ex : ∃ G, PGs X es G ∧ SimGs g E is G ts
section
variable {X : L2.Cx} {g : Gc} {E : XK} {pos : Pos}
theorem sg_name {i : Nat} {x : PySem.Str} (hN : X.N.Nodup) (hi : X.N[i]? = some x) (hx : Loc X.env.scope x) (hf : X.fn x = true ∨ X.env.scope.names.lookup x = some .local := by first | exact .inl rfl | exact .inr rfl | assumption) : SG X g E [i] (.Name x pos) (tN i) := by
  refine ⟨_, pg_name hN hi hx hf, fun w σ H env st v a Q ok re ra post => ?_⟩
  exact post w H _ Ext.refl ok (re.put ra) ⟨List.length_set, fun j hj => List.getElem?_set_ne fun z => hj (by simp [z])⟩
theorem sgs_nil : SGs X g E [] [] [] := ⟨_, pgs_nil, fun w σ H env st vs ps Q ok re rs post => by
  cases rs with
  | nil => exact ⟨rfl, post w H σ Ext.refl ok re Agree.refl⟩
  | cons _ _ => exact post.elim⟩
theorem sgs_cons {e : Expr} {es : List Expr} {t : Tg} {ts : List Tg} {is js : List Nat} (h : SG X g E is e t) (hr : SGs X g E js es ts)
    (hs : (assignEach (e :: es) X.env).map (·.2) = assign e X.env :: (assignEach es X.env).map (·.2) := by rfl) : SGs X g E (is ++ js) (e :: es) (t :: ts) := by
  obtain ⟨G, p, s⟩ := h
  obtain ⟨Gs, ps', ss⟩ := hr
  refine ⟨_, pgs_cons p ps' hs, fun w σ H env st vs ps Q ok re rs post => ?_⟩
  cases rs with
  | nil => exact post.elim
  | cons r rr =>
    rename_i v q vr pr
    refine ⟨v, vr, rfl, ?_⟩
    refine s w σ H env st v (.v q) _ ok re r (Post.bind post fun env' st1 w1 H1 σ1 x1 ok1 re1 post1 ag => ?_)
    exact ss w1 σ1 H1 env' st1 vr pr Q ok1 re1 (x1.reps rr) (Post.strong post1 fun σ' H' q ag2 => q (ag.trans ag2))
theorem sg_tup {es : List Expr} {k n : Nat} {ts : List Tg} {is : List Nat} (hc : X.calm = true) (h : SGs X g E is es ts) (ht : ts.length = n := by rfl) (hn : (assignEach es X.env).length = n := by rfl) (hst : (assignEach es X.env).findIdx? (·.1) = none := by rfl) : SG X g E is (.Tuple es k pos) (tT ts) := by
  obtain ⟨G, p, s⟩ := h
  refine ⟨_, pg_tup hc p hn hst, fun w σ H env st v a Q ok re ra post => ?_⟩
  obtain ⟨w1, st1, q, x1, ok1, r1, post1⟩ := toV_post ok ra post
  obtain ⟨ps, e1, post2⟩ := opt_post post1
  cases q with
  | tup qs =>
    cases e1
    obtain ⟨ad, vs, e2, z, r⟩ := r1.tup_inv
    obtain ⟨hb, post3⟩ := if_post post2
    exact ⟨ad, vs, e2, SqT.of z, by rw [Paired.len r, Nat.eq_of_beq_eq_true hb, ht], s w1 σ H env st1 vs _ Q ok1 (x1.repE re) r post3⟩
  | _ => cases e1

/-! ### a comprehension's block -/
/-- a list that nobody knows yet -/
abbrev relD : Wd → Hp → Addr → List P → Prop := fun w H D ps => D ∉ w.mu ∧ ¬ w.fz D ∧ ¬ w.kp D ∧ ∃ acc, H D = some (.lst acc) ∧ Reps w.fz H acc ps
def SimL (g : Gc) (E : XK) (t : TE) (m : En → M (List P)) : Prop := ∀ (w : Wd) (σ : L2.St) (H : Hp) (env : En) (st : Sto) (Q : VK), Ok w H st → RepE w H σ env → Post g E relD w H (m env st) (fun D H' => H D = none → Q (.ref D) H') → t σ H Q
/-- an expression that makes a new list -/
structure SL (X : L2.Cx) (g : Gc) (E : XK) (e : Expr) (m : En → M (List P)) : Prop where
  ex : ∃ t, PE X e t ∧ SimL g E t m
theorem Ok.hold_of {w : Wd} {H : Hp} {st : Sto} {D : Addr} {ps : List P} (ok : Ok w H st) (r : relD w H D ps) : Ext w (w.hold D) H H ∧ Ok (w.hold D) H st ∧ Rep (w.hold D).fz H (.ref D) (.lst ps) := by
  obtain ⟨d1, d2, d3, acc, e, r⟩ := r
  have x : Ext w (w.hold D) H H := ⟨fun b f => ⟨.inl f, fun _ e => .inl e⟩, fun _ _ e => e, fun _ _ _ e => e, fun _ _ e => e, rfl, fun _ _ => rfl, fun _ => ⟨fun h => h, .inl⟩⟩
  refine ⟨x, ⟨fun a f => f.elim (ok.wok a) fun z => ⟨.lst acc, (congrArg H z).trans e⟩, ok.len, fun n c a e1 e2 => ?_, ok.nd, fun a k => ?_⟩, Rep.lst (.inl ⟨.inr rfl, e⟩) (x.reps r)⟩
  · exact (ok.cells n c a e1 e2).keep x rfl fun z => z.elim (fun z => z) fun z => absurd (List.mem_of_getElem? e2) (by rw [z]; exact d1)
  · obtain ⟨k1, k2, k3⟩ := ok.kp a k
    exact ⟨k1, fun z => z.elim k2 fun z => d3 (by rw [← z]; exact k), k3⟩
/-- a cell that came meanwhile -/
theorem Ext.addcell {w0 w : Wd} {H0 H : Hp} {D : Addr} (x : Ext w0 w H0 H) (hD : H0 D = none) : Ext w0 (w.cell D) H0 H := ⟨x.fz, x.tup, x.frz, fun n a e => mu_snoc (x.mu n a e), x.kp, x.ke, fun a => ⟨(x.nw a).1, fun z => (List.mem_append.mp (show a ∈ w.mu ++ [D] from z)).elim (x.nw a).2 fun z => .inr (by rw [List.mem_singleton.mp z]; exact hD)⟩⟩
theorem CellOk.cell {w : Wd} {H : Hp} {D a : Addr} {c : Cell} (h : CellOk w H a c) : CellOk (w.cell D) H a c := by cases c <;> exact h
theorem Ok.cell_of' {w : Wd} {H : Hp} {st : Sto} {D : Addr} {ps : List P} (ok : Ok w H st) (r : relD w H D ps) : Ok (w.cell D) H (st ++ [.l ps]) ∧ RepA (w.cell D) H (.ref D) (.r st.length) := by
  obtain ⟨d1, d2, d3, acc, e, r⟩ := r
  refine ⟨⟨ok.wok, ?_, fun n c a e1 e2 => ?_, ?_, fun a k => ?_⟩, D, ?_, rfl⟩
  · show (w.mu ++ [D]).length = _
    rw [List.length_append, List.length_append, ok.len]; rfl
  · have e2 : (w.mu ++ [D])[n]? = some a := e2
    by_cases hn : n < w.mu.length
    · rw [List.getElem?_append_left hn] at e2
      rw [List.getElem?_append_left (by rw [← ok.len]; exact hn)] at e1
      exact (ok.cells n c a e1 e2).cell
    · have en : n = w.mu.length := by
        have := (List.getElem?_eq_some_iff.mp e2).1
        rw [List.length_append] at this
        simp at this
        omega
      subst en
      rw [mu_last] at e2
      cases e2
      have e3 : (st ++ [Cell.l ps])[w.mu.length]? = some (.l ps) := by rw [ok.len]; simp
      rw [e3] at e1
      cases e1
      exact ⟨d2, acc, e, r⟩
  · show (w.mu ++ [D]).Nodup
    rw [List.nodup_append]
    exact ⟨ok.nd, List.nodup_cons.mpr ⟨by simp, List.nodup_nil⟩, fun a ha b hb e => by
      have hb : b = D := by simpa using hb
      rw [e, hb] at ha
      exact d1 ha⟩
  · obtain ⟨k1, k2, k3⟩ := ok.kp a k
    refine ⟨fun z => ?_, k2, k3⟩
    rcases List.mem_append.mp (show a ∈ w.mu ++ [D] from z) with z | z
    · exact k1 z
    · have z : a = D := by simpa using z
      rw [z] at k; exact d3 k
  · show (w.mu ++ [D])[st.length]? = some D
    rw [← ok.len]; exact mu_last
theorem SimL.val {t : TE} {m : En → M (List P)} (s : SimL g E t m) : Sim g E relA t (eLc m) := fun w σ H env st Q ok re post =>
  s w σ H env st Q ok re (Post.bind post fun ps st1 w1 H1 D x1 ok1 r1 post1 _ => by
    obtain ⟨x2, ok2, r2⟩ := ok1.hold_of r1
    exact post1 _ _ _ x2 ok2 r2)
theorem SimL.cell {t : TE} {m : En → M (List P)} (s : SimL g E t m) : Sim g E relA t (eLcR m) := fun w σ H env st Q ok re post => by
  refine s w σ H env st Q ok re ?_
  have post : Post g E relA w H (Rt.bind (m env) (fun ps => fresh ps) st) Q := post
  unfold Rt.bind at post
  cases q : m env st with
  | ok ps st1 =>
    rw [q] at post
    intro w1 H1 D x1 ok1 r1 hD
    obtain ⟨ok2, r2⟩ := ok1.cell_of' r1
    exact post _ H1 _ (x1.addcell hD) ok2 r2
  | ex c p st1 => rw [q] at post; exact post
  | no => rw [q] at post; exact post
theorem se_ofL {e : Expr} {m : En → M (List P)} (h : SL X g E e m) : SE X g E e (eLc m) := let ⟨t, p, s⟩ := h.ex; ⟨t, p, s.val⟩
theorem se_ofLR {e : Expr} {m : En → M (List P)} (h : SL X g E e m) : SE X g E e (eLcR m) := let ⟨t, p, s⟩ := h.ex; ⟨t, p, s.cell⟩

/-! ### families of contexts -/
section
variable {ι : Type} {Y : ι → L2.Cx}
theorem fam_e {e : Expr} {f : Ex} (h : ∀ i, SE (Y i) g E e f) : ∃ t, (∀ i, PE (Y i) e t) ∧ Sim g E relA t f := by
  obtain ⟨t, ht⟩ := Classical.axiomOfChoice fun i => (h i).ex
  exact ⟨fun σ H Q => ∀ i, t i σ H Q, fun i => ⟨fun pins s σ H Q I q => (ht i).1.run pins s σ H Q I (q i)⟩, fun w σ H env st Q ok re post i => (ht i).2 w σ H env st Q ok re post⟩
theorem fam_g {is : List Nat} {e : Expr} {t : Tg} (h : ∀ i, SG (Y i) g E is e t) : ∃ G, (∀ i, PG (Y i) e G) ∧ SimG g E is G t := by
  obtain ⟨G, ht⟩ := Classical.axiomOfChoice fun i => (h i).ex
  exact ⟨fun v σ H Q => ∀ i, G i v σ H Q, fun i => ⟨fun pins s σ H v u Q I r q => (ht i).1.run pins s σ H v u Q I r (q i)⟩, fun w σ H env st v a Q ok re ra post i => (ht i).2 w σ H env st v a Q ok re ra post⟩
theorem fam_i {tg iter : Expr} {it : Rt.It} (h : ∀ i, SI (Y i) g E tg iter it) : ∃ wi, (∀ i, PI (Y i) tg iter wi) ∧ Sim g E relI wi it := by
  obtain ⟨t, ht⟩ := Classical.axiomOfChoice fun i => (h i).ex
  exact ⟨fun σ H R => ∀ i, t i σ H R, fun i => ⟨fun pins s σ H R I q => (ht i).1.run pins s σ H R I (q i)⟩, fun w σ H env st Q ok re post i => (ht i).2 w σ H env st Q ok re post⟩
end
/-- a clause's tests -/
structure STs (X : L2.Cx) (g : Gc) (E : XK) (ifs : List Expr) (c : Tx) : Prop where
  ex : ∃ t, PTs X ifs t ∧ Sim g E relB t c
theorem sts_nil : STs X g E [] cYes := ⟨_, pts_nil, fun w σ H env st Q ok re post => post w H true Ext.refl ok rfl⟩
theorem sts_one {e : Expr} {c : Tx} (h : SC X g E e c) : STs X g E [e] c := let ⟨t, p, s⟩ := h.ex; ⟨t, pts_one p, s⟩
theorem fam_t {ι : Type} {Y : ι → L2.Cx} {ifs : List Expr} {c : Tx} (h : ∀ i, STs (Y i) g E ifs c) : ∃ t, (∀ i, PTs (Y i) ifs t) ∧ Sim g E relB t c := by
  obtain ⟨t, ht⟩ := Classical.axiomOfChoice fun i => (h i).ex
  exact ⟨fun σ H Q => ∀ i, t i σ H Q, fun i => ⟨fun pins s σ H Q I q => (ht i).1.run pins s σ H Q I (q i)⟩, fun w σ H env st Q ok re post i => (ht i).2 w σ H env st Q ok re post⟩
end
/-- the contexts a block may run in -/
structure Bi where
  s : Shared
  H : Hp
  C : Addr
  cl : List (PySem.Str × Addr)
  fp : List Addr
abbrev Bk (X : L2.Cx) (scope : Scope) (b : Bi) : L2.Cx := X.blk b.s b.H scope (compEnvC scope b.cl b.C X.env) b.fp

/-! ### a list that is filled meanwhile -/
def Wd.keep (w : Wd) (D : Addr) : Wd := ⟨w.mu, w.fz, fun a => w.kp a ∨ a = D⟩
section
variable {u w : Wd} {H H' : Hp} {st : Sto} {D : Addr}
theorem Ext.keep1 : Ext0 (u.keep D) u H H := ⟨fun a f => ⟨f, fun _ e => .inl e⟩, fun _ _ e => e, fun _ _ _ e => e, fun _ h => h⟩
theorem Ext.keep0 : Ext0 u (u.keep D) H H := ⟨fun a f => ⟨f, fun _ e => .inl e⟩, fun _ _ e => e, fun _ _ _ e => e, fun _ h => h⟩
theorem RepE.keep {σ : L2.St} {env : En} (h : RepE u H σ env) : RepE (u.keep D) H σ env := ⟨h.len, fun i a e => by
  obtain ⟨v, h1, h2⟩ := h.at_ i a e
  refine ⟨v, h1, ?_⟩
  cases a with
  | v p => exact h2
  | r n => exact h2⟩
theorem CellOk.keepD {a : Addr} {c : Cell} (h : CellOk u H a c) : CellOk (u.keep D) H a c := by cases c <;> exact h
theorem CellOk.dropD {a : Addr} {c : Cell} (h : CellOk (u.keep D) H a c) : CellOk u H a c := by cases c <;> exact h
theorem Ok.kept_new {o : HO} (ok : Ok u H st) (h : H D = none) : Ext u u H (upd H D o) ∧ Ok (u.keep D) (upd H D o) st ∧ ¬ u.kp D := by
  have ok2 := ok.laid (o := o) h
  refine ⟨Ext.laid ok h, ⟨ok2.wok, ok2.len, fun n c a e1 e2 => (ok2.cells n c a e1 e2).keepD, ok2.nd, fun a k => ?_⟩, fun k => ?_⟩
  · rcases k with k | k
    · exact ok2.kp a k
    · rw [k]; exact ⟨(ok.fresh h).1, (ok.fresh h).2, o, upd_same⟩
  · obtain ⟨_, _, o', e⟩ := ok.kp D k
    rw [h] at e; cases e
theorem Ok.unkept (ok : Ok (u.keep D) H st) : Ok u H st ∧ D ∉ u.mu ∧ ¬ u.fz D :=
  ⟨⟨ok.wok, ok.len, fun n c a e1 e2 => (ok.cells n c a e1 e2).dropD, ok.nd, fun a k => ok.kp a (.inl k)⟩, (ok.kp D (.inr rfl)).1, (ok.kp D (.inr rfl)).2.1⟩
theorem Ext.unkept {z : Wd} (x : Ext (u.keep D) z H H') : ∃ u', z = u'.keep D ∧ Ext u u' H H' ∧ H' D = H D := by
  refine ⟨⟨z.mu, z.fz, u.kp⟩, ?_, ⟨x.fz, x.tup, x.frz, x.mu, rfl, fun a k => x.ke a (.inl k), x.nw⟩, x.ke D (.inr rfl)⟩
  cases z
  have e := x.kp
  simp only [Wd.keep] at e ⊢
  rw [e]
theorem Ok.filled {o o' : HO} (ok : Ok (u.keep D) H st) (hk : ¬ u.kp D) (hD : H D = some o) (ht : ∀ xs, o ≠ .tup xs) (hz : ∀ q v, o ≠ .frz q v) : Ext u u H (upd H D o') ∧ Ok (u.keep D) (upd H D o') st := by
  obtain ⟨d1, d2, d3⟩ := ok.kp D (.inr rfl)
  have x : Ext u u H (upd H D o') := by
    refine ⟨fun a f => ⟨f, fun v e => .inl ?_⟩, fun a xs e => ?_, fun a q v e => ?_, fun _ _ e => e, rfl, fun a k => ?_, fun a => ⟨upd_none, .inl⟩⟩
    · rw [upd_ne fun z => d2 (by rw [← z]; exact f)]; exact e
    · rw [upd_ne fun z => by rw [z, hD] at e; cases e; exact ht _ rfl]; exact e
    · rw [upd_ne fun z => by rw [z, hD] at e; cases e; exact hz _ _ rfl]; exact e
    · exact upd_ne fun z => hk (by rw [← z]; exact k)
  refine ⟨x, fun a f => ?_, ok.len, fun n c a e1 e2 => ?_, ok.nd, fun a k => ?_⟩
  · obtain ⟨v, e⟩ := ok.wok a f
    exact ⟨v, by rw [upd_ne fun z => d2 (by rw [← z]; exact f)]; exact e⟩
  · have hne : a ≠ D := fun z => d1 (by rw [← z]; exact List.mem_of_getElem? e2)
    exact ((ok.cells n c a e1 e2).dropD.keep x (upd_ne hne) fun z => z).keepD
  · by_cases ha : a = D
    · rw [ha]; exact ⟨d1, d2, _, upd_same⟩
    · obtain ⟨k1, k2, v, e⟩ := ok.kp a k
      exact ⟨k1, k2, v, by rw [upd_ne ha]; exact e⟩
end
theorem post_ok {α β : Type} {g : Gc} {E : XK} {rel : Wd → Hp → β → α → Prop} {w : Wd} {H : Hp} {r : R α} {a : α} {st : Sto} {Q : β → Hp → Prop} (h : r = .ok a st) (q : ∀ w' H' b, Ext w w' H H' → Ok w' H' st → rel w' H' b a → Q b H') : Post g E rel w H r Q := by
  rw [h]; exact q
/-- the state of a loop that fills D: what is done, what is still to do -/
structure Fill (J : L2.It) (xs : List P) (σ0 : L2.St) (env0 : En) (D : Addr) (B : Wd → Hp → Prop) (todo : List P → Sto → List P → Prop) (all : List P) (i : Nat) (H : Hp) : Prop where
  ex : ∃ (u : Wd) (st : Sto) (acc : List V) (done rest : List P), B u H ∧ Ok (u.keep D) H st ∧ ¬ u.kp D ∧ H D = some (.lst acc) ∧ Reps u.fz H acc done ∧ Walk J u H xs ∧ RepE u H σ0 env0 ∧ todo (xs.drop i) st rest ∧ all = done ++ rest
theorem turns_cons {tg : Tg} {c : Tx} {e : Ex} {env : En} {x : P} {xs : List P} {st st' : Sto} {ps : List P} (h : turns tg c e env (x :: xs) st = .ok ps st') :
    ∃ env' st1 k st2, tg (.v x) env st = .ok env' st1 ∧ c env' st1 = .ok k st2 ∧
      ((k = false ∧ turns tg c e env xs st2 = .ok ps st') ∨ (k = true ∧ ∃ a st3 p st4 qs, e env' st2 = .ok a st3 ∧ toV a st3 = .ok p st4 ∧ turns tg c e env xs st4 = .ok qs st' ∧ ps = p :: qs)) := by
  obtain ⟨env', st1, h1, h⟩ := bind_ok (show Rt.bind (tg (.v x) env) (fun env' => Rt.bind (c env') fun k => if k then Rt.bind (e env') fun a => Rt.bind (toV a) fun p => Rt.bind (turns tg c e env xs) fun ps => ret (p :: ps) else turns tg c e env xs) st = .ok ps st' from h)
  obtain ⟨k, st2, h2, h⟩ := bind_ok h
  refine ⟨env', st1, k, st2, h1, h2, ?_⟩
  cases k with
  | false => exact .inl ⟨rfl, h⟩
  | true =>
    obtain ⟨a, st3, h3, h⟩ := bind_ok (show Rt.bind (e env') (fun a => Rt.bind (toV a) fun p => Rt.bind (turns tg c e env xs) fun ps => ret (p :: ps)) st2 = .ok ps st' from h)
    obtain ⟨p, st4, h4, h⟩ := bind_ok h
    obtain ⟨qs, st5, h5, h⟩ := bind_ok h
    cases h
    exact .inr ⟨rfl, a, st3, p, st4, qs, h3, h4, h5, rfl⟩
/-- the loop that fills D -/
theorem fill_loop {g : Gc} {J : L2.It} {xs : List P} {τ : L2.St} {vs is : List Nat} {env0 : En} {D : Addr} {B : Wd → Hp → Prop} {all : List P} {t : Tg} {c : Tx} {e : Ex} {G : TG} {tt : TT} {te : TE} {st' : Sto} {K : Hp → Prop} {H0 : Hp}
    (hB : ∀ u u' H H', B u H → Ext u u' H H' → B u' H') (hG : SimG g E0 is G t) (hs : ∀ i ∈ is, i ∈ vs) (hT : Sim g E0 relB tt c) (hE : Sim g E0 relA te e) (hall : all.length ≤ sizeLine)
    (start : Fill J xs (L2.wipe τ vs) env0 D B (fun ys st rest => turns t c e env0 ys st = .ok rest st') all 0 H0)
    (fin : ∀ (u : Wd) (H : Hp) (acc : List V), B u H → Ok (u.keep D) H st' → ¬ u.kp D → H D = some (.lst acc) → Reps u.fz H acc all → K H) :
    ∃ W : Nat → Nat → Hp → Prop, (∃ m, W 0 m H0) ∧ ∀ i m H, W i m H → (J.stop i H ∧ K H) ∨ (J.go i H ∧ ∃ Nx : Hp → Prop, (∀ H', Nx H' → ∃ m', m' < m ∧ W (i + 1) m' H') ∧ ∀ x H', J.yld i H x H' →
      G x (L2.wipe τ vs) H' fun σ2 H2 => L2.wipe σ2 vs = L2.wipe τ vs ∧ tt σ2 H2 fun b H3 => if b = true then te σ2 H3 fun y H4 => ∃ acc, H4 D = some (.lst acc) ∧ acc.length < sizeLine ∧ Nx (upd H4 D (.lst (acc ++ [y]))) else Nx H3) := by
  refine ⟨fun i m H => m = xs.length - i ∧ i ≤ xs.length ∧ Fill J xs (L2.wipe τ vs) env0 D B (fun ys st rest => turns t c e env0 ys st = .ok rest st') all i H, ⟨_, rfl, Nat.zero_le _, start⟩, ?_⟩
  rintro i m H ⟨rfl, hi, u, st, acc, done, rest, b, ok, hk, hD, rs, wk, re, td, ha⟩
  obtain ⟨w1, w2⟩ := wk i (u.keep D) H st Ext.keep0 ok
  by_cases hlt : i < xs.length
  · obtain ⟨go, yld⟩ := w1 _ (List.getElem?_eq_getElem hlt)
    rw [List.drop_eq_getElem_cons hlt] at td
    obtain ⟨env', st1, k, st2, h1, h2, h3⟩ := turns_cons td
    refine .inr ⟨go, fun H' => Fill J xs (L2.wipe τ vs) env0 D B (fun ys st rest => turns t c e env0 ys st = .ok rest st') all (i + 1) H', fun H' f => ⟨_, by omega, rfl, hlt, f⟩, fun x H' y => ?_⟩
    obtain ⟨x1, ok1, r1⟩ := yld x H' y
    refine hG (u.keep D) _ H' env0 st x (.v xs[i]) _ ok1 (x1.repE re.keep) r1 (post_ok h1 fun z2 H2 σ2 x2 ok2 re2 ag => ⟨ag.wiped hs, ?_⟩)
    refine hT z2 σ2 H2 env' st1 _ ok2 re2 (post_ok h2 fun z3 H3 k' x3 ok3 ek => ?_)
    subst ek
    rcases h3 with ⟨ek, h3⟩ | ⟨ek, a, st3, p, st4, qs, h3, h4, h5, e5⟩
    · subst ek
      simp only [Bool.false_eq_true, if_false]
      obtain ⟨u3, e3, y3, d3⟩ := (x1.trans (x2.trans x3)).unkept
      subst e3
      exact ⟨u3, st2, acc, done, rest, hB _ _ _ _ b y3, ok3, by rw [y3.kp]; exact hk, by rw [d3]; exact hD, y3.reps rs, wk.ext y3.to0, y3.repE re, h3, ha⟩
    · subst ek
      simp only [if_true]
      refine hE z3 σ2 H3 env' st2 _ ok3 (x3.repE re2) (post_ok h3 fun z4 H4 v4 x4 ok4 r4 => ?_)
      obtain ⟨z5, x5, ok5, r5⟩ := toV_ok ok4 r4 h4
      obtain ⟨u5, e5', y5, d5⟩ := (x1.trans (x2.trans (x3.trans (x4.trans x5)))).unkept
      subst e5'
      have hD5 : H4 D = some (.lst acc) := by rw [d5]; exact hD
      have hk5 : ¬ u5.kp D := by rw [y5.kp]; exact hk
      obtain ⟨x6, ok6⟩ := ok5.filled (o' := .lst (acc ++ [v4])) hk5 hD5 (fun _ z => nomatch z) fun _ _ z => nomatch z
      have y6 := y5.trans x6
      have hl : acc.length < sizeLine := by
        have l1 := Paired.len rs
        rw [ha, e5, List.length_append, List.length_cons] at hall
        omega
      refine ⟨acc, hD5, hl, u5, st4, acc ++ [v4], done ++ [p], qs, hB _ _ _ _ b y6, ok6, hk5, upd_same, Paired.app (y6.reps rs) (.cons (x6.rep r5) .nil), wk.ext y6.to0, y6.repE re, h5, ?_⟩
      rw [ha, e5, List.append_assoc]; rfl
  · have e : i = xs.length := by omega
    subst e
    rw [List.drop_length] at td
    cases td
    rw [List.append_nil] at ha
    subst ha
    exact .inl ⟨w2 (Nat.le_refl _), fin u H acc b ok hk hD rs⟩
end Rt

set_option Elab.async false
set_option linter.all false
set_option maxRecDepth 100000
set_option autoImplicit false
set_option maxHeartbeats 4000000
namespace Rt
open PySem PySem.Spec PyProof.Rows L2

/-! ### list comprehensions -/
theorem calm_fits {g : Gc} {E : XK} {rel : Wd → Hp → Addr → List P → Prop} {w : Wd} {H : Hp} {m : M (List P)} {st : Sto} {Q : Addr → Hp → Prop} (post : Post g E rel w H (Rt.bind (calm m) fits st) Q) :
    ∃ ps st', m st = .ok ps st' ∧ ps.length ≤ sizeLine ∧ ∀ w' H' D, Ext w w' H H' → Ok w' H' st' → rel w' H' D ps → Q D H' := by
  unfold Rt.bind calm at post
  cases q : m st with
  | ok ps st' =>
    rw [q] at post
    obtain ⟨hb, post⟩ := if_post (show Post g E rel w H ((if Nat.ble ps.length line then ret ps else no) st') Q from post)
    exact ⟨ps, st', rfl, by rw [← line_eq]; exact Nat.le_of_ble_eq_true hb, post⟩
  | ex c p st' => rw [q] at post; exact post.elim
  | no => rw [q] at post; exact post.elim
section
variable {g : Gc} {E : XK} {wi : TI} {G : TG} {tt : TT} {te : TE} {it : Rt.It} {is vs : List Nat} {t : Tg} {c : Tx} {f : Ex}
theorem lc_sim (hI : Sim g E relI wi it) (hG : SimG g E0 is G t) (hT : Sim g E0 relB tt c) (hE : Sim g E0 relA te f) (hs : ∀ i ∈ is, i ∈ vs) : SimL g E (tLc wi G tt te vs) (lc vs it t c f) := fun w σ H env st Q ok re post => by
  refine hI w σ H env st _ ok re (Post.bind post fun xs st1 w1 H1 J x1 ok1 wk post1 => ?_)
  obtain ⟨ps, st', hr, hl, fin⟩ := calm_fits post1
  intro D hD
  obtain ⟨y1, ok2, hk⟩ := ok1.kept_new (o := .lst []) hD
  have d1 := ok1.fresh hD
  refine fill_loop (B := fun u H' => Ext w1 u H1 H') (all := ps) (fun u u' H H' a b => a.trans b) hG hs hT hE hl ⟨w1, st1, [], [], ps, y1, ok2, hk, upd_same, .nil, wk.ext y1.to0, y1.repE ((x1.repE re).wipe vs), hr, rfl⟩ fun u H2 acc b ok3 hk3 hD3 rs => ?_
  obtain ⟨ok4, m1, m2⟩ := ok3.unkept
  exact fin u H2 D b ok4 ⟨m1, m2, hk3, acc, hD3, rs⟩ ((x1.nw D).1 hD)
end
section
variable {X : L2.Cx} {g : Gc} {E : XK} {elt tg iter : Expr} {ifs : List Expr} {scope : Scope} {own : List (PySem.Str × Nat)} {pos : Pos} {it : Rt.It} {is : List Nat} {t : Tg} {c : Tx} {f : Ex}
theorem sl_lc (hc : X.calm = true) (hN : X.N.Nodup) (hi : SI X g E tg iter it) (ok : BlkOk X.N X.env.scope scope own) (hg : ∀ b : Bi, SG (Bk X scope b) g E0 is tg t) (ht : ∀ b : Bi, STs (Bk X scope b) g E0 ifs c) (he : ∀ b : Bi, SE (Bk X scope b) g E0 elt f)
    (hs : ∀ i ∈ is, i ∈ own.map (·.2) := by decide) (hf : ∀ x, foldedSetIterable iter X.env x = pure x := by intro _; rfl) : SL X g E (.ListComp elt [⟨tg, iter, ifs, 0⟩] scope pos) (lc (own.map (·.2)) it t c f) := by
  obtain ⟨wi, pi, si⟩ := hi
  obtain ⟨G, pg, sg⟩ := fam_g hg
  obtain ⟨tt, pt, st⟩ := fam_t ht
  obtain ⟨te, pe, se⟩ := fam_e he
  exact ⟨_, pe_lc hc hN pi ok (fun s H C cl fp => pg ⟨s, H, C, cl, fp⟩) (fun s H C cl fp => pt ⟨s, H, C, cl, fp⟩) (fun s H C cl fp => pe ⟨s, H, C, cl, fp⟩) hf, lc_sim si sg st se hs⟩
end

/-! ### two fors -/
theorem turns2_cons {tg : Tg} {c : Tx} {inner : En → M (List P)} {env : En} {x : P} {xs : List P} {st st' : Sto} {ps : List P} (h : turns2 tg c inner env (x :: xs) st = .ok ps st') :
    ∃ env' st1 k st2, tg (.v x) env st = .ok env' st1 ∧ c env' st1 = .ok k st2 ∧
      ((k = false ∧ turns2 tg c inner env xs st2 = .ok ps st') ∨ (k = true ∧ ∃ ys st3 qs, inner env' st2 = .ok ys st3 ∧ turns2 tg c inner env xs st3 = .ok qs st' ∧ ps = ys ++ qs)) := by
  obtain ⟨env', st1, h1, h⟩ := bind_ok (show Rt.bind (tg (.v x) env) (fun env' => Rt.bind (c env') fun k => if k then Rt.bind (inner env') fun ys => Rt.bind (turns2 tg c inner env xs) fun zs => ret (ys ++ zs) else turns2 tg c inner env xs) st = .ok ps st' from h)
  obtain ⟨k, st2, h2, h⟩ := bind_ok h
  refine ⟨env', st1, k, st2, h1, h2, ?_⟩
  cases k with
  | false => exact .inl ⟨rfl, h⟩
  | true =>
    obtain ⟨ys, st3, h3, h⟩ := bind_ok (show Rt.bind (inner env') (fun ys => Rt.bind (turns2 tg c inner env xs) fun zs => ret (ys ++ zs)) st2 = .ok ps st' from h)
    obtain ⟨qs, st5, h5, h⟩ := bind_ok h
    cases h
    exact .inr ⟨rfl, ys, st3, qs, h3, h5, rfl⟩
section
variable {g : Gc} {E : XK} {wi wi1 : TI} {G G1 : TG} {tt tt1 : TT} {te : TE} {it it1 : Rt.It} {is is1 vs vs1 : List Nat} {t t1 : Tg} {c c1 : Tx} {f : Ex}
theorem lc2_sim (hI : Sim g E relI wi it) (hG : SimG g E0 is G t) (hT : Sim g E0 relB tt c) (hs : ∀ i ∈ is, i ∈ vs) (hI1 : Sim g E0 relI wi1 it1) (hG1 : SimG g E0 is1 G1 t1) (hT1 : Sim g E0 relB tt1 c1) (hE : Sim g E0 relA te f) (hs1 : ∀ i ∈ is1, i ∈ vs1) :
    SimL g E (tLc2 wi G tt wi1 G1 tt1 te vs vs1) (lc2 vs vs1 it t c it1 t1 c1 f) := fun w σ H env st Q ok re post => by
  refine hI w σ H env st _ ok re (Post.bind post fun xs st1 w1 H1 J x1 ok1 wk post1 => ?_)
  obtain ⟨ps, st', hr, hl, fin⟩ := calm_fits post1
  intro D hD
  have h0D := (x1.nw D).1 hD
  obtain ⟨y1, ok2, hk⟩ := ok1.kept_new (o := .lst []) hD
  -- the outer turns
  let inner : En → M (List P) := fun env' => Rt.bind (it1 env') fun ys => turns t1 c1 f (Rt.wipe env' vs1) ys
  refine ⟨fun i m H => m = xs.length - i ∧ i ≤ xs.length ∧ Fill J xs (L2.wipe σ vs) (Rt.wipe env vs) D (fun u H' => Ext w1 u H1 H') (fun ys st rest => turns2 t c inner (Rt.wipe env vs) ys st = .ok rest st') ps i H,
    ⟨_, rfl, Nat.zero_le _, w1, st1, [], [], ps, y1, ok2, hk, upd_same, .nil, wk.ext y1.to0, y1.repE ((x1.repE re).wipe vs), hr, rfl⟩, ?_⟩
  rintro i m H2 ⟨rfl, hi, u, st, acc, done, rest, b, ok, hk, hD, rs, wk, re, td, ha⟩
  obtain ⟨k1, k2⟩ := wk i (u.keep D) H2 st Ext.keep0 ok
  by_cases hlt : i < xs.length
  · obtain ⟨go, yld⟩ := k1 _ (List.getElem?_eq_getElem hlt)
    rw [List.drop_eq_getElem_cons hlt] at td
    obtain ⟨env', st1, k, st2, h1, h2, h3⟩ := turns2_cons td
    refine .inr ⟨go, fun H' => Fill J xs (L2.wipe σ vs) (Rt.wipe env vs) D (fun u H' => Ext w1 u H1 H') (fun ys st rest => turns2 t c inner (Rt.wipe env vs) ys st = .ok rest st') ps (i + 1) H', fun H' f => ⟨_, by omega, rfl, hlt, f⟩, fun x H' y => ?_⟩
    obtain ⟨x1, ok1, r1⟩ := yld x H' y
    refine hG (u.keep D) _ H' _ st x (.v xs[i]) _ ok1 (x1.repE re.keep) r1 (post_ok h1 fun z2 H2 σ2 x2 ok2 re2 ag => ⟨ag.wiped hs, ?_⟩)
    refine hT z2 σ2 H2 env' st1 _ ok2 re2 (post_ok h2 fun z3 H3 k' x3 ok3 ek => ?_)
    subst ek
    rcases h3 with ⟨ek, h3⟩ | ⟨ek, ys, st3, qs, h3, h4, h5⟩
    · subst ek
      simp only [Bool.false_eq_true, if_false]
      obtain ⟨u3, e3, y3, d3⟩ := (x1.trans (x2.trans x3)).unkept
      subst e3
      exact ⟨u3, st2, acc, done, rest, b.trans y3, ok3, by rw [y3.kp]; exact hk, by rw [d3]; exact hD, y3.reps rs, wk.ext y3.to0, y3.repE re, h3, ha⟩
    · subst ek
      simp only [if_true]
      obtain ⟨zs, st4, h6, h7⟩ := bind_ok h3
      refine hI1 z3 σ2 H3 env' st2 _ ok3 (x3.repE re2) (post_ok h6 fun z4 H4 J1 x4 ok4 wk1 => ?_)
      have y4 := x1.trans (x2.trans (x3.trans x4))
      obtain ⟨u4, e4, y4', d4⟩ := y4.unkept
      subst e4
      have all1 : (done ++ ys).length ≤ sizeLine := by
        rw [ha, h5, List.length_append, List.length_append] at hl
        rw [List.length_append]
        omega
      have re4 : RepE u4 H4 σ2 env' := by
        have := x4.repE (x3.repE re2)
        exact ⟨this.len, fun i a e => by
          obtain ⟨v, q1, q2⟩ := this.at_ i a e
          refine ⟨v, q1, ?_⟩
          cases a with
          | v p => exact q2
          | r n => exact q2⟩
      refine fill_loop (B := fun u H' => Ext u4 u H4 H') (all := done ++ ys) (st' := st3) (fun u u' H H' a b => a.trans b) hG1 hs1 hT1 hE all1
        ⟨u4, st4, acc, done, ys, Ext.refl, ok4, by rw [y4'.kp]; exact hk, by rw [d4]; exact hD, y4'.reps rs, wk1.ext Ext.keep1, re4.wipe vs1, h7, rfl⟩ fun u5 H5 acc5 b5 ok5 hk5 hD5 rs5 => ?_
      have y5 := y4'.trans b5
      exact ⟨u5, st3, acc5, done ++ ys, qs, b.trans y5, ok5, hk5, hD5, rs5, wk.ext y5.to0, y5.repE re, h4, by rw [ha, h5, List.append_assoc]⟩
  · have e : i = xs.length := by omega
    subst e
    rw [List.drop_length] at td
    cases td
    rw [List.append_nil] at ha
    subst ha
    obtain ⟨ok4, m1, m2⟩ := ok.unkept
    exact .inl ⟨k2 (Nat.le_refl _), fin u H2 D b ok4 ⟨m1, m2, hk, acc, hD, rs⟩ h0D⟩
end
section
variable {X : L2.Cx} {g : Gc} {E : XK} {elt tg iter tg1 iter1 : Expr} {ifs ifs1 : List Expr} {scope : Scope} {own : List (PySem.Str × Nat)} {pos : Pos} {it it1 : Rt.It} {is is1 vs1 : List Nat} {t t1 : Tg} {c c1 : Tx} {f : Ex}
theorem sl_lc2 (hc : X.calm = true) (hN : X.N.Nodup) (hi : SI X g E tg iter it) (ok : BlkOk X.N X.env.scope scope own) (hg : ∀ b : Bi, SG (Bk X scope b) g E0 is tg t) (ht : ∀ b : Bi, STs (Bk X scope b) g E0 ifs c)
    (hi1 : ∀ b : Bi, SI (Bk X scope b) g E0 tg1 iter1 it1) (hg1 : ∀ b : Bi, SG (Bk X scope b) g E0 is1 tg1 t1) (ht1 : ∀ b : Bi, STs (Bk X scope b) g E0 ifs1 c1) (he : ∀ b : Bi, SE (Bk X scope b) g E0 elt f)
    (hs : ∀ i ∈ is, i ∈ own.map (·.2) := by decide) (hs1 : ∀ i ∈ is1, i ∈ vs1 := by decide) (hv : ∀ i ∈ vs1, i ∈ own.map (·.2) := by decide) (hf : ∀ x, foldedSetIterable iter X.env x = pure x := by intro _; rfl) (hf1 : ∀ env x, foldedSetIterable iter1 env x = pure x := by intro _ _; rfl) :
    SL X g E (.ListComp elt [⟨tg, iter, ifs, 0⟩, ⟨tg1, iter1, ifs1, 0⟩] scope pos) (lc2 (own.map (·.2)) vs1 it t c it1 t1 c1 f) := by
  obtain ⟨wi, pi, si⟩ := hi
  obtain ⟨G, pg, sg⟩ := fam_g hg
  obtain ⟨tt, pt, st⟩ := fam_t ht
  obtain ⟨wi1, pi1, si1⟩ := fam_i hi1
  obtain ⟨G1, pg1, sg1⟩ := fam_g hg1
  obtain ⟨tt1, pt1, st1⟩ := fam_t ht1
  obtain ⟨te, pe, se⟩ := fam_e he
  exact ⟨_, pe_lc2 hc hN pi ok hv (fun s H C cl fp => pg ⟨s, H, C, cl, fp⟩) (fun s H C cl fp => pt ⟨s, H, C, cl, fp⟩) (fun s H C cl fp => pi1 ⟨s, H, C, cl, fp⟩) (fun s H C cl fp => pg1 ⟨s, H, C, cl, fp⟩) (fun s H C cl fp => pt1 ⟨s, H, C, cl, fp⟩) (fun s H C cl fp => pe ⟨s, H, C, cl, fp⟩) hf hf1,
    lc2_sim si sg st hs si1 sg1 st1 se hs1⟩
end
end Rt

set_option Elab.async false
set_option linter.all false
set_option maxRecDepth 100000
set_option autoImplicit false
set_option maxHeartbeats 4000000
namespace Rt
open PySem PySem.Spec PyProof.Rows L2

/-! ### operations on values -/
def O1 (gg : P → Option P) (r : V → Hp → VK → Prop) : Prop :=
  ∀ (w : Wd) (H : Hp) (st : Sto) (x : V) (p q : P) (Qv : VK), Ok w H st → Cur w H x p → gg p = some q → (∀ w' H' v, Ext w w' H H' → Ok w' H' st → Rep w'.fz H' v q → Qv v H') → r x H Qv
/-- .. that lay a new list -/
def O1L (gg : P → Option P) (r : V → Hp → VK → Prop) : Prop :=
  ∀ (w : Wd) (H : Hp) (st : Sto) (x : V) (p : P) (xs : List P) (Qv : VK), Ok w H st → Cur w H x p → gg p = some (.lst xs) → (∀ vs, Reps w.fz H vs xs → ∀ d, H d = none → Qv (.ref d) (upd H d (.lst vs))) → r x H Qv
def O2 (gg : P → P → Option P) (r : V → V → Hp → VK → Prop) : Prop :=
  ∀ (w : Wd) (H : Hp) (st : Sto) (x y : V) (p p' q : P) (Qv : VK), Ok w H st → Cur w H x p → Cur w H y p' → gg p p' = some q → (∀ w' H' v, Ext w w' H H' → Ok w' H' st → Rep w'.fz H' v q → Qv v H') → r x y H Qv
section
variable {g : Gc} {E : XK} {gg : P → Option P} {g2 : P → P → Option P} {r : V → Hp → VK → Prop} {r2 : V → V → Hp → VK → Prop}
theorem O1.op (h : O1 gg r) : Op1S g E r (rd1 gg) := fun w H st x a Q ok ra post => by
  obtain ⟨p, q, e, cx, fin⟩ := rd1_inv ok ra post
  exact h w H st x p q Q ok cx e fin
theorem O2.op (h : O2 g2 r2) : OpS g E r2 (rd2 g2) := fun w H st x y a b Q ok ra rb post => by
  obtain ⟨p, p', q, e, cx, cy, fin⟩ := rd2_inv ok ra rb post
  exact h w H st x y p p' q Q ok cx cy e fin
theorem O1L.cell (h : O1L gg r) : Op1S g E r (rd1F gg) := fun w H st x a Q ok ra post => by
  obtain ⟨p, xs, e, cx, fin⟩ := rd1F_inv ok ra post
  exact h w H st x p xs Q ok cx e fun vs rs d hd => new_post ok rs fin d hd
theorem O1L.op (h : O1L gg r) (hl : ∀ p q, gg p = some q → ∃ xs, q = .lst xs) : Op1S g E r (rd1 gg) := fun w H st x a Q ok ra post => by
  obtain ⟨p, q, e, cx, fin⟩ := rd1_inv ok ra post
  obtain ⟨xs, rfl⟩ := hl p q e
  exact h w H st x p xs Q ok cx e fun vs rs d hd => lst_post ok rs (fun w' H' v x ok' r' => fin w' H' v x ok' r') d hd
end

/-! ### calls of what Python brings -/
section
variable {X : L2.Cx} {g : Gc} {E : XK} {a b : Expr} {fa fb : Ex} {p pos : Pos} {x : PySem.Str} {id T : String} {r : List V → Hp → VK → Prop} {f : A → M A} {f2 : A → A → M A}
theorem se_b1 (hc : CallR X (.builtin id) r) (hf : Op1S g E (fun x => r [x]) f) (ha : SE X g E a fa) (hg : Gl X x) (hm : X.mg x = none) (hv : bootBuiltins x = some (.builtin id)) (hn : x ≠ "__name__" := by decide) (hdb : (x == ("__debug__" : PySem.Str)) = false := by decide)
    (hs : starEach [a] X.env = (false, eval a X.env) :: starEach [] X.env := by rfl) : SE X g E (.Call (.Name x p) [a] [] pos) (e1 f fa) := by
  obtain ⟨ta, pa, sa⟩ := ha
  refine ⟨_, pe_callB hc hg hm hv (pa_cons pa pa_nil hs) hn hdb hs (by rfl), fun w σ H env st Q ok re post => ?_⟩
  refine sa w σ H env st _ ok re (Post.bind post fun x st1 w1 H1 v1 x1 ok1 r1 post1 => ?_)
  exact hf w1 H1 st1 v1 x Q ok1 r1 post1
theorem se_b2 (hc : CallR X (.builtin id) r) (hf : OpS g E (fun x y => r [x, y]) f2) (ha : SE X g E a fa) (hb : SE X g E b fb) (hg : Gl X x) (hm : X.mg x = none) (hv : bootBuiltins x = some (.builtin id)) (hn : x ≠ "__name__" := by decide) (hdb : (x == ("__debug__" : PySem.Str)) = false := by decide)
    (hs : starEach [a, b] X.env = (false, eval a X.env) :: starEach [b] X.env := by rfl) (hs2 : starEach [b] X.env = (false, eval b X.env) :: starEach [] X.env := by rfl) (hpl : (backTo pos (starEach [b] X.env)).any (·.1) = false := by rfl) : SE X g E (.Call (.Name x p) [a, b] [] pos) (e2 f2 fa fb) := by
  obtain ⟨ta, pa, sa⟩ := ha
  obtain ⟨tb, pb, sb⟩ := hb
  refine ⟨_, pe_callB hc hg hm hv (pa_cons pa (pa_cons pb pa_nil hs2) hs) hn hdb hs hpl, fun w σ H env st Q ok re post => ?_⟩
  refine sa w σ H env st _ ok re (Post.bind post fun x st1 w1 H1 v1 x1 ok1 r1 post1 => ?_)
  refine sb w1 σ H1 env st1 _ ok1 (x1.repE re) (Post.bind post1 fun y st2 w2 H2 v2 x2 ok2 r2 post2 => ?_)
  exact hf w2 H2 st2 v1 v2 x y Q ok2 (x2.repA r1) r2 post2
/-- a module's name for a built-in function -/
theorem se_m2 (hc : CallR X (.builtin id) r) (hf : OpS g E (fun x y => r [x, y]) f2) (ha : SE X g E a fa) (hb : SE X g E b fb) (hg : Gl X x) (hm : X.mg x = some (.builtin id)) (hdb : (x == ("__debug__" : PySem.Str)) = false := by decide)
    (hs : starEach [a, b] X.env = (false, eval a X.env) :: starEach [b] X.env := by rfl) (hs2 : starEach [b] X.env = (false, eval b X.env) :: starEach [] X.env := by rfl) (hpl : (backTo pos (starEach [b] X.env)).any (·.1) = false := by rfl) : SE X g E (.Call (.Name x p) [a, b] [] pos) (e2 f2 fa fb) := by
  obtain ⟨ta, pa, sa⟩ := ha
  obtain ⟨tb, pb, sb⟩ := hb
  refine ⟨_, pe_callBfun hc hg hm (pa_cons pa (pa_cons pb pa_nil hs2) hs) hdb hs hpl, fun w σ H env st Q ok re post => ?_⟩
  refine sa w σ H env st _ ok re (Post.bind post fun x st1 w1 H1 v1 x1 ok1 r1 post1 => ?_)
  refine sb w1 σ H1 env st1 _ ok1 (x1.repE re) (Post.bind post1 fun y st2 w2 H2 v2 x2 ok2 r2 post2 => ?_)
  exact hf w2 H2 st2 v1 v2 x y Q ok2 (x2.repA r1) r2 post2
theorem se_t1 (hc : CallR X (.type T) r) (hf : Op1S g E (fun x => r [x]) f) (ha : SE X g E a fa) (hg : Gl X x) (hm : X.mg x = none) (hv : bootBuiltins x = some (.type T)) (hn : x ≠ "__name__" := by decide) (hdb : (x == ("__debug__" : PySem.Str)) = false := by decide)
    (hs : starEach [a] X.env = (false, eval a X.env) :: starEach [] X.env := by rfl) : SE X g E (.Call (.Name x p) [a] [] pos) (e1 f fa) := by
  obtain ⟨ta, pa, sa⟩ := ha
  refine ⟨_, pe_callTy hc hg hm hv (pa_cons pa pa_nil hs) hn hdb hs (by rfl), fun w σ H env st Q ok re post => ?_⟩
  refine sa w σ H env st _ ok re (Post.bind post fun x st1 w1 H1 v1 x1 ok1 r1 post1 => ?_)
  exact hf w1 H1 st1 v1 x Q ok1 r1 post1
end

/-! ### int, abs, min, max, divmod, gcd -/
section
variable {X : L2.Cx} {w : Wd} {H : Hp}
theorem o_int : O1 intP (fun x => (fun xs H Q => (∃ i, xs = [V.int i] ∧ Q (.int i) H) ∨ ∃ k, xs = [V.bl k] ∧ Q (.int (if k then 1 else 0)) H) [x]) := fun w H st x p q Qv ok cx h fin => by
  cases p with
  | int i => cases h; exact .inl ⟨i, by rw [cur_int cx], fin w H _ Ext.refl ok Rep.int⟩
  | bl b => cases h; exact .inr ⟨b, by rw [Rep.bl_inv cx], fin w H _ Ext.refl ok Rep.int⟩
  | _ => cases h
theorem o_abs : O1 absP (fun x => (fun xs H Q => ∃ i, xs = [V.int i] ∧ Q (.int (if i < 0 then -i else i)) H) [x]) := fun w H st x p q Qv ok cx h fin => by
  cases p with
  | int i => cases h; exact ⟨i, by rw [cur_int cx], fin w H _ Ext.refl ok Rep.int⟩
  | _ => cases h
theorem o_min2 : O2 min2P (fun x y => (fun xs H Q => ∃ i j, xs = [V.int i, V.int j] ∧ Q (.int (if j < i then j else i)) H) [x, y]) := fun w H st x y p p' q Qv ok cx cy h fin => by
  cases p with
  | int i => cases p' with
    | int j => cases h; exact ⟨i, j, by rw [cur_int cx, cur_int cy], fin w H _ Ext.refl ok Rep.int⟩
    | _ => cases h
  | _ => cases h
theorem o_max2 : O2 max2P (fun x y => (fun xs H Q => ∃ i j, xs = [V.int i, V.int j] ∧ Q (.int (if j > i then j else i)) H) [x, y]) := fun w H st x y p p' q Qv ok cx cy h fin => by
  cases p with
  | int i => cases p' with
    | int j => cases h; exact ⟨i, j, by rw [cur_int cx, cur_int cy], fin w H _ Ext.refl ok Rep.int⟩
    | _ => cases h
  | _ => cases h
theorem o_gcd : O2 gcdP (fun x y => rGcd [x, y]) := fun w H st x y p p' q Qv ok cx cy h fin => by
  cases p with
  | int i => cases p' with
    | int j => cases h; exact ⟨i, j, by rw [cur_int cx, cur_int cy], fin w H _ Ext.refl ok Rep.int⟩
    | _ => cases h
  | _ => cases h
theorem o_divmod : O2 divmodP (fun x y => (fun xs H Q => ∃ i j, xs = [V.int i, V.int j] ∧ CDiv i j ∧ ∀ p, H p = none → Q (.ref p) (upd H p (.tup [.int (i / j), .int (i % j)]))) [x, y]) := fun w H st x y p p' q Qv ok cx cy h fin => by
  cases p with
  | int i => cases p' with
    | int j =>
      have h : (if decide (0 < j) && decide (j < 1073741824) then some (P.tup [.int (i / j), .int (i % j)]) else none) = some q := h
      split at h
      · rename_i hb
        obtain ⟨h1, h2⟩ := Bool.and_eq_true_iff.mp hb
        cases h
        exact ⟨i, j, by rw [cur_int cx, cur_int cy], ⟨of_decide_eq_true h1, of_decide_eq_true h2⟩, fun d hd => tup_post ok (.cons Rep.int (.cons Rep.int .nil)) fin d hd⟩
      · cases h
    | _ => cases h
  | _ => cases h

/-! ### len -/
def rLen (K : PySem.W.Frag) : List V → Hp → VK → Prop := fun xs H Q => (∃ x n, xs = [x] ∧ LenV K x H n ∧ Q (.int n) H) ∨ (∃ (a : Addr) (kvs : List (Key × V)), xs = [V.ref a] ∧ Rd H a (.dK kvs) ∧ Q (.int kvs.length) H) ∨ ∃ (a : Addr) (kvs : List (List Key × V)), xs = [V.ref a] ∧ Rd H a (.dT kvs) ∧ Q (.int kvs.length) H
theorem cr_len : CallR X (.builtin "len") (rLen X.K) := fun pins s σ H xs us Q I r h => by
  rcases h with h | ⟨a, kvs, rfl, hd, q⟩ | ⟨a, kvs, rfl, hd, q⟩
  · exact call_len pins s σ H xs us Q I r h
  · obtain ⟨u, rfl, rx⟩ := vals1 r
    obtain rfl : u = .ref a := rx
    exact d_len I hd fun t s' I' => ⟨.int _, H, I', ⟨_, rfl⟩, q⟩
  · obtain ⟨u, rfl, rx⟩ := vals1 r
    obtain rfl : u = .ref a := rx
    obtain ⟨z, hs, ys, rel, dd⟩ := dt_rd I.hok hd
    have hl : kvs.length = ys.length := Paired.length rel
    refine call_len_dictH hs dd (by rw [← hl]; rw [sizeLine_eq] at z; omega) ?_
    rw [← hl]
    exact ⟨.int _, H, I.tok _, ⟨_, rfl⟩, q⟩
theorem o_len {K : PySem.W.Frag} : O1 lenP (fun x => rLen K [x]) := fun w H st x p q Qv ok cx h fin => by
  cases p with
  | lst ps =>
    cases h
    obtain ⟨a, vs, e, s, r⟩ := cx
    subst e
    exact .inl ⟨_, vs.length, rfl, .inl ⟨vs, .inl s, rfl⟩, by rw [Paired.len r]; exact fin w H _ Ext.refl ok Rep.int⟩
  | tup ps =>
    cases h
    obtain ⟨a, vs, e, s, r⟩ := Rep.tup_inv cx
    subst e
    exact .inl ⟨_, vs.length, rfl, .inr ⟨vs, SqT.of s, rfl⟩, by rw [Paired.len r]; exact fin w H _ Ext.refl ok Rep.int⟩
  | str s =>
    have h : (if Nat.ble s.length 16777216 then some (P.int s.length) else none) = some q := h
    split at h
    · rename_i hl
      cases h
      rw [Rep.str_inv cx]
      exact .inl ⟨_, s.length, rfl, ⟨by rw [strLen, sizeLine_eq]; exact Nat.le_of_ble_eq_true hl, (strLen (s := s)).symm⟩, fin w H _ Ext.refl ok Rep.int⟩
    · cases h
  | dic t kvs =>
    cases h
    obtain ⟨a, e, r⟩ := cx
    subst e
    rcases r with ⟨_, es, h1, h2⟩ | ⟨_, es, h1, h2⟩
    · exact .inr (.inl ⟨a, es, rfl, h1, by rw [Paired.len h2]; exact fin w H _ Ext.refl ok Rep.int⟩)
    · exact .inr (.inr ⟨a, es, rfl, h1, by rw [Paired.len h2]; exact fin w H _ Ext.refl ok Rep.int⟩)
  | set xs => obtain ⟨n, h⟩ := (show Rep w.fz H x (.set xs) from cx); cases n <;> exact h.elim
  | _ => cases h

/-! ### sum, all, any -/
theorem sum_eq : ∀ {ps : List P}, sumI ps = (ps.map intOf).sum
  | [] => rfl
  | p :: r => by rw [sumI, List.map_cons, List.sum_cons, sum_eq (ps := r)]
theorem o_sum {K : PySem.W.Frag} : O1 sumP (fun x => rSum K [x]) := fun w H st x p q Qv ok cx h fin => by
  cases p with
  | lst ps =>
    have h : (if allP isIntP ps then some (P.int (sumI ps)) else none) = some q := h
    split at h
    · rename_i hb
      cases h
      obtain ⟨a, vs, e, s, r⟩ := cx
      subst e
      have e2 := ints_reps r hb
      subst e2
      exact ⟨a, ps.map intOf, rfl, .inl s, by rw [← sum_eq]; exact fin w H _ Ext.refl ok Rep.int⟩
    · cases h
  | _ => cases h
def blOf : P → Bool
  | .bl b => b
  | _ => false
theorem bls_reps : ∀ {vs : List V} {ps : List P}, Reps w.fz H vs ps → allP isBlP ps = true → vs = (ps.map blOf).map V.bl
  | _, _, .nil, _ => rfl
  | _, _, .cons (b := p) r t, h => by
    obtain ⟨h1, h2⟩ := Bool.and_eq_true_iff.mp h
    cases p with
    | bl b =>
      rw [Rep.bl_inv r, bls_reps t h2]
      rfl
    | _ => cases h1
theorem all_eq : ∀ {ps : List P}, allP isBlP ps = true → allP (isBl true) ps = (ps.map blOf).all id
  | [], _ => rfl
  | p :: r, h => by
    obtain ⟨h1, h2⟩ := Bool.and_eq_true_iff.mp h
    rw [allP, List.map_cons, List.all_cons, all_eq h2]
    cases p with
    | bl b => cases b <;> rfl
    | _ => cases h1
theorem any_eq : ∀ {ps : List P}, allP isBlP ps = true → anyP (isBl true) ps = (ps.map blOf).any id
  | [], _ => rfl
  | p :: r, h => by
    obtain ⟨h1, h2⟩ := Bool.and_eq_true_iff.mp h
    rw [anyP, List.map_cons, List.any_cons, any_eq h2]
    cases p with
    | bl b => cases b <;> rfl
    | _ => cases h1
theorem o_all {K : PySem.W.Frag} : O1 allO (fun x => rAll K [x]) := fun w H st x p q Qv ok cx h fin => by
  cases p with
  | lst ps =>
    have h : (if allP isBlP ps then some (P.bl (allP (isBl true) ps)) else none) = some q := h
    split at h
    · rename_i hb
      cases h
      obtain ⟨a, vs, e, s, r⟩ := cx
      subst e
      have e2 := bls_reps r hb
      subst e2
      exact ⟨a, ps.map blOf, rfl, .inl s, by rw [← all_eq hb]; exact fin w H _ Ext.refl ok Rep.bl⟩
    · cases h
  | _ => cases h
theorem o_any {K : PySem.W.Frag} : O1 anyO (fun x => rAny K [x]) := fun w H st x p q Qv ok cx h fin => by
  cases p with
  | lst ps =>
    have h : (if allP isBlP ps then some (P.bl (anyP (isBl true) ps)) else none) = some q := h
    split at h
    · rename_i hb
      cases h
      obtain ⟨a, vs, e, s, r⟩ := cx
      subst e
      have e2 := bls_reps r hb
      subst e2
      exact ⟨a, ps.map blOf, rfl, .inl s, by rw [← any_eq hb]; exact fin w H _ Ext.refl ok Rep.bl⟩
    · cases h
  | _ => cases h

/-! ### tuple, list -/
theorem o_tuple {K : PySem.W.Frag} : O1 tupleOf (fun x => (fun xs H Q => ∃ p ys, xs = [V.ref p] ∧ ((SqL K H p ys ∧ ∀ l, H l = none → Q (.ref l) (upd H l (.tup ys))) ∨ (SqT K H p ys ∧ Q (.ref p) H))) [x]) := fun w H st x p q Qv ok cx h fin => by
  cases p with
  | lst ps =>
    cases h
    obtain ⟨a, vs, e, s, r⟩ := cx
    subst e
    exact ⟨a, vs, rfl, .inl ⟨.inl s, fun d hd => tup_post ok r fin d hd⟩⟩
  | tup ps =>
    cases h
    obtain ⟨a, vs, e, s, r⟩ := Rep.tup_inv cx
    subst e
    exact ⟨a, vs, rfl, .inr ⟨SqT.of s, fin w H _ Ext.refl ok (Rep.tup s r)⟩⟩
  | _ => cases h
def rListA (K : PySem.W.Frag) : List V → Hp → VK → Prop := fun xs H Q => (∃ p ys, xs = [V.ref p] ∧ (SqL K H p ys ∨ SqT K H p ys) ∧ ∀ l, H l = none → Q (.ref l) (upd H l (.lst ys))) ∨
  (∃ (a : Addr) (kvs : List (Key × V)), xs = [.ref a] ∧ Rd H a (.dK kvs) ∧ ∀ p, H p = none → Q (.ref p) (upd H p (.lst (kvs.map fun kv => kV kv.1)))) ∨
  (∃ d kvs, xs = [V.ref d] ∧ Rd H d (.dT kvs) ∧ ∀ p bs, H p = none → IsKeys H kvs bs → Q (.ref p) (upd H p (.lst (bs.map V.ref))))
theorem cr_list (hc : X.calm = true) : CallR X (.type "list") (rListA X.K) := call_list_of.or ((call_listD hc).or (call_list_dT hc))
theorem isKeys_reps {F : Fz} : ∀ {es : List (List Key × V)} {bs : List Addr} {kvs : List (P × P)}, IsKeys H es bs → Paired (fun (e : List Key × V) (q : P × P) => (∃ ps, q.1 = .tup ps ∧ keysV ps = some e.1) ∧ Rep F H e.2 q.2) es kvs → Reps F H (bs.map V.ref) (kvs.map (·.1))
  | _, _, _, .nil, .nil => .nil
  | _, _, _, .cons k ks, .cons (b := q) r rs => by
    refine .cons ?_ (isKeys_reps ks rs)
    obtain ⟨⟨ps, e1, e2⟩, _⟩ := r
    show Rep F H _ q.1
    rw [e1]
    exact Rep.tup k (keys_reps e2)
theorem o_list {K : PySem.W.Frag} : O1L listOf (fun x => rListA K [x]) := fun w H st x p xs Qv ok cx h fin => by
  cases p with
  | lst ps =>
    cases h
    obtain ⟨a, vs, e, s, r⟩ := cx
    subst e
    exact .inl ⟨a, vs, rfl, .inl (.inl s), fun d hd => fin vs r d hd⟩
  | tup ps =>
    cases h
    obtain ⟨a, vs, e, s, r⟩ := Rep.tup_inv cx
    subst e
    exact .inl ⟨a, vs, rfl, .inr (SqT.of s), fun d hd => fin vs r d hd⟩
  | dic t kvs =>
    cases h
    obtain ⟨a, e, r⟩ := cx
    subst e
    rcases r with ⟨_, es, h1, h2⟩ | ⟨_, es, h1, h2⟩
    · refine .inr (.inl ⟨a, es, rfl, h1, fun d hd => fin _ ?_ d hd⟩)
      clear h1 fin
      induction h2 with
      | nil => exact .nil
      | cons r t ih => exact .cons (key_rep r.1) ih
    · exact .inr (.inr ⟨a, es, rfl, h1, fun d bs hd hk => fin _ (isKeys_reps hk h2) d hd⟩)
  | _ => cases h
theorem listOf_lst : ∀ p q, listOf p = some q → ∃ xs, q = .lst xs := fun p q h => by
  cases p <;> first | (cases h; exact ⟨_, rfl⟩) | cases h
end

/-! ### isinstance -/
def Ty.nm : Ty → String
  | .int => "int" | .bool => "bool" | .str => "str" | .tuple => "tuple" | .list => "list" | .dict => "dict" | .set => "set"
section
variable {X : L2.Cx} {g : Gc} {E : XK} {a : Expr} {fa : Ex} {p p2 pos : Pos} {x : PySem.Str}
theorem ty_of {K : PySem.W.Frag} {w : Wd} {H : Hp} {x : V} {p : P} {t : Ty} {k : Bool} (cx : Cur w H x p) (h : isTy t p = some k) : ∃ u : String, TyX K H x (.type u) ∧ PySem.W.kitOne K (.type u) (.type t.nm) = some k := by
  cases p with
  | non => cases h; cases Rep.non_inv cx; exact ⟨_, .base .non, kit_ty (by cases t <;> decide +kernel)⟩
  | bl b => cases h; cases Rep.bl_inv cx; exact ⟨_, .base (.bl b), kit_ty (by cases t <;> decide +kernel)⟩
  | int i => cases h; cases Rep.int_inv cx; exact ⟨_, .base (.int i), kit_ty (by cases t <;> decide +kernel)⟩
  | str s => cases h; cases Rep.str_inv cx; exact ⟨_, .base (.str _), kit_ty (by cases t <;> decide +kernel)⟩
  | tup ps =>
    cases h
    obtain ⟨a, vs, e, s, r⟩ := Rep.tup_inv cx
    subst e
    exact ⟨_, .base (.tup s), kit_ty (by cases t <;> decide +kernel)⟩
  | lst ps =>
    cases h
    obtain ⟨a, vs, e, s, r⟩ := cx
    subst e
    rcases s with s | ⟨o, s⟩
    · exact ⟨_, .base (.lst s), kit_ty (by cases t <;> decide +kernel)⟩
    · exact ⟨_, .base (.frz s), kit_ty (by cases t <;> decide +kernel)⟩
  | dic b kvs =>
    cases b with
    | true => cases h
    | false =>
      cases h
      obtain ⟨a, e, r⟩ := cx
      subst e
      rcases r with ⟨_, es, h1, h2⟩ | ⟨z, _⟩
      · rcases h1 with h1 | ⟨o, h1⟩
        · exact ⟨_, .base (.dK h1), kit_ty (by cases t <;> decide +kernel)⟩
        · exact ⟨_, .fDict h1, kit_ty (by cases t <;> decide +kernel)⟩
      · cases z
  | set xs => cases h
theorem sb_isi {t : Ty} (ha : SE X g E a fa) (hg : Gl X "isinstance") (hm : X.mg "isinstance" = none) (hg2 : Gl X x) (hm2 : X.mg x = none) (hv2 : bootBuiltins x = some (.type t.nm)) (hn : x ≠ "__name__" := by decide) (hdb : (x == ("__debug__" : PySem.Str)) = false := by decide)
    (hs : starEach [a, .Name x p2] X.env = (false, eval a X.env) :: starEach [.Name x p2] X.env := by rfl) (hs2 : starEach [.Name x p2] X.env = (false, eval (.Name x p2) X.env) :: starEach [] X.env := by rfl) (hpl : (backTo pos (starEach [.Name x p2] X.env)).any (·.1) = false := by rfl) :
    SB X g E (.Call (.Name "isinstance" p) [a, .Name x p2] [] pos) (isI t fa) := by
  obtain ⟨ta, pa, sa⟩ := ha
  refine ⟨_, pe_callB call_isi hg hm boot_isinstance (pa_cons pa (pa_cons (pe_bltn (v := .ty t.nm) hg2 hm2 hv2 rfl hn hdb) pa_nil hs2) hs) (by decide) (by decide) hs hpl, fun w σ H env st Q Qv ok re post hq => ?_⟩
  refine sa w σ H env st _ ok re (Post.bind post fun y st1 w1 H1 v1 x1 ok1 r1 post1 => ?_)
  have post1 : Post g E relB w1 H1 (match now y st1 with
    | some p => opt (isTy t p) st1
    | none => .no) Q := post1
  cases q : now y st1 with
  | none => rw [q] at post1; exact post1.elim
  | some q' =>
    rw [q] at post1
    have post1 : Post g E relB w1 H1 (opt (isTy t q') st1) Q := post1
    cases z : isTy t q' with
    | none => rw [z] at post1; exact post1.elim
    | some k =>
      rw [z] at post1
      obtain ⟨u, t1, t2⟩ := ty_of (K := X.K) (now_cur ok1 r1 q) z
      exact ⟨v1, .ty t.nm, .type u, .type t.nm, k, rfl, .ty _, t1, t2, hq k H1 (post1 w1 H1 k Ext.refl ok1 rfl)⟩
end
end Rt

set_option Elab.async false
set_option linter.all false
set_option maxRecDepth 100000
set_option autoImplicit false
set_option maxHeartbeats 4000000
namespace Rt
open PySem PySem.Spec PyProof.Rows L2

/-! ### a[i] -/
section
variable {X : L2.Cx} {w : Wd} {H : Hp}
theorem nth_eq : ∀ (ps : List P) (n : Nat), nth ps n = ps[n]?
  | [], n => by simp [nth]
  | p :: r, 0 => rfl
  | p :: r, n + 1 => by rw [nth, nth_eq r n]; simp
theorem ixN_eq (n : Nat) (i : Int) : Rt.ixN n i = L2.ixN n i := by
  unfold Rt.ixN L2.ixN
  cases i with
  | ofNat k =>
    show (if Nat.blt k n = true then some k else none) = if (0 : Int) ≤ (k : Int) then (if (k : Int) < (n : Int) then some (k : Int).toNat else none) else _
    rw [if_pos (Int.natCast_nonneg k)]
    by_cases h : k < n
    · have h1 : Nat.blt k n = true := Nat.ble_eq_true_of_le h
      rw [if_pos h1, if_pos (by omega), Int.toNat_natCast]
    · have h1 : ¬ Nat.blt k n = true := fun z => h (Nat.le_of_ble_eq_true z)
      rw [if_neg h1, if_neg (by omega)]
  | negSucc k =>
    show (if Nat.ble (k + 1) n = true then some (n - (k + 1)) else none) = if (0 : Int) ≤ Int.negSucc k then _ else if -(n : Int) ≤ Int.negSucc k then some (Int.negSucc k + n).toNat else none
    rw [if_neg (show ¬ (0 : Int) ≤ Int.negSucc k from by omega)]
    by_cases h : k + 1 ≤ n
    · rw [if_pos (Nat.ble_eq_true_of_le h), if_pos (by omega)]
      congr 1
      omega
    · rw [if_neg (fun z => h (Nat.le_of_ble_eq_true z)), if_neg (by omega)]
theorem atI_of {vs : List V} {ps : List P} {i : Int} {q : P} (r : Reps w.fz H vs ps) (h : (Rt.ixN ps.length i).bind (nth ps) = some q) : ∃ v, atI vs i = some v ∧ Rep w.fz H v q := by
  cases e : Rt.ixN ps.length i with
  | none => rw [e] at h; cases h
  | some j =>
    rw [e] at h
    have h : nth ps j = some q := h
    rw [nth_eq] at h
    obtain ⟨v, h1, h2⟩ := Paired.at_ r h
    refine ⟨v, ?_, h2⟩
    unfold atI
    rw [Paired.len r, ← ixN_eq, e]
    exact h1
def rIxD : R2 := fun x y H Q => ∃ a v, x = .ref a ∧ DGet H a y (some v) ∧ Q v H
theorem ix_dict (hu : X.A.units + 1 < cLine) : IxR X rIxD := by
  intro value slice pins s σ H x y v u Q I rx ry h hs
  obtain ⟨a, z, rfl, g, q⟩ := h
  obtain rfl : v = Value.ref a := rx
  exact tail_any (ops := [.ref a, u]) (dict_typeIs I g) PySem.F.slot_dict_getitem.lookup (d_getItem hu I g ry fun w' s3 I3 rw' => ⟨z, H, I3, rw', q⟩) hs
def rIxA (K : PySem.W.Frag) : R2 := fun x y H Q => rIx K x y H Q ∨ rIxD x y H Q
theorem ix_any (hu : X.A.units + 1 < cLine) : IxR X (rIxA X.K) := ix_seq.or (ix_dict hu)
theorem o_ix {K : PySem.W.Frag} : O2 ixP (rIxA K) := fun w H st x y p p' q Qv ok cx cy h fin => by
  cases p with
  | lst ps =>
    cases p' with
    | int i =>
      obtain ⟨a, vs, e, s, r⟩ := cx
      obtain ⟨v, h1, h2⟩ := atI_of r h
      exact .inl (.inl ⟨a, vs, i, v, e, cur_int cy, .inl s, h1, fin w H v Ext.refl ok h2⟩)
    | _ => cases h
  | tup ps =>
    cases p' with
    | int i =>
      obtain ⟨a, vs, e, s, r⟩ := Rep.tup_inv cx
      obtain ⟨v, h1, h2⟩ := atI_of r h
      exact .inl (.inr (.inl ⟨a, vs, i, v, e, cur_int cy, SqT.of s, h1, fin w H v Ext.refl ok h2⟩))
    | _ => cases h
  | str t =>
    cases p' with
    | int i =>
      have h : (if Nat.ble t.length line then (Rt.ixN t.length i).bind fun k => (t[k]?).map fun c => P.str [c] else none) = some q := h
      split at h
      · rename_i hl
        cases e : Rt.ixN t.length i with
        | none => rw [e] at h; cases h
        | some j =>
          rw [e] at h
          have h : (t[j]?).map (fun c => P.str [c]) = some q := h
          cases e2 : t[j]? with
          | none => rw [e2] at h; cases h
          | some c =>
            rw [e2] at h
            cases h
            refine .inl (.inr (.inr ⟨_, i, c, Rep.str_inv cx, cur_int cy, by rw [strLen, ← line_eq]; exact Nat.le_of_ble_eq_true hl, ?_, fin w H _ Ext.refl ok Rep.str⟩))
            show (L2.ixN t.length i).bind (fun j => t[j]?) = some c
            rw [← ixN_eq, e]
            exact e2
      · cases h
    | _ => cases h
  | dic t kvs =>
    have h : (if keyOk t p' then lookD p' kvs else none) = some q := by cases p' <;> exact h
    split at h
    · rename_i hk
      obtain ⟨a, e, r⟩ := cx
      obtain ⟨o, g, _, h2⟩ := dget_of r cy hk
      obtain ⟨v, e2, rv⟩ := h2 q h
      subst e2
      exact .inr ⟨a, v, e, g, fin w H v Ext.refl ok rv⟩
    · cases h
  | set xs => obtain ⟨n, h⟩ := (show Rep w.fz H x (.set xs) from cx); cases n <;> exact h.elim
  | _ => cases h
end
section
variable {X : L2.Cx} {g : Gc} {E : XK} {a b : Expr} {fa fb : Ex} {pos : Pos}
theorem se_ix (hu : X.A.units + 1 < cLine) (ha : SE X g E a fa) (hb : SE X g E b fb) (hs : PlainIx b := by intro _ _; rfl) : SE X g E (.Subscript a b pos) (e2 (rd2 ixP) fa fb) := by
  obtain ⟨ta, pa, sa⟩ := ha
  obtain ⟨tb, pb, sb⟩ := hb
  exact ⟨_, pe_ix (ix_any hu) pa pb hs, sim2 sa sb o_ix.op⟩
end

/-! ### slices -/
theorem sIx_eq (n d : Nat) (o : Option Int) : HT.sIx n d o = slIx n d o := by
  cases o with
  | none => rfl
  | some v =>
    cases v with
    | ofNat k =>
      show (if (k : Int) < 0 then ((k : Int) + (n : Int)).toNat else min (k : Int).toNat n) = min k n
      rw [if_neg (by omega), Int.toNat_natCast]
    | negSucc k =>
      show (if Int.negSucc k < 0 then (Int.negSucc k + (n : Int)).toNat else _) = n - (k + 1)
      rw [if_pos (Int.negSucc_lt_zero k)]
      omega
section
variable {X : L2.Cx} {w : Wd} {H : Hp}
theorem cut_reps {vs : List V} {ps : List P} {lo hi : Option Int} (r : Reps w.fz H vs ps) : Reps w.fz H (cutV vs lo hi) (cut ps lo hi) := by
  unfold cutV cut
  rw [sIx_eq, sIx_eq, Paired.len r]
  exact Paired.take_ _ (Paired.drop_ _ r)
def rSlAny (K : PySem.W.Frag) : V → Option Int → Option Int → Hp → VK → Prop := fun x lo hi H Q => rSlL K x lo hi H Q ∨ rSlA K x lo hi H Q ∨ rSlS x lo hi H Q
theorem sl_any : SlR X (rSlAny X.K) := sl_list.or (sl_tupA.or sl_str)
theorem cut_all {ps : List P} {lo hi : Option Int} (h1 : slIx ps.length 0 lo = 0) (h2 : slIx ps.length ps.length hi = ps.length) : cut ps lo hi = ps := by
  unfold cut
  simp only [h1, h2, List.drop_zero, Nat.sub_zero, List.take_length]
/-- what a slice is worth -/
theorem slice_ways {K : PySem.W.Frag} {st : Sto} {x : V} {p q : P} {lo hi : Option Int} {Qv : VK} (ok : Ok w H st) (cx : Cur w H x p) (h : slP p lo hi = some q) (fin : ∀ w' H' v, Ext w w' H H' → Ok w' H' st → Rep w'.fz H' v q → Qv v H') (finL : ∀ xs, q = .lst xs → ∀ vs, Reps w.fz H vs xs → ∀ d, H d = none → Qv (.ref d) (upd H d (.lst vs))) : rSlAny K x lo hi H Qv := by
  cases p with
  | lst ps =>
    cases h
    obtain ⟨a, vs, e, s, r⟩ := cx
    exact .inl ⟨a, vs, e, .inl s, fun d hd => finL _ rfl _ (cut_reps r) d hd⟩
  | tup ps =>
    cases h
    obtain ⟨a, vs, e, s, r⟩ := Rep.tup_inv cx
    refine .inr (.inl ⟨a, vs, e, SqT.of s, fun ⟨h1, h2⟩ => ?_, fun _ d hd => tup_post ok (cut_reps r) fin d hd⟩)
    rw [sIx_eq, Paired.len r] at h1 h2
    rw [cut_all h1 h2] at fin
    exact fin w H _ Ext.refl ok (Rep.tup s r)
  | str t =>
    have h : (if Nat.ble t.length line then some (P.str (cut t lo hi)) else none) = some q := h
    split at h
    · rename_i hl
      cases h
      refine .inr (.inr ⟨_, Rep.str_inv cx, by rw [strLen, ← line_eq]; exact Nat.le_of_ble_eq_true hl, ?_⟩)
      have e : cutS ⟨t.toArray⟩ lo hi = ⟨(cut t lo hi).toArray⟩ := by
        unfold cutS cut
        rw [strLen, sIx_eq, sIx_eq]
      rw [e]
      exact fin w H _ Ext.refl ok Rep.str
    · cases h
  | _ => cases h
end
abbrev relO : Wd → Hp → Option Int → Option Int → Prop := fun _ _ a b => a = b
structure SO (X : L2.Cx) (g : Gc) (E : XK) (e : Option Expr) (f : Option Ex) : Prop where
  ex : ∃ t, PO X e t ∧ Sim g E relO t (evO f)
section
variable {X : L2.Cx} {g : Gc} {E : XK} {a e : Expr} {fa f : Ex} {pos p2 : Pos} {lo hi : Option Expr} {fl fh : Option Ex}
theorem so_none : SO X g E none none := ⟨_, po_none, fun w σ H env st Q ok re post => post w H none Ext.refl ok rfl⟩
theorem so_some (h : SE X g E e f) : SO X g E (some e) (some f) := by
  obtain ⟨t, p, s⟩ := h
  refine ⟨_, po_some p, fun w σ H env st Q ok re post => ?_⟩
  refine s w σ H env st _ ok re (Post.bind post fun x st1 w1 H1 v1 x1 ok1 r1 post1 => ?_)
  cases x with
  | r n => exact post1.elim
  | v p =>
    cases p with
    | int i => exact ⟨i, repA_int r1, post1 w1 H1 _ Ext.refl ok1 rfl⟩
    | _ => exact post1.elim
theorem se_slice (ha : SE X g E a fa) (hl : SO X g E lo fl) (hh : SO X g E hi fh) : SE X g E (.Subscript a (.Slice lo hi none p2) pos) (eSlice fa fl fh) := by
  obtain ⟨ta, pa, sa⟩ := ha
  obtain ⟨tl, pl, sl⟩ := hl
  obtain ⟨th, ph, sh⟩ := hh
  refine ⟨_, pe_slice sl_any pa pl ph, fun w σ H env st Q ok re post => ?_⟩
  refine sa w σ H env st _ ok re (Post.bind post fun x st1 w1 H1 v1 x1 ok1 r1 post1 => ?_)
  refine sl w1 σ H1 env st1 _ ok1 (x1.repE re) (Post.bind post1 fun l st2 w2 H2 l2 x2 ok2 r2 post2 => ?_)
  refine sh w2 σ H2 env st2 _ ok2 (x2.repE (x1.repE re)) (Post.bind post2 fun u st3 w3 H3 u3 x3 ok3 r3 post3 => ?_)
  have e1 : l2 = l := r2
  have e2 : u3 = u := r3
  subst e1 e2
  obtain ⟨p, q, e, cx, fin⟩ := rd1_inv ok3 (x3.repA (x2.repA r1)) post3
  exact slice_ways ok3 cx e fin fun xs eq vs rs d hd => by
    subst eq
    exact lst_post ok3 rs (fun w' H' v x ok' r' => fin w' H' v x ok' r') d hd
theorem se_sliceR (ha : SE X g E a fa) (hl : SO X g E lo fl) (hh : SO X g E hi fh) : SE X g E (.Subscript a (.Slice lo hi none p2) pos) (eSliceR fa fl fh) := by
  obtain ⟨ta, pa, sa⟩ := ha
  obtain ⟨tl, pl, sl⟩ := hl
  obtain ⟨th, ph, sh⟩ := hh
  refine ⟨_, pe_slice sl_any pa pl ph, fun w σ H env st Q ok re post => ?_⟩
  refine sa w σ H env st _ ok re (Post.bind post fun x st1 w1 H1 v1 x1 ok1 r1 post1 => ?_)
  refine sl w1 σ H1 env st1 _ ok1 (x1.repE re) (Post.bind post1 fun l st2 w2 H2 l2 x2 ok2 r2 post2 => ?_)
  refine sh w2 σ H2 env st2 _ ok2 (x2.repE (x1.repE re)) (Post.bind post2 fun u st3 w3 H3 u3 x3 ok3 r3 post3 => ?_)
  have e1 : l2 = l := r2
  have e2 : u3 = u := r3
  subst e1 e2
  obtain ⟨p, xs, e, cx, fin⟩ := rd1F_inv ok3 (x3.repA (x2.repA r1)) post3
  have hp : ∃ ps, p = .lst ps := by
    cases p with
    | lst ps => exact ⟨ps, rfl⟩
    | tup ps => cases e
    | str t =>
      have e : (if Nat.ble t.length line then some (P.str (cut t l2 u3)) else none) = some (P.lst xs) := e
      split at e <;> cases e
    | _ => cases e
  obtain ⟨ps, hp⟩ := hp
  subst hp
  cases e
  obtain ⟨ad, vs, e3, s3, r3⟩ := cx
  exact .inl ⟨ad, vs, e3, .inl s3, fun d hd => new_post ok3 (cut_reps r3) fin d hd⟩
end
end Rt

set_option Elab.async false
set_option linter.all false
set_option maxRecDepth 100000
set_option autoImplicit false
set_option maxHeartbeats 4000000
namespace Rt
open PySem PySem.Spec PyProof.Rows L2

/-! ### a cell is written -/
section
variable {w : Wd} {H : Hp} {st : Sto}
theorem Ok.wrote (ok : Ok w H st) {n : Nat} {a : Addr} {c : Cell} {o o' : HO} (hm : w.mu[n]? = some a) (hc : st[n]? = some c) (nf : ¬ w.fz a) (hH : H a = some o) (ht : ∀ xs, o ≠ .tup xs) (hz : ∀ q u, o ≠ .frz q u) :
    Ext w w H (upd H a o') ∧ ∀ c', CellOk w (upd H a o') a c' → Ok w (upd H a o') (st.set n c') := by
  have x : Ext w w H (upd H a o') := by
    refine ⟨fun b f => ⟨f, fun v e => .inl ?_⟩, fun b xs e => ?_, fun b q v e => ?_, fun _ _ e => e, rfl, fun b k => ?_, fun a => ⟨upd_none, .inl⟩⟩
    · rw [upd_ne fun z => nf (by rw [← z]; exact f)]; exact e
    · rw [upd_ne fun z => by rw [z, hH] at e; cases e; exact ht _ rfl]; exact e
    · rw [upd_ne fun z => by rw [z, hH] at e; cases e; exact hz _ _ rfl]; exact e
    · exact upd_ne fun z => (ok.kp b k).1 (by rw [z]; exact List.mem_of_getElem? hm)
  refine ⟨x, fun c' hc' => ⟨fun b f => ?_, by rw [List.length_set]; exact ok.len, fun m d b e1 e2 => ?_, ok.nd, fun b k => ?_⟩⟩
  · obtain ⟨v, e⟩ := ok.wok b f
    exact ⟨v, by rw [upd_ne fun z => nf (by rw [← z]; exact f)]; exact e⟩
  · by_cases hmn : m = n
    · subst hmn
      rw [hm] at e2; cases e2
      rw [List.getElem?_set_self (List.getElem?_eq_some_iff.mp hc).1] at e1
      cases e1
      exact hc'
    · rw [List.getElem?_set_ne (Ne.symm hmn)] at e1
      have hb : b ≠ a := fun e => by
        subst e
        obtain ⟨h1, e3⟩ := List.getElem?_eq_some_iff.mp hm
        obtain ⟨h2, e4⟩ := List.getElem?_eq_some_iff.mp e2
        exact hmn ((List.getElem_inj ok.nd).mp (e4.trans e3.symm))
      exact (ok.cells m d b e1 e2).keep x (upd_ne hb) fun z => z
  · obtain ⟨k1, k2, v, e⟩ := ok.kp b k
    exact ⟨k1, k2, v, by rw [upd_ne fun z => k1 (by rw [z]; exact List.mem_of_getElem? hm)]; exact e⟩
/-- the list in a cell -/
theorem Ok.at_l (ok : Ok w H st) {v : V} {n : Nat} {xs : List P} (ra : RepA w H v (.r n)) (h : lookC st n = some (.l xs)) : ∃ a vs, v = .ref a ∧ w.mu[n]? = some a ∧ st[n]? = some (.l xs) ∧ ¬ w.fz a ∧ H a = some (.lst vs) ∧ Reps w.fz H vs xs := by
  obtain ⟨a, e, ex⟩ := ra
  rw [lookC_eq] at h
  obtain ⟨nf, vs, e2, r⟩ := ok.cells n _ a h e
  exact ⟨a, vs, ex, e, h, nf, e2, r⟩
theorem Ok.put_l (ok : Ok w H st) {n : Nat} {a : Addr} {xs ys : List P} {vs us : List V} (hm : w.mu[n]? = some a) (hc : st[n]? = some (.l xs)) (nf : ¬ w.fz a) (hH : H a = some (.lst vs)) (r : Reps w.fz H us ys) :
    Ext w w H (upd H a (.lst us)) ∧ Ok w (upd H a (.lst us)) (putC st n (.l ys)) := by
  obtain ⟨x, k⟩ := ok.wrote (o' := .lst us) hm hc nf hH (fun _ z => nomatch z) fun _ _ z => nomatch z
  rw [putC_eq]
  exact ⟨x, k _ ⟨nf, us, upd_same, x.reps r⟩⟩
/-- the dict in a cell -/
theorem Ok.at_d (ok : Ok w H st) {v : V} {n : Nat} {t : Bool} {kvs : List (P × P)} (ra : RepA w H v (.r n)) (h : lookC st n = some (.d t kvs)) : ∃ a, v = .ref a ∧ w.mu[n]? = some a ∧ st[n]? = some (.d t kvs) ∧ ¬ w.fz a ∧ (∀ o u, H a ≠ some (.frz o u)) ∧ Kvs w.fz H a t kvs := by
  obtain ⟨a, e, ex⟩ := ra
  rw [lookC_eq] at h
  obtain ⟨nf, r, nz⟩ := ok.cells n _ a h e
  exact ⟨a, ex, e, h, nf, nz, r⟩
end

/-! ### a dict's pairs behind a store -/
section
variable {w : Wd} {H : Hp}
theorem any_rel {κ : Type} [DecidableEq κ] {p : P} {k : κ} {Z : κ × V → P × P → Prop} (hz : ∀ e q, Z e q → eqN deep q.1 p = decide (e.1 = k)) : ∀ {es : List (κ × V)} {kvs : List (P × P)}, Paired Z es kvs → anyD p kvs = es.any fun kv => decide (kv.1 = k)
  | _, _, .nil => rfl
  | _, _, .cons (a := e) (b := q) r t => by
    obtain ⟨q1, q2⟩ := q
    rw [List.any_cons, ← any_rel hz t, ← hz e _ r]
    rfl
theorem repl_rel {κ : Type} [DecidableEq κ] {p v : P} {k : κ} {u : V} {Z : κ → P → Prop} (hz : ∀ e q, Z e q → eqN deep q p = decide (e = k)) (rv : Rep w.fz H u v) : ∀ {es : List (κ × V)} {kvs : List (P × P)}, Paired (fun e q => Z e.1 q.1 ∧ Rep w.fz H e.2 q.2) es kvs →
    Paired (fun e q => Z e.1 q.1 ∧ Rep w.fz H e.2 q.2) (es.map fun kv => if kv.1 = k then (kv.1, u) else kv) (replD p v kvs)
  | _, _, .nil => .nil
  | _, _, .cons (a := e) (b := q) r t => by
    obtain ⟨q1, q2⟩ := q
    refine .cons ?_ (repl_rel hz rv t)
    have z := hz e.1 q1 r.1
    dsimp only
    by_cases h : e.1 = k
    · rw [if_pos h]
      rw [decide_eq_true h] at z
      refine ⟨r.1, ?_⟩
      show Rep w.fz H u (if eqN deep q1 p = true then v else q2)
      rw [if_pos z]
      exact rv
    · rw [if_neg h]
      rw [decide_eq_false h] at z
      refine ⟨r.1, ?_⟩
      show Rep w.fz H e.2 (if eqN deep q1 p = true then v else q2)
      rw [if_neg (by rw [z]; exact Bool.false_ne_true)]
      exact r.2
theorem put_rel {κ : Type} [DecidableEq κ] {p v : P} {k : κ} {u : V} {Z : κ → P → Prop} (hz : ∀ e q, Z e q → eqN deep q p = decide (e = k)) (hk : Z k p) (rv : Rep w.fz H u v) {es : List (κ × V)} {kvs : List (P × P)} (r : Paired (fun e q => Z e.1 q.1 ∧ Rep w.fz H e.2 q.2) es kvs) :
    Paired (fun e q => Z e.1 q.1 ∧ Rep w.fz H e.2 q.2) (putK es k u) (putD p v kvs) := by
  have ha := any_rel (k := k) (p := p) (Z := fun e q => Z e.1 q.1) (fun e q z => hz _ _ z) (Paired.imp r fun _ _ z => z.1)
  unfold putK putD
  rw [ha]
  cases h : es.any fun kv => decide (kv.1 = k) with
  | true =>
    simp only [if_true]
    exact repl_rel hz rv r
  | false =>
    simp only [Bool.false_eq_true, if_false]
    exact Paired.app r (.cons ⟨hk, rv⟩ .nil)
theorem put_len_le {p v : P} {kvs : List (P × P)} {es : List (Key × V)} : True := trivial
/-- pairs with the keys ints and texts -/
abbrev PkK (F : Fz) (H : Hp) : List (Key × V) → List (P × P) → Prop := Paired fun e q => keyV q.1 = some e.1 ∧ Rep F H e.2 q.2
abbrev PkT (F : Fz) (H : Hp) : List (List Key × V) → List (P × P) → Prop := Paired fun e q => (∃ ps, q.1 = .tup ps ∧ keysV ps = some e.1) ∧ Rep F H e.2 q.2
theorem putK_rel {p v : P} {k : Key} {u : V} {es : List (Key × V)} {kvs : List (P × P)} (hk : keyV p = some k) (rv : Rep w.fz H u v) (r : PkK w.fz H es kvs) : PkK w.fz H (putK es k u) (putD p v kvs) :=
  put_rel (Z := fun e q => keyV q = some e) (fun e q z => key_eq z hk) hk rv r
theorem putT_rel {ps : List P} {v : P} {k : List Key} {u : V} {es : List (List Key × V)} {kvs : List (P × P)} (hk : keysV ps = some k) (rv : Rep w.fz H u v) (r : PkT w.fz H es kvs) : PkT w.fz H (putK es k u) (putD (.tup ps) v kvs) :=
  put_rel (Z := fun e q => ∃ ps, q = .tup ps ∧ keysV ps = some e) (fun e q z => by
    obtain ⟨qs, e1, e2⟩ := z
    rw [e1]
    exact keys_eq e2 hk) ⟨ps, rfl, hk⟩ rv r
theorem keyOk_K {p : P} (h : keyOk false p = true) : ∃ k, keyV p = some k := by
  have ha : keyAtom p = true := by
    cases p <;> first
      | exact h
      | (cases h; done)
  exact keyV_ok ha
theorem keyOk_T {p : P} (h : keyOk true p = true) : ∃ ps k, p = .tup ps ∧ keysV ps = some k := by
  cases p with
  | tup ps =>
    obtain ⟨ks, ek⟩ := keysV_ok (show allP keyAtom ps = true from h)
    exact ⟨ps, ks, rfl, ek⟩
  | _ => cases h
theorem putAll_K : ∀ {more : List (P × P)} {ms : List (Key × V)} {es : List (Key × V)} {kvs : List (P × P)}, PkK w.fz H ms more → PkK w.fz H es kvs → PkK w.fz H (mergeK es ms) (putAll kvs more)
  | _, _, _, _, .nil, r => r
  | _, _, _, _, .cons (a := e) (b := q) h t, r => by
    obtain ⟨q1, q2⟩ := q
    exact (show PkK w.fz H (mergeK (putK _ e.1 e.2) _) (putAll (putD q1 q2 _) _) from putAll_K t (putK_rel h.1 h.2 r))
end

/-! ### o[i] = v -/
def rSetD : V → V → V → Hp → (Hp → Prop) → Prop := fun o i v H Q => ∃ a H', o = .ref a ∧ DPut H a i v H' ∧ Q H'
def rSetA : V → V → V → Hp → (Hp → Prop) → Prop := fun o i v H Q => rSetL o i v H Q ∨ rSetD o i v H Q
section
variable {X : L2.Cx} {g : Gc} {E : XK}
theorem set_dict (hu : X.A.units + 1 < cLine) : PSet X rSetD := by
  intro pins s σ H o i v ov iv u Q I ro ri rv h
  obtain ⟨a, H', rfl, gp, q⟩ := h
  obtain rfl : ov = Value.ref a := ro
  exact d_setItem hu I gp ri rv fun s' I' => ⟨H', I', q⟩
theorem set_any (hu : X.A.units + 1 < cLine) : PSet X rSetA := by
  intro pins s σ H o i v ov iv u Q I ro ri rv h
  rcases h with h | h
  · exact set_list pins s σ H o i v ov iv u Q I ro ri rv h
  · exact set_dict hu pins s σ H o i v ov iv u Q I ro ri rv h
theorem set_post {w : Wd} {H : Hp} {st : Sto} {x y v : V} {o i : A} {p : P} {env : En} {σ : L2.St} {Q : L2.St → Hp → Prop} (ok : Ok w H st) (re : RepE w H σ env) (ro : RepA w H x o) (ri : RepA w H y i) (rv : Rep w.fz H v p)
    (post : Post g E relG w H (Rt.bind (setAt o i p) (fun _ => ret env) st) (fun σ' H' => Agree [] σ σ' → Q σ' H')) : rSetA x y v H fun H' => Q σ H' := by
  have fin : ∀ {H' : Hp} {st' : Sto}, Ext w w H H' → Ok w H' st' → (∀ w' H'' b, Ext w w' H H'' → Ok w' H'' st' → RepE w' H'' b env → Agree [] σ b → Q b H'') → Q σ H' := fun x ok' q => q w _ σ x ok' (x.repE re) Agree.refl
  unfold Rt.bind setAt at post
  cases o with
  | v _ => exact post.elim
  | r n =>
    cases i with
    | r _ => exact post.elim
    | v k =>
      simp only at post
      cases hl : lookC st n with
      | none => rw [hl] at post; exact post.elim
      | some c =>
        rw [hl] at post
        cases c with
        | l xs =>
          obtain ⟨a, vs, ex, hm, hc, nf, hH, r⟩ := ok.at_l ro hl
          cases k with
          | int j =>
            simp only at post
            cases hi : Rt.ixN xs.length j with
            | none => rw [hi] at post; exact post.elim
            | some m =>
              rw [hi] at post
              obtain ⟨x1, ok1⟩ := ok.put_l hm hc nf hH (Paired.set_ rv m r)
              exact .inl ⟨a, vs, j, m, ex, Rep.int_inv ri, hH, by rw [← ixN_eq, Paired.len r]; exact hi, fin x1 ok1 post⟩
          | _ => exact post.elim
        | d t kvs =>
          simp only at post
          obtain ⟨a, ex, hm, hc, nf, nz, kv⟩ := ok.at_d ro hl
          cases hk : (keyOk t k && Nat.blt kvs.length line) with
          | false => rw [hk] at post; exact post.elim
          | true =>
            rw [hk] at post
            obtain ⟨hk1, hk2⟩ := Bool.and_eq_true_iff.mp hk
            have hlen : kvs.length < sizeLine := by rw [← line_eq]; exact Nat.le_of_ble_eq_true hk2
            rcases kv with ⟨et, es, h1, h2⟩ | ⟨et, es, h1, h2⟩
            · subst et
              obtain ⟨kk, ek⟩ := keyOk_K hk1
              rcases h1 with h1 | ⟨oo, h1⟩
              · obtain ⟨x1, k1⟩ := ok.wrote (o' := .dK (putK es kk v)) hm hc nf h1 (fun _ z => nomatch z) fun _ _ z => nomatch z
                have r2 : PkK w.fz H (putK es kk v) (putD k p kvs) := putK_rel ek rv h2
                have ok1 := k1 (.d false (putD k p kvs)) ⟨nf, .inl ⟨rfl, _, .inl upd_same, Paired.imp r2 fun _ _ q => ⟨q.1, x1.rep q.2⟩⟩, fun o u z => by rw [upd_same] at z; cases z⟩
                rw [← putC_eq] at ok1
                exact .inr ⟨a, _, ex, .inl ⟨es, kk, h1, rep_key ri ek, by rw [Paired.len h2]; exact hlen, rfl⟩, fin x1 ok1 post⟩
              · exact absurd h1 (nz _ _)
            · subst et
              obtain ⟨ps, kk, e1, ek⟩ := keyOk_T hk1
              subst e1
              rcases h1 with h1 | ⟨oo, h1⟩
              · obtain ⟨x1, k1⟩ := ok.wrote (o' := .dT (putK es kk v)) hm hc nf h1 (fun _ z => nomatch z) fun _ _ z => nomatch z
                have r2 : PkT w.fz H (putK es kk v) (putD (.tup ps) p kvs) := putT_rel ek rv h2
                have ok1 := k1 (.d true (putD (.tup ps) p kvs)) ⟨nf, .inr ⟨rfl, _, .inl upd_same, Paired.imp r2 fun _ _ q => ⟨q.1, x1.rep q.2⟩⟩, fun o u z => by rw [upd_same] at z; cases z⟩
                rw [← putC_eq] at ok1
                obtain ⟨b, us, e2, sx, rx⟩ := Rep.tup_inv ri
                rw [reps_keys rx ek] at sx
                exact .inr ⟨a, _, ex, .inr ⟨es, kk, b, h1, e2, sx, by rw [Paired.len h2]; exact hlen, rfl⟩, fin x1 ok1 post⟩
              · exact absurd h1 (nz _ _)
        | _ => exact post.elim
theorem sg_sub {o i : Expr} {fo fi : Ex} {pos : Pos} (hu : X.A.units + 1 < cLine) (ho : SE X g E o fo) (hi : SE X g E i fi)
    (ha : ∀ v, assign (.Subscript o i pos) X.env v = (do
      let ov ← holding [v] (eval o X.env)
      let iv ← holding [v, ov] (eval i X.env)
      standAt pos
      holding [v, ov, iv] (setItem ov iv v)
      release [v, ov, iv] []) := by intro _; rfl) : SG X g E [] (.Subscript o i pos) (tS fo fi) := by
  obtain ⟨t1, p1, s1⟩ := ho
  obtain ⟨t2, p2, s2⟩ := hi
  refine ⟨_, pg_sub p1 p2 (set_any hu) ha, fun w σ H env st v a Q ok re ra post => ?_⟩
  refine s1 w σ H env st _ ok re (Post.bind post fun x st1 w1 H1 v1 x1 ok1 r1 post1 => ?_)
  refine s2 w1 σ H1 env st1 _ ok1 (x1.repE re) (Post.bind post1 fun y st2 w2 H2 v2 x2 ok2 r2 post2 => ?_)
  obtain ⟨w3, st3, p, x3, ok3, r3, post3⟩ := toV_post ok2 (x2.repA (x1.repA ra)) post2
  exact set_post ok3 (x3.repE (x2.repE (x1.repE re))) (x3.repA (x2.repA r1)) (x3.repA r2) r3 post3
end

/-! ### methods of lists -/
section
variable {X : L2.Cx} {g : Gc} {E : XK} {o e : Expr} {fo fe : Ex} {apos cpos : Pos} {name : PySem.Str} {id : String} {r : V → List V → Hp → VK → Prop} {f : A → A → M A} {f0 : A → M A}
theorem kd_post {α β : Type} {rel : Wd → Hp → β → α → Prop} {w : Wd} {H : Hp} {st : Sto} {Q : β → Hp → Prop} {k : Kd} {x : A} {m : Unit → M α} (post : Post g E rel w H (Rt.bind (kdC k x) m st) Q) : ∃ p, now x st = some p ∧ isKd k p = true ∧ Post g E rel w H (m () st) Q := by
  unfold Rt.bind kdC at post
  cases q : now x st with
  | none => rw [q] at post; exact post.elim
  | some p =>
    rw [q] at post
    simp only at post
    cases z : isKd k p with
    | false => rw [z] at post; exact post.elim
    | true => rw [z] at post; exact ⟨p, rfl, z, post⟩
theorem ty_l {K : PySem.W.Frag} {w : Wd} {H : Hp} {x : V} {p : P} (c : Cur w H x p) (h : isKd .l p = true) : tyV K "list" x H := by
  cases p with
  | lst ps =>
    obtain ⟨a, vs, e, s, r⟩ := c
    subst e
    exact .inl ⟨rfl, vs, .inl s⟩
  | _ => cases h
theorem se_lm1 (pa : PlainAttrs "list") (slot : Slot "list" name id) (hty : typeOf (.builtin id) = pure (.type "method_descriptor")) (hm : MtR X id r) (hf : OpS g E (fun x y => r x [y]) f) (ho : SE X g E o fo) (he : SE X g E e fe)
    (hbase : attributeBase o name X.env (eval o X.env) = eval o X.env := by rfl)
    (hfew : ((backTo cpos (starEach [e] X.env)).all (fun x => !x.1) && (backToKw cpos (keywordEach [] X.env)).all (fun x => x.1.isSome)
      && decide ([e].length + ([] : List Keyword).length + (if ([] : List Keyword).isEmpty then 0 else 1) < 30)) = true := by rfl)
    (hline : (apos.endLine == cpos.line) = true := by rfl) (hs : starEach [e] X.env = (false, eval e X.env) :: starEach [] X.env := by rfl) (hplain : (backTo cpos (starEach [] X.env)).any (·.1) = false := by rfl) :
    SE X g E (.Call (.Attribute o name apos) [e] [] cpos) (eM .l f fo fe) := by
  obtain ⟨t1, p1, s1⟩ := ho
  obtain ⟨t2, p2, s2⟩ := he
  refine ⟨_, pe_bm pa slot hty hm p1 (pa_cons p2 pa_nil hs) hbase hfew hline hs hplain, fun w σ H env st Q ok re post => ?_⟩
  refine s1 w σ H env st _ ok re (Post.bind post fun x st1 w1 H1 v1 x1 ok1 r1 post1 => ?_)
  obtain ⟨p, hn, hk, post2⟩ := kd_post post1
  refine ⟨ty_l (now_cur ok1 r1 hn) hk, ?_⟩
  refine s2 w1 σ H1 env st1 _ ok1 (x1.repE re) (Post.bind post2 fun y st2 w2 H2 v2 x2 ok2 r2 post3 => ?_)
  exact hf w2 H2 st2 v1 v2 x y Q ok2 (x2.repA r1) r2 post3
theorem se_lm0 (pa : PlainAttrs "list") (slot : Slot "list" name id) (hty : typeOf (.builtin id) = pure (.type "method_descriptor")) (hm : MtR X id r) (hf : Op1S g E (fun x => r x []) f0) (ho : SE X g E o fo)
    (hbase : attributeBase o name X.env (eval o X.env) = eval o X.env := by rfl) (hline : (apos.endLine == cpos.line) = true := by rfl) : SE X g E (.Call (.Attribute o name apos) [] [] cpos) (eM0 .l f0 fo) := by
  obtain ⟨t1, p1, s1⟩ := ho
  refine ⟨_, pe_bm0 pa slot hty hm p1 hbase hline, fun w σ H env st Q ok re post => ?_⟩
  refine s1 w σ H env st _ ok re (Post.bind post fun x st1 w1 H1 v1 x1 ok1 r1 post1 => ?_)
  obtain ⟨p, hn, hk, post2⟩ := kd_post post1
  exact ⟨ty_l (now_cur ok1 r1 hn) hk, hf w1 H1 st1 v1 x Q ok1 r1 post2⟩
theorem m_append : OpS g E (fun x y => rAppend x [y]) mAppend := fun w H st x y a b Q ok ra rb post => by
  obtain ⟨w1, st1, p, x1, ok1, r1, post1⟩ := toV_post ok rb post
  cases a with
  | v _ => exact post1.elim
  | r n =>
    have ra := x1.repA ra
    have post1 : Post g E relA w1 H (match lookC st1 n with
      | some (.l xs) => if Nat.blt xs.length line then .ok (.v .non) (putC st1 n (.l (xs ++ [p]))) else .no
      | _ => .no) Q := post1
    cases hl : lookC st1 n with
    | none => rw [hl] at post1; exact post1.elim
    | some c =>
      rw [hl] at post1
      cases c with
      | l xs =>
        obtain ⟨ad, vs, ex, hm, hc, nf, hH, r⟩ := ok1.at_l ra hl
        have post1 : Post g E relA w1 H (if Nat.blt xs.length line then .ok (.v .non) (putC st1 n (.l (xs ++ [p]))) else .no) Q := post1
        cases hk : Nat.blt xs.length line with
        | false => rw [hk] at post1; exact post1.elim
        | true =>
          rw [hk] at post1
          obtain ⟨x2, ok2⟩ := ok1.put_l hm hc nf hH (Paired.app r (.cons r1 .nil))
          exact ⟨ad, vs, y, ex, rfl, hH, by rw [Paired.len r, ← line_eq]; exact Nat.le_of_ble_eq_true hk, post1 w1 _ _ x2 ok2 Rep.non⟩
      | _ => exact post1.elim
theorem m_pop : Op1S g E (fun x => rPop x []) mPop := fun w H st x a Q ok ra post => by
  cases a with
  | v _ => exact post.elim
  | r n =>
    have post : Post g E relA w H (match lookC st n with
      | some (.l xs) => match nth xs (xs.length - 1) with
        | some p => .ok (.v p) (putC st n (.l xs.dropLast))
        | none => .no
      | _ => .no) Q := post
    cases hl : lookC st n with
    | none => rw [hl] at post; exact post.elim
    | some c =>
      rw [hl] at post
      cases c with
      | l xs =>
        obtain ⟨ad, vs, ex, hm, hc, nf, hH, r⟩ := ok.at_l ra hl
        have post : Post g E relA w H (match nth xs (xs.length - 1) with
          | some p => .ok (.v p) (putC st n (.l xs.dropLast))
          | none => .no) Q := post
        cases hk : nth xs (xs.length - 1) with
        | none => rw [hk] at post; exact post.elim
        | some p =>
          rw [hk] at post
          rw [nth_eq] at hk
          obtain ⟨u, h1, h2⟩ := Paired.at_ r hk
          have rd : Reps w.fz H vs.dropLast xs.dropLast := by
            rw [List.dropLast_eq_take, List.dropLast_eq_take, Paired.len r]
            exact Paired.take_ _ r
          obtain ⟨x2, ok2⟩ := ok.put_l hm hc nf hH rd
          exact ⟨ad, vs, u, ex, rfl, hH, by rw [Paired.len r]; exact h1, post w _ _ x2 ok2 (x2.rep h2)⟩
      | _ => exact post.elim
/-- extend by a list of any standing -/
def rExtendL (K : PySem.W.Frag) : V → List V → Hp → VK → Prop := fun x vs H Q => ∃ l b xs zs, x = .ref l ∧ vs = [.ref b] ∧ H l = some (.lst xs) ∧ Rd H b (.lst zs) ∧ xs.length + zs.length ≤ sizeLine ∧ Q .non (upd H l (.lst (xs ++ zs)))
theorem mt_extendL : MtR X "list.extend" (rExtendL X.K) := by
  intro pins s σ H x vs v us Q I rx rv h
  obtain ⟨l, b, xs, zs, rfl, rfl, hH, hB, hz, q⟩ := h
  cases rx
  obtain ⟨u, rfl, ru⟩ := rv.one
  cases ru
  obtain ⟨z, its, n, r1, hl, e⟩ := I.lstM hH
  obtain ⟨z2, its2, n2, r2, e2⟩ := (show ObjOk X.prog X.w H s.heap b (.lst zs) from hB.ok I.hok)
  have l2 := r2.length
  have hsz : its.toArray.size + its2.toArray.size ≤ sizeLine := by rw [List.size_toArray, List.size_toArray]; omega
  have hlong : ¬ (!its.toArray.isEmpty && Builtin.List.listTooLong (its.toArray.size + its2.toArray.size)) = true := by
    rw [notLongL hsz, Bool.and_false]; exact Bool.false_ne_true
  have k := AutoSeq1.list_extend_list_list_0 l its.toArray n b its2.toArray n2 hlong (by rw [List.size_toArray]; omega) (by omega)
  refine call_meets F.slot_list_extend ⟨_, e, rfl⟩ F.entry_list_extend (F.args_list_extend_2 _ _) k ⟨e, e2, ?_⟩
  have I2 := I.lset (its' := its ++ its2) (t' := s.toks) (f := fun x => x ++ its2.toArray) hH e (by simp) (r1.append r2) (by rw [List.length_append]; omega)
  exact ⟨.non, _, I2, rfl, q⟩
theorem m_extend : OpS g E (fun x y => rExtendL X.K x [y]) mExtend := fun w H st x y a b Q ok ra rb post => by
  obtain ⟨w1, st1, p, x1, ok1, r1, post1⟩ := toV_post ok rb post
  cases a with
  | v _ => exact post1.elim
  | r n =>
    have ra := x1.repA ra
    cases p with
    | lst ys =>
      have post1 : Post g E relA w1 H (match lookC st1 n with
        | some (.l xs) => if Nat.ble (xs.length + ys.length) line then .ok (.v .non) (putC st1 n (.l (xs ++ ys))) else .no
        | _ => .no) Q := post1
      cases hl : lookC st1 n with
      | none => rw [hl] at post1; exact post1.elim
      | some c =>
        rw [hl] at post1
        cases c with
        | l xs =>
          obtain ⟨ad, vs, ex, hm, hc, nf, hH, r⟩ := ok1.at_l ra hl
          obtain ⟨bd, zs, ey, z, rz⟩ := r1.lst_inv
          have post1 : Post g E relA w1 H (if Nat.ble (xs.length + ys.length) line then .ok (.v .non) (putC st1 n (.l (xs ++ ys))) else .no) Q := post1
          cases hk : Nat.ble (xs.length + ys.length) line with
          | false => rw [hk] at post1; exact post1.elim
          | true =>
            rw [hk] at post1
            obtain ⟨x2, ok2⟩ := ok1.put_l hm hc nf hH (Paired.app r rz)
            exact ⟨ad, bd, vs, zs, ex, by rw [ey], hH, z.rd, by rw [Paired.len r, Paired.len rz, ← line_eq]; exact Nat.le_of_ble_eq_true hk, post1 w1 _ _ x2 ok2 Rep.non⟩
        | _ => exact post1.elim
    | _ => exact post1.elim
end

/-! ### d.get -/
section
variable {X : L2.Cx} {g : Gc} {E : XK} {o e f : Expr} {fo fe ff : Ex} {apos cpos : Pos}
theorem isd_of {w : Wd} {H : Hp} {x : V} {p : P} (c : Cur w H x p) (h : isKd .d p = true) : ∃ a, x = .ref a ∧ IsD H a := by
  cases p with
  | dic t kvs =>
    obtain ⟨a, e, r⟩ := c
    rcases r with ⟨_, es, h1, h2⟩ | ⟨_, es, h1, h2⟩
    · exact ⟨a, e, .inl ⟨es, h1⟩⟩
    · exact ⟨a, e, .inr ⟨es, h1⟩⟩
  | _ => cases h
theorem se_get2 (hu : X.A.units + 1 < cLine) (ho : SE X g E o fo) (he : SE X g E e fe) (hf : SE X g E f ff) (m : M2 X o "get" apos e f cpos) : SE X g E (.Call (.Attribute o "get" apos) [e, f] [] cpos) (eM3 .d getD2 fo fe ff) := by
  obtain ⟨t1, p1, s1⟩ := ho
  obtain ⟨t2, p2, s2⟩ := he
  obtain ⟨t3, p3, s3⟩ := hf
  refine ⟨_, pe_dget2 hu p1 p2 p3 m, fun w σ H env st Q ok re post => ?_⟩
  refine s1 w σ H env st _ ok re (Post.bind post fun x st1 w1 H1 v1 x1 ok1 r1 post1 => ?_)
  obtain ⟨p, hn, hk, post2⟩ := kd_post post1
  obtain ⟨a, e1, di⟩ := isd_of (now_cur ok1 r1 hn) hk
  refine ⟨a, e1, di, ?_⟩
  refine s2 w1 σ H1 env st1 _ ok1 (x1.repE re) (Post.bind post2 fun y st2 w2 H2 v2 x2 ok2 r2 post3 => ?_)
  refine s3 w2 σ H2 env st2 _ ok2 (x2.repE (x1.repE re)) (Post.bind post3 fun z st3 w3 H3 v3 x3 ok3 r3 post4 => ?_)
  have post4 : Post g E relA w3 H3 (match now x st3, now y st3 with
    | some (.dic t kvs), some k => if keyOk t k then .ok ((lookD k kvs).elim z A.v) st3 else .no
    | _, _ => .no) Q := post4
  cases q1 : now x st3 with
  | none => rw [q1] at post4; exact post4.elim
  | some d =>
    cases q2 : now y st3 with
    | none => rw [q1, q2] at post4; cases d <;> exact post4.elim
    | some k =>
      rw [q1, q2] at post4
      cases d with
      | dic t kvs =>
        have post4 : Post g E relA w3 H3 (if keyOk t k then .ok ((lookD k kvs).elim z A.v) st3 else .no) Q := post4
        cases hk2 : keyOk t k with
        | false => rw [hk2] at post4; exact post4.elim
        | true =>
          rw [hk2] at post4
          obtain ⟨a', e2, kv⟩ := now_cur ok3 (x3.repA (x2.repA r1)) q1
          have ea : a' = a := by rw [e1] at e2; cases e2; rfl
          subst ea
          obtain ⟨ov, dg, l1, l2⟩ := dget_of kv (now_cur ok3 (x3.repA r2) q2) hk2
          refine ⟨ov, dg, ?_⟩
          cases q3 : lookD k kvs with
          | none =>
            rw [q3] at post4 l1
            have e3 : ov = none := by cases ov with
              | none => rfl
              | some _ => cases l1
            subst e3
            exact post4 w3 H3 v3 Ext.refl ok3 r3
          | some q =>
            rw [q3] at post4
            obtain ⟨v, e3, rv⟩ := l2 q q3
            subst e3
            exact post4 w3 H3 v Ext.refl ok3 rv
      | _ => exact post4.elim
end
end Rt

set_option Elab.async false
set_option linter.all false
set_option maxRecDepth 100000
set_option autoImplicit false
set_option maxHeartbeats 4000000
namespace Rt
open PySem PySem.Spec PyProof.Rows L2

/-! ### tuples of ints in order -/
def lexI : List Int → List Int → Bool
  | [], [] => false
  | [], _ :: _ => true
  | _ :: _, [] => false
  | x :: xs, y :: ys => if x = y then lexI xs ys else decide (x < y)
theorem lexI_asym : ∀ {a b : List Int}, lexI a b = true → lexI b a = false
  | [], [], h => nomatch h
  | [], _ :: _, _ => rfl
  | _ :: _, [], h => nomatch h
  | x :: xs, y :: ys, h => by
    unfold lexI at h ⊢
    by_cases e : x = y
    · rw [if_pos e] at h
      rw [if_pos e.symm]
      exact lexI_asym h
    · rw [if_neg e] at h
      rw [if_neg fun z => e z.symm]
      have := of_decide_eq_true h
      exact decide_eq_false (by omega)
theorem lexI_tr : ∀ {a b c : List Int}, lexI b a = false → lexI c b = false → lexI c a = false
  | [], _, [], _, _ => rfl
  | _ :: _, [], [], h, _ => nomatch h
  | [], _ :: _, _ :: _, _, _ => rfl
  | [], [], _ :: _, _, _ => rfl
  | _ :: _, _ :: _, [], _, h => nomatch h
  | _ :: _, [], _ :: _, h, _ => nomatch h
  | x :: xs, y :: ys, z :: zs, h1, h2 => by
    unfold lexI at h1 h2 ⊢
    by_cases e1 : y = x
    · rw [if_pos e1] at h1
      by_cases e2 : z = y
      · rw [if_pos e2] at h2
        rw [if_pos (e2.trans e1)]
        exact lexI_tr h1 h2
      · rw [if_neg e2] at h2
        rw [if_neg fun q => e2 (q.trans e1.symm)]
        have := of_decide_eq_false h2
        exact decide_eq_false (by omega)
    · rw [if_neg e1] at h1
      have a := of_decide_eq_false h1
      by_cases e2 : z = y
      · rw [if_neg fun q => e1 (e2.symm.trans q)]
        exact decide_eq_false (by omega)
      · rw [if_neg e2] at h2
        have b := of_decide_eq_false h2
        rw [if_neg (by omega)]
        exact decide_eq_false (by omega)
theorem swo_lexI {α : Type} (k : α → List Int) : SrtO.Swo fun v u => lexI (k v) (k u) := ⟨fun _ _ h => lexI_asym h, fun _ _ _ h1 h2 => lexI_tr h1 h2⟩

/-! ### sorting by insertion -/
section
variable {α β : Type}
def insB (lt : α → α → Bool) (x : α) : List α → List α
  | [] => [x]
  | y :: ys => if lt y x then y :: insB lt x ys else x :: y :: ys
def isortB (lt : α → α → Bool) : List α → List α
  | [] => []
  | x :: xs => insB lt x (isortB lt xs)
variable {lt : α → α → Bool}
theorem mem_insB {x z : α} : ∀ {l : List α}, z ∈ insB lt x l → z = x ∨ z ∈ l
  | [], h => .inl (List.mem_singleton.mp h)
  | y :: ys, h => by
    unfold insB at h
    split at h
    · rcases List.mem_cons.mp h with e | h
      · exact .inr (by rw [e]; exact List.mem_cons_self)
      · rcases mem_insB h with e | h
        · exact .inl e
        · exact .inr (List.mem_cons_of_mem _ h)
    · rcases List.mem_cons.mp h with e | h
      · exact .inl e
      · exact .inr h
theorem srtd_insB (O : SrtO.Swo lt) {x : α} : ∀ {l : List α}, SrtO.Srtd lt l → SrtO.Srtd lt (insB lt x l)
  | [], _ => List.pairwise_singleton _ _
  | y :: ys, h => by
    have hy := List.pairwise_cons.mp h
    unfold insB
    cases c : lt y x with
    | true =>
      simp only [if_true]
      refine List.pairwise_cons.mpr ⟨fun z hz => ?_, srtd_insB O hy.2⟩
      rcases mem_insB hz with e | hz
      · rw [e]; exact O.asym _ _ c
      · exact hy.1 z hz
    | false =>
      simp only [Bool.false_eq_true, if_false]
      refine List.pairwise_cons.mpr ⟨fun z hz => ?_, h⟩
      rcases List.mem_cons.mp hz with e | hz
      · rw [e]; exact c
      · exact O.tr x y z c (hy.1 z hz)
theorem srtd_isortB (O : SrtO.Swo lt) : ∀ l : List α, SrtO.Srtd lt (isortB lt l)
  | [] => List.Pairwise.nil
  | x :: xs => srtd_insB O (srtd_isortB O xs)
theorem perm_insB {x : α} : ∀ {l : List α}, (insB lt x l).Perm (x :: l)
  | [] => List.Perm.refl _
  | y :: ys => by
    unfold insB
    split
    · exact (List.Perm.cons y perm_insB).trans (List.Perm.swap x y ys)
    · exact List.Perm.refl _
theorem cls_insB (O : SrtO.Swo lt) {x z : α} : ∀ {l : List α}, (insB lt x l).filter (SrtO.eqv lt z) = (x :: l).filter (SrtO.eqv lt z)
  | [] => rfl
  | y :: ys => by
    unfold insB
    cases c : lt y x with
    | false => simp only [Bool.false_eq_true, if_false]
    | true =>
      simp only [if_true]
      rw [List.filter_cons, cls_insB O (l := ys), List.filter_cons, List.filter_cons, List.filter_cons]
      cases hy : SrtO.eqv lt z y with
      | false => simp only [Bool.false_eq_true, if_false]
      | true =>
        cases hx : SrtO.eqv lt z x with
        | false => simp only [Bool.false_eq_true, if_false]
        | true =>
          obtain ⟨a1, a2⟩ := SrtO.eqv_iff.mp hx
          obtain ⟨b1, b2⟩ := SrtO.eqv_iff.mp hy
          have := O.tr x z y a1 b2
          rw [c] at this
          cases this
theorem stb_isortB (O : SrtO.Swo lt) : ∀ l : List α, SrtO.Stb lt (isortB lt l) l
  | [] => SrtO.Stb.refl _
  | x :: xs => by
    have ih := stb_isortB O xs
    refine ⟨perm_insB.trans (List.Perm.cons x ih.perm), fun z => ?_⟩
    show (insB lt x (isortB lt xs)).filter (SrtO.eqv lt z) = _
    rw [cls_insB O, List.filter_cons, List.filter_cons, ih.cls z]
theorem insB_rel {R : α → β → Prop} {lt2 : β → β → Bool} (hl : ∀ a b a' b', R a b → R a' b' → lt a a' = lt2 b b') {x : α} {y : β} (r : R x y) : ∀ {l : List α} {m : List β}, Paired R l m → Paired R (insB lt x l) (insB lt2 y m)
  | _, _, .nil => .cons r .nil
  | _, _, .cons (a := a) (b := b) q t => by
    unfold insB
    rw [hl a b x y q r]
    cases lt2 b y with
    | true =>
      simp only [if_true]
      exact .cons q (insB_rel hl r t)
    | false =>
      simp only [Bool.false_eq_true, if_false]
      exact .cons r (.cons q t)
theorem isortB_rel {R : α → β → Prop} {lt2 : β → β → Bool} (hl : ∀ a b a' b', R a b → R a' b' → lt a a' = lt2 b b') : ∀ {l : List α} {m : List β}, Paired R l m → Paired R (isortB lt l) (isortB lt2 m)
  | _, _, .nil => .nil
  | _, _, .cons r t => insB_rel hl r (isortB_rel hl t)
end
theorem insP_eq (x : P) : ∀ l, insP x l = insB Rt.ltP x l
  | [] => rfl
  | y :: ys => by
    unfold insP insB
    rw [insP_eq x ys]
theorem sortP_eq : ∀ l, sortP l = isortB Rt.ltP l
  | [] => rfl
  | x :: xs => by
    unfold sortP isortB
    rw [insP_eq, sortP_eq xs]

/-! ### sorted of tuples of ints, of any lengths but nought -/
section
variable {prog : Program} {w : World} {A : Around} {E : Value → Shared → Prop} {s : Shared}
theorem lex_any {b c : Bool} {Q : Bool → Shared → Prop} : ∀ {xs ys : List Value} {ns ms : List Int} (i : Nat), IntsAre xs ns → IntsAre ys ms → c = decide (xs.length < ys.length) → Q (lexI ns ms) s → PySem.W.KatLex prog w A b c Q (xs.zip ys) i s
  | _, _, _, _, i, .nil, .nil, hc, h => by
    subst hc
    exact PySem.W.kat_nil h
  | _, _, _, _, i, .nil, .cons q u hy, hc, h => by
    subst hc
    refine PySem.W.kat_nil ?_
    rw [List.length_nil, List.length_cons, decide_eq_true (Nat.zero_lt_succ _)]
    exact h
  | _, _, _, _, i, .cons p t hx, .nil, hc, h => by
    subst hc
    refine PySem.W.kat_nil ?_
    rw [List.length_nil, decide_eq_false (Nat.not_lt_zero _)]
    exact h
  | _, _, _, _, i, .cons (vs := xs) (ns := ns) p t hx, .cons (vs := ys) (ns := ms) q u hy, hc, h => by
    have hc' : c = decide (xs.length < ys.length) := by
      rw [hc, List.length_cons, List.length_cons]
      exact decide_eq_decide.mpr ⟨Nat.lt_of_succ_lt_succ, Nat.succ_lt_succ⟩
    refine PySem.W.kat_cons (wpAny_eqBool_int ?_)
    unfold lexI at h
    by_cases e : p = q
    · rw [if_pos e] at h
      subst e
      rw [beq_self_eq_true]
      exact PySem.W.kat_yes (lex_any (i + 1) hx hy hc' h)
    · rw [if_neg e] at h
      rw [show (p == q) = false from beq_eq_false_iff_ne.mpr e]
      exact PySem.W.kat_no (TS.oneLt_ints _ h)
/-- what is sorted -/
def TupsNe (h : Heap) (k : Value → List Int) (vs : List Value) : Prop := ∀ v ∈ vs, TS.TupInts h v (k v) ∧ k v ≠ []
theorem TupsNe.firsts {h : Heap} {k : Value → List Int} : ∀ {vs : List Value}, TupsNe h k vs → ∃ fs, PySem.W.KatTups h vs fs ∧ fs.length = vs.length ∧ ∀ f ∈ fs, ∃ n t, f = Value.int n t
  | [], _ => ⟨[], PySem.W.KatTups.nil, rfl, fun f hf => by simp at hf⟩
  | v :: vs, x => by
    obtain ⟨fs, kt, hl, hi⟩ := TupsNe.firsts (vs := vs) fun u hu => x u (List.mem_cons_of_mem _ hu)
    obtain ⟨⟨a, xs, e, ⟨o, ho, hc, n, hd⟩, hi0⟩, ne⟩ := x v List.mem_cons_self
    subst e
    obtain ⟨y, ys, ey⟩ : ∃ y ys, xs.toList = y :: ys := by
      cases q : xs.toList with
      | nil =>
        rw [q] at hi0
        generalize k (.ref a) = z at hi0 ne
        cases hi0
        exact absurd rfl ne
      | cons y ys => exact ⟨y, ys, rfl⟩
    obtain ⟨m, t, hy⟩   := hi0.all y (by rw [ey]; exact List.mem_cons_self)
    refine ⟨y :: fs, PySem.W.KatTups.cons ho hc hd ?_ kt, by simp [hl], fun f hf => ?_⟩
    · have z := congrArg (fun l : List Value => l[0]?) ey
      simpa using z
    · rcases List.mem_cons.mp hf with e | hf
      · exact ⟨m, t, by rw [e]; exact hy⟩
      · exact hi f hf
theorem tups_cmp {k : Value → List Int} {vs : List Value} (hp : TupsNe s.heap k vs) : SrtO.Cmp prog w A s (tuples' true) (fun p => p.1 ∈ vs) (SrtO.lt2 fun v u => lexI (k v) (k u)) := by
  intro p q hm hm'
  obtain ⟨h1, _⟩ := hp _ hm
  obtain ⟨h2, _⟩ := hp _ hm'
  show wpAny (model prog w) A (keyLt' (tuples' true) p.1 q.1) (fun r s' => s' = s ∧ r = lexI (k p.1) (k q.1)) (fun _ _ => False) s
  generalize k p.1 = ns at h1 ⊢
  generalize k q.1 = ms at h2 ⊢
  obtain ⟨a, xs, e1, ⟨o, ho, hc, n, hd⟩, i1⟩ := h1
  obtain ⟨a', ys, e2, ⟨o', ho', hc', n', hd'⟩, i2⟩ := h2
  rw [e1, e2]
  refine PySem.W.kat_lt ho hd ho' hd' (lex_any 0 i1 i2 ?_ ⟨rfl, rfl⟩)
  rw [Array.length_toList, Array.length_toList]
theorem tups_sortable {a : Addr} {k : Value → List Int} {vs : List Value} (h0 : 0 < vs.length) (hp : TupsNe s.heap k vs) (ha : ∀ o, s.heap.get? a = some o → o.cls ≠ .type "tuple") : SrtO.SortableO prog w A s a vs fun v u => lexI (k v) (k u) := by
  intro h' keep
  have hp' : TupsNe h' k vs := fun v hm => ⟨(hp v hm).1.keeps fun b o e c => keep b o (fun z => by subst z; exact ha o e c) e, (hp v hm).2⟩
  obtain ⟨fs, h1, h2, h3⟩ := hp'.firsts
  refine ⟨tuples' true, fun Q E hq => ?_, tups_cmp hp'⟩
  refine PySem.W.kat_kind (T := .type "int") h1 (by omega) (fun f hm => ?_) (by rfl) ?_
  · obtain ⟨x, t, rfl⟩ := h3 f hm
    exact PySem.W.Looks.now
  · have e : (Value.type "int" != Value.type "tuple") = true := by first | decide +kernel | rfl | decide
    rw [e]
    exact hq
end
def rSortedTI (K : PySem.W.Frag) : List V → Hp → VK → Prop := fun vs H Q => ∃ (a : Addr) (xs : List V) (k : V → List Int), vs = [V.ref a] ∧ SqL K H a xs ∧ (∀ x ∈ xs, ∃ t, x = V.ref t ∧ H t = some (.tup ((k x).map V.int)) ∧ k x ≠ []) ∧
  ∀ p, H p = none → Q (.ref p) (upd H p (.lst (isortB (fun x y => lexI (k x) (k y)) xs)))
def rSortedA (K : PySem.W.Frag) : List V → Hp → VK → Prop := fun vs H Q => rSortedI K vs H Q ∨ rSortedTI K vs H Q
section
variable {X : L2.Cx}
theorem cr_sortedTI : CallR X (.builtin "sorted") (rSortedTI X.K) := by
  intro pins s σ H vs us Q I r h
  obtain ⟨a, xs, k, rfl, hs, hx, q⟩ := h
  obtain ⟨its, rv, hl, hz⟩ := I.list hs
  obtain ⟨u, rfl, ru⟩ := vals1 r
  obtain rfl : u = Value.ref a := ru
  obtain ⟨e1, e2⟩ := refs_back rv fun x m => by
    obtain ⟨t, e, _⟩ := hx x m
    exact ⟨t, e⟩
  have hT : TupsNe s.heap (fun u => k (backV u)) its := fun v hv => by
    obtain ⟨t, rfl⟩ := e2 v hv
    have hm : V.ref t ∈ xs := by rw [e1]; exact List.mem_map.mpr ⟨_, hv, rfl⟩
    obtain ⟨t', e, ht, hn⟩ := hx _ hm
    cases e
    obtain ⟨_, its2, r2, o, ho, hc, n, hd⟩ := I.hok _ _ ht
    exact ⟨⟨t, its2.toArray, rfl, ⟨o, ho, hc, n, hd⟩, intsAre_of r2⟩, hn⟩
  refine SrtO.sorted_ord (swo_lexI fun u => k (backV u)) hl.isList (by rw [← rv.length]; exact hz) (fun h2 h₁ a' ha' kk => ?_) fun out hs hb => ?_
  · refine tups_sortable (s := { s with heap := h₁ }) (by omega) (fun v hm => ⟨(hT v hm).1.keeps fun b o e _ => (kk b o e).2, (hT v hm).2⟩) fun o e => ?_
    have e' : some o = some (seqObj "list" its.toArray 0) := e.symm.trans ha'
    cases e'
    intro c
    exact absurd (Value.type.inj c) (by decide)
  · have h3 : ∀ u ∈ out, ∃ a, u = Value.ref a := fun u hu => e2 u (hb.perm.mem_iff.mp hu)
    have hbV : SrtO.Stb (fun x y => lexI (k x) (k y)) (out.map backV) xs := by
      rw [e1]
      exact SrtO.Stb.map (lt := fun x y => lexI (k x) (k y)) (swo_lexI k) backV hb
    have hsV : SrtO.Srtd (fun x y => lexI (k x) (k y)) (out.map backV) := List.pairwise_map.mpr hs
    have eo : out.map backV = isortB (fun x y => lexI (k x) (k y)) xs := SrtO.stb_uniq (swo_lexI k) hsV (srtd_isortB (swo_lexI k) xs) (hbV.trans ⟨(stb_isortB (swo_lexI k) xs).perm.symm, fun z => ((stb_isortB (swo_lexI k) xs).cls z).symm⟩)
    obtain ⟨ep, he'⟩ := PyProof.Rows.sortedAll_at s.heap its out.toArray
    have hlen : (out.map backV).length ≤ sizeLine := by rw [hbV.len]; exact hz
    refine ⟨.ref _, upd H (s.heap.objs.size + 1) (.lst (out.map backV)), I.laid (t' := s.toks) (fun _ _ => PyProof.Rows.sortedAll_old) (Nat.le_succ _) ⟨hlen, out, ep, vals_back h3, he'⟩, rfl, ?_⟩
    rw [eo]
    exact q _ (I.hok.fresh (Nat.le_succ _))
theorem cr_sortedA : CallR X (.builtin "sorted") (rSortedA X.K) := cr_sortedI.or cr_sortedTI
variable {w : Wd} {H : Hp}
theorem ltL_lexI {n : Nat} : ∀ {xs ys : List P}, allP isIntP xs = true → allP isIntP ys = true → ltL (eqN (n + 1)) (ltN (n + 1)) xs ys = lexI (xs.map intOf) (ys.map intOf)
  | [], [], _, _ => rfl
  | [], _ :: _, _, _ => rfl
  | _ :: _, [], _, _ => rfl
  | x :: xs, y :: ys, h1, h2 => by
    obtain ⟨a1, a2⟩ := Bool.and_eq_true_iff.mp h1
    obtain ⟨b1, b2⟩ := Bool.and_eq_true_iff.mp h2
    cases x with
    | int i =>
      cases y with
      | int j =>
        show (if (i == j) = true then ltL (eqN (n + 1)) (ltN (n + 1)) xs ys else decide (i < j)) = if i = j then lexI (xs.map intOf) (ys.map intOf) else decide (i < j)
        by_cases e : i = j
        · rw [if_pos (by simpa using e), if_pos e, ltL_lexI a2 b2]
        · rw [if_neg (by simpa using e), if_neg e]
      | _ => cases b1
    | _ => cases a1
def intsP : P → List Int
  | .tup xs => xs.map intOf
  | _ => []
theorem flatNe_inv {p : P} (h : flatNe p = true) : ∃ xs, p = .tup xs ∧ allP isIntP xs = true ∧ xs ≠ [] := by
  cases p with
  | tup xs =>
    cases xs with
    | nil => cases h
    | cons x r => exact ⟨_, rfl, h, fun z => nomatch z⟩
  | _ => cases h
theorem ltP_flat {p q : P} (h1 : flatNe p = true) (h2 : flatNe q = true) : Rt.ltP p q = lexI (intsP p) (intsP q) := by
  obtain ⟨xs, e1, a1, _⟩ := flatNe_inv h1
  obtain ⟨ys, e2, a2, _⟩ := flatNe_inv h2
  subst e1 e2
  exact ltL_lexI a1 a2
theorem sort_ints {is : List Int} : ∀ ns : List Int, ns.Perm is → ns.Pairwise (· ≤ ·) → ns = isortB (fun a b => decide (a < b)) is := fun ns hp hs => by
  have O : SrtO.Swo (fun a b : Int => decide (a < b)) := ⟨fun x y h => decide_eq_false (by have := of_decide_eq_true h; omega), fun x y z h1 h2 => decide_eq_false (by
    have := of_decide_eq_false h1
    have := of_decide_eq_false h2
    omega)⟩
  have h1 : ns.Pairwise (· ≤ ·) := hs
  have h2 : (isortB (fun a b : Int => decide (a < b)) is).Pairwise (· ≤ ·) := (srtd_isortB O is).imp fun {x y} h => Int.not_lt.mp (of_decide_eq_false h)
  exact List.Perm.eq_of_pairwise (fun a b _ _ h k => Int.le_antisymm h k) h1 h2 (hp.trans (stb_isortB O is).perm.symm)
theorem int_insB : ∀ {ps : List P} {p : P}, isIntP p = true → allP isIntP ps = true → (insB Rt.ltP p ps).map intOf = insB (fun a b => decide (a < b)) (intOf p) (ps.map intOf) ∧ allP isIntP (insB Rt.ltP p ps) = true
  | [], p, h, _ => ⟨rfl, by show (isIntP p && true) = true; rw [h] <;> rfl⟩
  | q :: r, p, h, h2 => by
    obtain ⟨b1, b2⟩ := Bool.and_eq_true_iff.mp h2
    obtain ⟨i1, i2⟩ := int_insB (ps := r) h b2
    have e : Rt.ltP q p = decide (intOf q < intOf p) := by
      cases p with
      | int i => cases q with
        | int j => rfl
        | _ => cases b1
      | _ => cases h
    unfold insB
    rw [List.map_cons]
    simp only [e]
    cases c : decide (intOf q < intOf p) with
    | true =>
      simp only [if_true]
      exact ⟨by rw [List.map_cons, i1], by show (isIntP q && allP isIntP _) = true; rw [b1, i2] <;> rfl⟩
    | false =>
      simp only [Bool.false_eq_true, if_false]
      exact ⟨rfl, by show (isIntP p && (isIntP q && allP isIntP r)) = true; rw [h, b1, b2] <;> rfl⟩
theorem int_isortB : ∀ {ps : List P}, allP isIntP ps = true → (isortB Rt.ltP ps).map intOf = isortB (fun a b => decide (a < b)) (ps.map intOf) ∧ allP isIntP (isortB Rt.ltP ps) = true
  | [], _ => ⟨rfl, rfl⟩
  | p :: r, h => by
    obtain ⟨b1, b2⟩ := Bool.and_eq_true_iff.mp h
    obtain ⟨i1, i2⟩ := int_isortB b2
    obtain ⟨j1, j2⟩ := int_insB (p := p) b1 i2
    refine ⟨?_, j2⟩
    show (insB Rt.ltP p (isortB Rt.ltP r)).map intOf = insB _ (intOf p) (isortB _ (r.map intOf))
    rw [j1, i1]
theorem reps_ints {F : Fz} : ∀ {ps : List P}, allP isIntP ps = true → Reps F H ((ps.map intOf).map V.int) ps
  | [], _ => .nil
  | p :: r, h => by
    obtain ⟨b1, b2⟩ := Bool.and_eq_true_iff.mp h
    cases p with
    | int i => exact .cons Rep.int (reps_ints b2)
    | _ => cases b1
/-- the ints of a tuple that stands in the heap -/
def intV : V → Int
  | .int i => i
  | _ => 0
def tupI (H : Hp) : V → List Int
  | .ref t => match H t with
    | some (.tup vs) => vs.map intV
    | _ => []
  | _ => []
theorem tupI_of {x : V} {p : P} (r : Rep w.fz H x p) (h : flatNe p = true) : ∃ t, x = V.ref t ∧ H t = some (.tup ((tupI H x).map V.int)) ∧ tupI H x = intsP p ∧ tupI H x ≠ [] := by
  obtain ⟨xs, e1, a1, ne⟩ := flatNe_inv h
  subst e1
  obtain ⟨t, vs, e, s, r'⟩ := Rep.tup_inv r
  subst e
  have e2 := ints_reps r' a1
  have e3 : tupI H (.ref t) = xs.map intOf := by
    show (match H t with
      | some (.tup vs) => vs.map intV
      | _ => []) = _
    rw [s, e2]
    show List.map intV ((xs.map intOf).map V.int) = _
    rw [List.map_map]
    exact (List.map_congr_left fun i _ => rfl).trans (List.map_id _)
  refine ⟨t, rfl, ?_, e3, ?_⟩
  · rw [e3, s, e2]
  · rw [e3]
    cases xs with
    | nil => exact absurd rfl ne
    | cons _ _ => exact fun z => nomatch z
theorem reps_mem {F : Fz} {q : P → Bool} : ∀ {vs : List V} {ps : List P}, Reps F H vs ps → allP q ps = true → ∀ x ∈ vs, ∃ p, q p = true ∧ Rep F H x p
  | _, _, .nil, _, x, h => by simp at h
  | _, _, .cons (b := p) r t, h, x, hx => by
    obtain ⟨b1, b2⟩ := Bool.and_eq_true_iff.mp h
    rcases List.mem_cons.mp hx with e | hx
    · exact ⟨p, b1, by rw [e]; exact r⟩
    · exact reps_mem t b2 x hx
theorem reps_with {F : Fz} {q : P → Bool} : ∀ {vs : List V} {ps : List P}, Reps F H vs ps → allP q ps = true → Paired (fun x p => Rep F H x p ∧ q p = true) vs ps
  | _, _, .nil, _ => .nil
  | _, _, .cons r t, h => by
    obtain ⟨b1, b2⟩ := Bool.and_eq_true_iff.mp h
    exact .cons ⟨r, b1⟩ (reps_with t b2)
theorem o_sorted {K : PySem.W.Frag} : O1L sortedV (fun x => rSortedA K [x]) := fun w H st x p xs Qv ok cx h fin => by
  cases p with
  | lst ps =>
    have h : (if sortable ps then some (P.lst (sortP ps)) else none) = some (.lst xs) := h
    split at h
    · rename_i hb
      cases h
      obtain ⟨a, vs, e, s, r⟩ := cx
      subst e
      rcases Bool.or_eq_true_iff.mp hb with hb | hb
      · have e2 := ints_reps r hb
        subst e2
        refine .inl ⟨a, ps.map intOf, rfl, .inl s, fun ns d hp hs hd => ?_⟩
        have e3 := sort_ints ns hp hs
        obtain ⟨i1, i2⟩ := int_isortB hb
        have r2 : Reps w.fz H (((sortP ps).map intOf).map V.int) (sortP ps) := reps_ints (by rw [sortP_eq]; exact i2)
        rw [e3, ← i1, ← sortP_eq]
        exact fin _ r2 d hd
      · refine .inr ⟨a, vs, tupI H, rfl, .inl s, fun x hx => ?_, fun d hd => fin _ ?_ d hd⟩
        · obtain ⟨p, h1, h2⟩ := reps_mem r hb x hx
          obtain ⟨t, e1, e2, _, e3⟩ := tupI_of h2 h1
          exact ⟨t, e1, e2, e3⟩
        · rw [sortP_eq]
          exact Paired.imp (isortB_rel (lt2 := Rt.ltP) (fun a b a' b' q q' => by
            obtain ⟨_, _, _, e1, _⟩ := tupI_of q.1 q.2
            obtain ⟨_, _, _, e2, _⟩ := tupI_of q'.1 q'.2
            rw [e1, e2, ltP_flat q.2 q'.2]) (reps_with r hb)) fun _ _ q => q.1
    · cases h
  | _ => cases h
theorem sortedV_lst : ∀ p q, sortedV p = some q → ∃ xs, q = .lst xs := fun p q h => by
  cases p with
  | lst xs =>
    have h : (if sortable xs then some (P.lst (sortP xs)) else none) = some q := h
    split at h
    · cases h; exact ⟨_, rfl⟩
    · cases h
  | _ => cases h
end
end Rt

set_option Elab.async false
set_option linter.all false
set_option maxRecDepth 100000
set_option autoImplicit false
set_option maxHeartbeats 4000000
namespace Rt
open PySem PySem.Spec PyProof.Rows L2

/-! ### statements -/
def PostS (g : Gc) (E : XK) (w : Wd) (H : Hp) (r : F) (D : Ends) : Prop := match r with
  | .nx e st' => ∀ w' H' σ', Ext w w' H H' → Ok w' H' st' → RepE w' H' σ' e → D.nx σ' H'
  | .rt a st' => ∀ w' H' v, Ext w w' H H' → Ok w' H' st' → RepA w' H' v a → D.rt v H'
  | .bk e st' => ∀ w' H' σ', Ext w w' H H' → Ok w' H' st' → RepE w' H' σ' e → D.bk σ' H'
  | .ct e st' => ∀ w' H' σ', Ext w w' H H' → Ok w' H' st' → RepE w' H' σ' e → D.ct σ' H'
  | .ex c p e st' => ∀ w' H' d v, Ext w w' H H' → Ok w' H' st' → H' d = some (.xd [(g.fld c, v)]) → Rep w'.fz H' v p → E (.ref (g.cl c)) (some d) H'
  | .no => False
theorem PostS.ext {g : Gc} {E : XK} {w w' : Wd} {H H' : Hp} {r : F} {D : Ends} (x : Ext w w' H H') (p : PostS g E w H r D) : PostS g E w' H' r D := by
  cases r with
  | nx e st => exact fun w2 H2 σ y => p w2 H2 σ (x.trans y)
  | rt a st => exact fun w2 H2 v y => p w2 H2 v (x.trans y)
  | bk e st => exact fun w2 H2 σ y => p w2 H2 σ (x.trans y)
  | ct e st => exact fun w2 H2 σ y => p w2 H2 σ (x.trans y)
  | ex c q e st => exact fun w2 H2 d v y => p w2 H2 d v (x.trans y)
  | no => exact p
section
variable {α β : Type} {g : Gc} {E : XK}
theorem fl_post {rel : Wd → Hp → β → α → Prop} {w : Wd} {H : Hp} {r : R α} {env : En} {k : α → Sto → F} {D : Ends} {Q : β → Hp → Prop} (p : PostS g E w H (fl r env k) D)
    (hk : ∀ a st' w' H' b, Ext w w' H H' → Ok w' H' st' → rel w' H' b a → PostS g E w' H' (k a st') D → Q b H') : Post g E rel w H r Q := by
  cases r with
  | ok a st => exact fun w' H' b x ok rl => hk a st w' H' b x ok rl (PostS.ext x p)
  | ex c q st => exact p
  | no => exact p
end
def SimS (g : Gc) (E : XK) (t : TS) (f : Sx) : Prop := ∀ (w : Wd) (σ : L2.St) (H : Hp) (env : En) (st : Sto) (D : Ends), Ok w H st → RepE w H σ env → PostS g E w H (f env st) D → t D σ H
structure SS (X : L2.Cx) (g : Gc) (E : XK) (s : Stmt) (f : Sx) : Prop where
  ex : ∃ t, PS X s t ∧ SimS g E t f
structure SSs (X : L2.Cx) (g : Gc) (E : XK) (ss : List Stmt) (f : Sx) : Prop where
  ex : ∃ t, PSs X ss t ∧ SimS g E t f
section
variable {X : L2.Cx} {g : Gc} {E : XK} {pos : Pos} {e tg iter c : Expr} {fe : Ex} {fc : Tx} {s : Stmt} {ss body orelse : List Stmt} {a b : Sx}
theorem sss_nil : SSs X g E [] sPass := ⟨_, pss_nil, fun w σ H env st D ok re post => post w H σ Ext.refl ok re⟩
theorem sss_one (h : SS X g E s a) : SSs X g E [s] a := by
  obtain ⟨t, p, k⟩ := h
  exact ⟨_, pss_cons p pss_nil, fun w σ H env st D ok re post => k w σ H env st _ ok re (by
    cases r : a env st with
    | nx e' st' => rw [r] at post; exact fun w' H' σ' x ok' re' => post w' H' σ' x ok' re'
    | rt v st' => rw [r] at post; exact post
    | bk e' st' => rw [r] at post; exact post
    | ct e' st' => rw [r] at post; exact post
    | ex c' p' e' st' => rw [r] at post; exact post
    | no => rw [r] at post; exact post)⟩
theorem sss_cons (h : SS X g E s a) (hr : SSs X g E ss b) : SSs X g E (s :: ss) (sq a b) := by
  obtain ⟨t, p, k⟩ := h
  obtain ⟨u, q, l⟩ := hr
  refine ⟨_, pss_cons p q, fun w σ H env st D ok re post => k w σ H env st _ ok re ?_⟩
  have post : PostS g E w H (match a env st with
    | .nx e s => b e s
    | r => r) D := post
  cases r : a env st with
  | nx e' st' =>
    rw [r] at post
    exact fun w' H' σ' x ok' re' => l w' σ' H' e' st' D ok' re' (PostS.ext x post)
  | rt v st' => rw [r] at post; exact post
  | bk e' st' => rw [r] at post; exact post
  | ct e' st' => rw [r] at post; exact post
  | ex c' p' e' st' => rw [r] at post; exact post
  | no => rw [r] at post; exact post
/-- a docstring ahead -/
theorem sss_doc {x : PySem.Str} {j : Nat} {p p' : Pos} (hr : SSs X g E ss b) : SSs X g E (.Expr (.Constant (.str x) j p) p' :: ss) b := by
  obtain ⟨u, q, l⟩ := hr
  exact ⟨_, pss_cons ps_doc q, fun w σ H env st D ok re post => l w σ H env st D ok re post⟩
theorem ss_pass : SS X g E (.Pass pos) sPass := ⟨_, ps_pass, fun w σ H env st D ok re post => post w H σ Ext.refl ok re⟩
theorem ss_break : SS X g E (.Break pos) sBk := ⟨_, ps_break, fun w σ H env st D ok re post => post w H σ Ext.refl ok re⟩
theorem ss_cont : SS X g E (.Continue pos) sCt := ⟨_, ps_continue, fun w σ H env st D ok re post => post w H σ Ext.refl ok re⟩
theorem ss_expr (h : SE X g E e fe) (hs : swapsWith e none pos.line X.env = pure false := by rfl) : SS X g E (.Expr e pos) (sE fe) := by
  obtain ⟨t, p, k⟩ := h
  refine ⟨_, ps_expr p hs, fun w σ H env st D ok re post => ?_⟩
  exact k w σ H env st _ ok re (fl_post post fun v st1 w1 H1 v1 x1 ok1 r1 post1 => post1 w1 H1 σ Ext.refl ok1 (x1.repE re))
theorem ss_ret (h : SE X g E e fe) : SS X g E (.Return (some e) pos) (sR fe) := by
  obtain ⟨t, p, k⟩ := h
  refine ⟨_, ps_ret p, fun w σ H env st D ok re post => ?_⟩
  exact k w σ H env st _ ok re (fl_post post fun v st1 w1 H1 v1 x1 ok1 r1 post1 => post1 w1 H1 v1 Ext.refl ok1 r1)
theorem ss_retN : SS X g E (.Return none pos) sRN := ⟨_, ps_retN, fun w σ H env st D ok re post => post w H .non Ext.refl ok Rep.non⟩
theorem ss_set {i : Nat} {x : PySem.Str} {pos' : Pos} (hN : X.N.Nodup) (hi : X.N[i]? = some x) (hx : Loc X.env.scope x) (h : SE X g E e fe) (hs : swapsWith e (some (.Name x pos')) pos.line X.env = pure false := by rfl)
    (hf : X.fn x = true ∨ X.env.scope.names.lookup x = some .local := by first | exact .inl rfl | exact .inr rfl | assumption) : SS X g E (.Assign [.Name x pos'] e pos) (sSet i fe) := by
  obtain ⟨t, p, k⟩ := h
  refine ⟨_, ps_set hN hi hx p hs hf, fun w σ H env st D ok re post => ?_⟩
  exact k w σ H env st _ ok re (fl_post post fun v st1 w1 H1 v1 x1 ok1 r1 post1 => post1 w1 H1 _ Ext.refl ok1 ((x1.repE re).put r1))
theorem ss_asg {is : List Nat} {t : Tg} (h : SE X g E e fe) (ht : SG X g E is tg t) (hs : swapsWithSole [tg] e pos.line X.env = pure false := by rfl) (hw : swappedStores [tg] e X.env = pure none := by rfl)
    (h1 : (assignEach [tg] X.env).map (·.2) = [assign tg X.env] := by rfl) : SS X g E (.Assign [tg] e pos) (sAsg t fe) := by
  obtain ⟨te, p, k⟩ := h
  obtain ⟨G, pg, sg⟩ := ht
  refine ⟨_, ps_asg p pg hs hw h1, fun w σ H env st D ok re post => ?_⟩
  refine k w σ H env st _ ok re (fl_post post fun v st1 w1 H1 v1 x1 ok1 r1 post1 => ?_)
  refine sg w1 σ H1 env st1 v1 v _ ok1 (x1.repE re) r1 (fl_post post1 fun e' st2 w2 H2 σ2 x2 ok2 r2 post2 _ => ?_)
  exact post2 w2 H2 σ2 Ext.refl ok2 r2
/-- name = [..], the comprehension's list stored straight -/
theorem ss_setL {i : Nat} {y : PySem.Str} {py : Pos} {elt : Expr} {gs : List Comprehension} {scope : Scope} {lpos : Pos} {m : En → M (List P)} {t : TE} (hp : PS X (.Assign [.Name y py] (.ListComp elt gs scope lpos) pos) (tAsg t (gName i))) (k : SimL g E t m) : SS X g E (.Assign [.Name y py] (.ListComp elt gs scope lpos) pos) (sSet i (eLc m)) ∧ SS X g E (.Assign [.Name y py] (.ListComp elt gs scope lpos) pos) (sSet i (eLcR m)) := by
  refine ⟨⟨_, hp, fun w σ H env st D ok re post => ?_⟩, ⟨_, hp, fun w σ H env st D ok re post => ?_⟩⟩
  · exact k.val w σ H env st _ ok re (fl_post post fun v st1 w1 H1 v1 x1 ok1 r1 post1 => post1 w1 H1 _ Ext.refl ok1 ((x1.repE re).put r1))
  · exact k.cell w σ H env st _ ok re (fl_post post fun v st1 w1 H1 v1 x1 ok1 r1 post1 => post1 w1 H1 _ Ext.refl ok1 ((x1.repE re).put r1))
theorem ss_par {i j : Nat} {x y : PySem.Str} {e2 : Expr} {f2 : Ex} {px py pt : Pos} {kt k2 : Nat} {pt2 : Pos} (hc : X.calm = true) (hN : X.N.Nodup) (hi : X.N[i]? = some x) (hj : X.N[j]? = some y) (hij : i ≠ j := by decide)
    (hx : X.env.scope.names.lookup x = some .local) (hy : X.env.scope.names.lookup y = some .local) (ha : SA X g E [e, e2] [fe, f2])
    (hw : swappedStores [.Tuple [.Name x px, .Name y py] kt pt] (.Tuple [e, e2] k2 pt2) X.env = pure (some [x, y]) := by rfl)
    (hs : swapsWithSole [.Tuple [.Name x px, .Name y py] kt pt] (.Tuple [e, e2] k2 pt2) pos.line X.env = pure false := by rfl) : SS X g E (.Assign [.Tuple [.Name x px, .Name y py] kt pt] (.Tuple [e, e2] k2 pt2) pos) (sPar [i, j] [fe, f2]) := by
  obtain ⟨t, p, k⟩ := ha
  refine ⟨_, ps_par hc hN hi hj hij hx hy p hw hs, fun w σ H env st D ok re post => ?_⟩
  refine k w σ H env st _ ok re (fl_post post fun as st1 w1 H1 vs x1 ok1 r1 post1 => ?_)
  cases r1 with
  | nil => exact post1.elim
  | cons ra r1 =>
    cases r1 with
    | nil => exact post1.elim
    | cons rb r1 =>
      cases r1 with
      | cons _ _ => exact post1.elim
      | nil => exact ⟨_, _, rfl, post1 w1 H1 _ Ext.refl ok1 (((x1.repE re).put ra).put rb)⟩
theorem ss_if (hc : SC X g E c fc) (ha : SSs X g E body a) (hb : SSs X g E orelse b) : SS X g E (.If c body orelse pos) (sIf fc a b) := by
  obtain ⟨tc, pc, kc⟩ := hc
  obtain ⟨ta, pa, ka⟩ := ha
  obtain ⟨tb, pb, kb⟩ := hb
  refine ⟨_, ps_if pc pa pb, fun w σ H env st D ok re post => ?_⟩
  refine kc w σ H env st _ ok re (fl_post post fun k st1 w1 H1 k1 x1 ok1 r1 post1 => ?_)
  have r1 : k1 = k := r1
  subst r1
  cases k1 with
  | true => exact ka w1 σ H1 env st1 D ok1 (x1.repE re) post1
  | false => exact kb w1 σ H1 env st1 D ok1 (x1.repE re) post1
/-- what a turn's body comes to -/
theorem body_post {w : Wd} {H : Hp} {r : F} {D : Ends} {N : L2.St → Hp → Prop} {nxt : En → Sto → F} (p : PostS g E w H (match r with
      | .nx e' s' => nxt e' s'
      | .ct e' s' => nxt e' s'
      | .bk e' s' => .nx e' s'
      | .rt a s' => .rt a s'
      | .ex c p e' s' => .ex c p e' s'
      | .no => .no) D) (h : ∀ e' s' w' H' σ', Ext w w' H H' → Ok w' H' s' → RepE w' H' σ' e' → PostS g E w' H' (nxt e' s') D → N σ' H') : PostS g E w H r { D with nx := N, ct := N, bk := D.nx } := by
  cases r with
  | nx e' s' => exact fun w' H' σ' x ok re => h e' s' w' H' σ' x ok re (PostS.ext x p)
  | ct e' s' => exact fun w' H' σ' x ok re => h e' s' w' H' σ' x ok re (PostS.ext x p)
  | bk e' s' => exact p
  | rt a s' => exact p
  | ex c' p' e' s' => exact p
  | no => exact p
theorem ss_for {is : List Nat} {t : Tg} {it : Rt.It} (hp : PassesOwn (model X.prog X.w) X.A X.env X.xe) (hc : X.calm = true) (hi : SI X g E tg iter it) (hg : SG X g E is tg t) (hb : SSs X g E body a)
    (hs : ∀ x, foldedSetIterable iter X.env x = pure x := by intro _; rfl) : SS X g E (.For tg iter body [] pos) (sFor it t a) := by
  obtain ⟨wi, pi, ki⟩ := hi
  obtain ⟨G, pg, kg⟩ := hg
  obtain ⟨tb, pb, kb⟩ := hb
  refine ⟨_, ps_for hp hc pi pg pb hs, fun w σ H env st D ok re post => ?_⟩
  refine ki w σ H env st _ ok re (fl_post post fun xs st1 w1 H1 J x1 ok1 wk post1 => ?_)
  refine ⟨fun i m σ H => m = xs.length - i ∧ i ≤ xs.length ∧ ∃ u st env, Ok u H st ∧ RepE u H σ env ∧ Walk J u H xs ∧ PostS g E u H (forL t a (xs.drop i) env st) D, ⟨_, rfl, Nat.zero_le _, w1, st1, env, ok1, x1.repE re, wk, post1⟩, ?_⟩
  rintro i m σ2 H2 ⟨rfl, hi, u, st2, env2, ok2, re2, wk2, post2⟩
  obtain ⟨k1, k2⟩ := wk2 i u H2 st2 Ext.refl.to0 ok2
  by_cases hlt : i < xs.length
  · obtain ⟨go, yld⟩ := k1 _ (List.getElem?_eq_getElem hlt)
    rw [List.drop_eq_getElem_cons hlt] at post2
    refine .inr ⟨go, fun σ H => i + 1 ≤ xs.length ∧ ∃ u st env, Ok u H st ∧ RepE u H σ env ∧ Walk J u H xs ∧ PostS g E u H (forL t a (xs.drop (i + 1)) env st) D, fun σ' H' f => ⟨_, by omega, rfl, f⟩, fun x H3 y => ?_⟩
    obtain ⟨x3, ok3, r3⟩ := yld x H3 y
    refine kg u σ2 H3 env2 st2 x (.v xs[i]) _ ok3 (x3.repE re2) r3 (fl_post (PostS.ext x3 post2) fun env4 st4 w4 H4 σ4 x4 ok4 re4 post4 _ => ?_)
    refine kb w4 σ4 H4 env4 st4 _ ok4 re4 (body_post post4 fun e' s' w' H' σ' x5 ok5 re5 post5 => ?_)
    exact ⟨hlt, w', s', e', ok5, re5, wk2.ext ((x3.trans x4).trans x5).to0, post5⟩
  · have e : i = xs.length := by omega
    subst e
    rw [List.drop_length] at post2
    exact .inl ⟨k2 (Nat.le_refl _), post2 u H2 σ2 Ext.refl ok2 re2⟩
theorem ss_while (hp : PassesOwn (model X.prog X.w) X.A X.env X.xe) (hc : SC X g E c fc) (hb : SSs X g E body a) : SS X g E (.While c body [] pos) (sWhl fc a) := by
  obtain ⟨tc, pc, kc⟩ := hc
  obtain ⟨tb, pb, kb⟩ := hb
  refine ⟨_, ps_while hp pc pb, fun w σ H env st D ok re post => ?_⟩
  refine ⟨fun m σ H => ∃ u st env, Ok u H st ∧ RepE u H σ env ∧ PostS g E u H (whl fc a m env st) D, ⟨_, w, st, env, ok, re, post⟩, ?_⟩
  rintro m σ2 H2 ⟨u, st2, env2, ok2, re2, post2⟩
  cases m with
  | zero => exact post2.elim
  | succ m =>
    refine kc u σ2 H2 env2 st2 _ ok2 re2 (fl_post post2 fun k st3 w3 H3 k' x3 ok3 r3 post3 => ?_)
    have r3 : k' = k := r3
    subst r3
    cases k' with
    | false => exact post3 w3 H3 σ2 Ext.refl ok3 (x3.repE re2)
    | true =>
      simp only [if_true] at post3 ⊢
      refine ⟨fun σ H => ∃ u st env, Ok u H st ∧ RepE u H σ env ∧ PostS g E u H (whl fc a m env st) D, fun σ' H' f => ⟨m, Nat.lt_succ_self m, f⟩, ?_⟩
      exact kb w3 σ2 H3 env2 st3 _ ok3 (x3.repE re2) (body_post post3 fun e' s' w' H' σ' x5 ok5 re5 post5 => ⟨w', s', e', ok5, re5, post5⟩)
theorem ss_never : SS X g E s sNo := ⟨_, ps_never, fun w σ H env st D ok re post => post.elim⟩
end
end Rt

set_option Elab.async false
set_option linter.all false
set_option maxRecDepth 100000
set_option autoImplicit false
set_option maxHeartbeats 4000000
namespace Rt
open PySem PySem.Spec PyProof.Rows L2

/-! ### defs -/
theorem start_rep {w : Wd} {H : Hp} {N : List PySem.Str} {n : Nat} (hn : N.length = n) {vs : List V} {as : List A} (r : Paired (RepA w H) vs as) (hl : as.length ≤ n) : RepE w H (L2.start N vs) (Rt.start n as) := by
  have e := Paired.len r
  refine ⟨by unfold L2.start Rt.start; simp only [List.length_append, List.length_map, List.length_replicate]; omega, fun i a h => ?_⟩
  have key : ∀ {vs : List V} {as : List A} {k m : Nat} {i : Nat} {a : A}, Paired (RepA w H) vs as → get (as.map some ++ List.replicate k none) i = some a → ∃ v, (vs.map some ++ List.replicate m none : L2.St)[i]? = some (some v) ∧ RepA w H v a := by
    intro vs as k m i a r
    induction r generalizing i with
    | nil =>
      intro h
      exfalso
      have : ∀ (k i : Nat), get (List.replicate k none) i ≠ some a := by
        intro k
        induction k with
        | zero => intro i; cases i <;> exact fun z => nomatch z
        | succ k ih =>
          intro i
          cases i with
          | zero => exact fun z => nomatch z
          | succ i => exact ih i
      exact this k i h
    | cons ra t ih =>
      intro h
      cases i with
      | zero =>
        cases h
        exact ⟨_, rfl, ra⟩
      | succ i =>
        obtain ⟨v, h1, h2⟩ := ih h
        exact ⟨v, h1, h2⟩
  exact key r h
/-- the world at a def's end: the cells of the entry -/
def Wd.back (w : Wd) (n : Nat) : Wd := ⟨w.mu.take n, w.fz, w.kp⟩
theorem Ok.back {w : Wd} {H : Hp} {st : Sto} (ok : Ok w H st) (n : Nat) : Ok (w.back n) H (st.take n) := by
  refine ⟨ok.wok, ?_, fun m c a e1 e2 => ?_, ?_, fun a k => ?_⟩
  · show (w.mu.take n).length = _
    rw [List.length_take, List.length_take, ok.len]
  · have e2 : (w.mu.take n)[m]? = some a := e2
    rw [List.getElem?_take] at e1 e2
    split at e1
    · rename_i h
      rw [if_pos h] at e2
      have q := ok.cells m c a e1 e2
      cases c <;> exact q
    · cases e1
  · exact ok.nd.sublist (List.take_sublist _ _)
  · obtain ⟨k1, k2, k3⟩ := ok.kp a k
    exact ⟨fun z => k1 (List.mem_of_mem_take z), k2, k3⟩
theorem Ext.back {w w' : Wd} {H H' : Hp} {n : Nat} (x : Ext w w' H H') (hn : w.mu.length ≤ n) : Ext w (w'.back n) H H' :=
  ⟨x.fz, x.tup, x.frz, fun m a e => by
    show (w'.mu.take n)[m]? = some a
    rw [List.getElem?_take, if_pos (Nat.lt_of_lt_of_le (List.getElem?_eq_some_iff.mp e).1 hn)]
    exact x.mu m a e, x.kp, x.ke, fun a => ⟨(x.nw a).1, fun z => (x.nw a).2 (List.mem_of_mem_take z)⟩⟩
section
variable {P : Program} {w : World} {K : PySem.W.Frag} {mg : PySem.Str → Option Value} {base : Heap} {CX : CXT} {g : Gc} {k n ar : Nat} {f : Addr} {fd : FuncData} {x qual : PySem.Str} {params : Arguments} {body : List Stmt} {scope : Scope} {dvs : List V} {kws : List (PySem.Str × V)} {N ps : List PySem.Str} {b : Sx} {fn : Fn}
theorem spOf_len (h : ∀ as st, (fn as st = .no) ∨ as.length = ar) (har : ps.length = ar) : ∀ vs H Q E, spOf g fn vs H Q E → vs.length = ps.length := fun vs H Q E ⟨w, st, as, _, r, post⟩ => by
  rcases h as st with e | e
  · rw [e] at post; exact post.elim
  · rw [Paired.len r, e, har]
theorem fnV_len (as : List A) (st : Sto) : (fnV ar n b as st = .no) ∨ as.length = ar := by
  unfold fnV
  cases h : as.length == ar with
  | false => exact .inl rfl
  | true => exact .inr (by simpa using h)
theorem fnR_len (as : List A) (st : Sto) : (fnR ar n b as st = .no) ∨ as.length = ar := by
  unfold fnR
  cases h : as.length == ar with
  | false => exact .inl rfl
  | true => exact .inr (by simpa using h)
/-- a def whose value is handed back for good -/
theorem def_V (F : FunD K x qual params body scope dvs kws f fd) (S : FnScope N ps scope) (hn : N.length = n) (har : ps.length = ar) (hle : ar ≤ n)
    (hb : ∀ (cdv : Value) (A : Around) (outer : List Env) (s : Shared) (H : Hp) (E : XK), Room k (A.deeper (envOfC qual scope s.heap.objs.size f cdv)) → SSs (cxOf CX P w K mg base N qual scope f cdv A outer s H E) g E body b) :
    FnOk P w K mg base CX (k + 1) f fd ps (spOf g (fnV ar n b)) := by
  refine F.ok S (spOf_len fnV_len har) fun cdv A outer s H vs Q E hr h => ?_
  obtain ⟨w0, st, as, ok, r, post⟩ := h
  obtain ⟨t, p, sim⟩ := hb cdv A outer s H E hr
  refine ⟨t, p, sim w0 _ H (Rt.start n as) st _ ok ?_ ?_⟩
  · rcases fnV_len (b := b) (n := n) (ar := ar) as st with e | e
    · rw [e] at post; exact post.elim
    · exact start_rep hn r (by omega)
  · unfold fnV at post
    cases h : as.length == ar with
    | false => rw [h] at post; exact post.elim
    | true =>
      rw [h] at post
      simp only [if_true] at post
      have hl : w0.mu.length ≤ st.length := Nat.le_of_eq ok.len
      cases q : b (Rt.start n as) st with
      | nx e' s' =>
        rw [q] at post
        exact fun w' H' σ' x' ok' _ => post _ H' .non (x'.back hl) (ok'.back _) Rep.non
      | rt a s' =>
        rw [q] at post
        intro w' H' v x' ok' ra
        simp only at post
        cases z : toV a s' with
        | ok pv s2 =>
          rw [z] at post
          obtain ⟨w2, x2, ok2, r2⟩ := toV_ok ok' ra z
          exact post _ H' v ((x'.trans x2).back hl) (ok2.back _) r2
        | ex c p' s2 => rw [z] at post; exact post.elim
        | no => rw [z] at post; exact post.elim
      | bk e' s' => rw [q] at post; exact post.elim
      | ct e' s' => rw [q] at post; exact post.elim
      | ex c p' e' s' =>
        rw [q] at post
        exact fun w' H' d v x' ok' hd rp => post _ H' d v (x'.back hl) (ok'.back _) hd rp
      | no => rw [q] at post; exact post.elim
/-- one cell more behind those of the entry -/
theorem Ok.back1 {w : Wd} {H : Hp} {st : Sto} (ok : Ok w H st) {n j : Nat} {a : Addr} {c : Cell} (hj : n ≤ j) (hm : w.mu[j]? = some a) (hc : st[j]? = some c) : Ok ⟨w.mu.take n ++ [a], w.fz, w.kp⟩ H (st.take n ++ [c]) := by
  have ob := ok.back n
  have hn : n ≤ w.mu.length := Nat.le_of_lt (Nat.lt_of_le_of_lt hj (List.getElem?_eq_some_iff.mp hm).1)
  have l1 : (w.mu.take n).length = n := by rw [List.length_take]; omega
  have l2 : (st.take n).length = n := by rw [List.length_take, ← ok.len]; omega
  refine ⟨ok.wok, by rw [List.length_append, List.length_append, l1, l2]; rfl, fun m d b e1 e2 => ?_, ?_, fun b k => ?_⟩
  · have e2 : (w.mu.take n ++ [a])[m]? = some b := e2
    by_cases h : m < n
    · rw [List.getElem?_append_left (by omega)] at e1 e2
      have q := ob.cells m d b e1 e2
      cases d <;> exact q
    · rw [List.getElem?_append_right (by omega)] at e1 e2
      rw [l2] at e1
      rw [l1] at e2
      cases hz : m - n with
      | succ z => rw [hz] at e1; cases e1
      | zero =>
        rw [hz] at e1 e2
        cases e1
        cases e2
        have q := ok.cells j c a hc hm
        cases c <;> exact q
  · show (w.mu.take n ++ [a]).Nodup
    rw [List.nodup_append]
    refine ⟨ob.nd, List.nodup_cons.mpr ⟨by simp, List.nodup_nil⟩, fun u hu v hv e => ?_⟩
    have hv : v = a := by simpa using hv
    rw [e, hv] at hu
    obtain ⟨i, hi, e3⟩ := List.mem_iff_getElem.mp hu
    rw [List.getElem_take] at e3
    have hi2 : i < n := by rw [l1] at hi; exact hi
    obtain ⟨h1, e4⟩ := List.getElem?_eq_some_iff.mp hm
    have := (List.getElem_inj ok.nd).mp (e3.trans e4.symm)
    omega
  · obtain ⟨k1, k2, k3⟩ := ok.kp b k
    refine ⟨fun z => ?_, k2, k3⟩
    rcases List.mem_append.mp (show b ∈ w.mu.take n ++ [a] from z) with z | z
    · exact k1 (List.mem_of_mem_take z)
    · have z : b = a := by simpa using z
      exact k1 (by rw [z]; exact List.mem_of_getElem? hm)
/-- a def that hands back a list (a dict) that may be changed -/
theorem def_R (F : FunD K x qual params body scope dvs kws f fd) (S : FnScope N ps scope) (hn : N.length = n) (har : ps.length = ar) (hle : ar ≤ n)
    (hb : ∀ (cdv : Value) (A : Around) (outer : List Env) (s : Shared) (H : Hp) (E : XK), Room k (A.deeper (envOfC qual scope s.heap.objs.size f cdv)) → SSs (cxOf CX P w K mg base N qual scope f cdv A outer s H E) g E body b) :
    FnOk P w K mg base CX (k + 1) f fd ps (spOf g (fnR ar n b)) := by
  refine F.ok S (spOf_len fnR_len har) fun cdv A outer s H vs Q E hr h => ?_
  obtain ⟨w0, st, as, ok, r, post⟩ := h
  obtain ⟨t, p, sim⟩ := hb cdv A outer s H E hr
  refine ⟨t, p, sim w0 _ H (Rt.start n as) st _ ok ?_ ?_⟩
  · rcases fnR_len (b := b) (n := n) (ar := ar) as st with e | e
    · rw [e] at post; exact post.elim
    · exact start_rep hn r (by omega)
  · unfold fnR at post
    cases h : as.length == ar with
    | false => rw [h] at post; exact post.elim
    | true =>
      rw [h] at post
      simp only [if_true] at post
      have hl : w0.mu.length ≤ st.length := Nat.le_of_eq ok.len
      cases q : b (Rt.start n as) st with
      | nx e' s' => rw [q] at post; exact post.elim
      | rt a s' =>
        rw [q] at post
        intro w' H' v x' ok' ra
        cases a with
        | v _ => exact post.elim
        | r j =>
          simp only at post
          cases hj : Nat.ble st.length j with
          | false => rw [hj] at post; exact post.elim
          | true =>
            rw [hj] at post
            simp only [if_true] at post
            obtain ⟨ad, e1, e2⟩ := ra
            obtain ⟨c, hc, _⟩ := ok'.cell_of e1
            rw [lookC_eq, hc] at post
            have hj2 := Nat.le_of_ble_eq_true hj
            have ok2 := ok'.back1 hj2 e1 hc
            have l1 : (w'.mu.take st.length).length = st.length := by
              have := (List.getElem?_eq_some_iff.mp e1).1
              rw [List.length_take]; omega
            refine post ⟨w'.mu.take st.length ++ [ad], w'.fz, w'.kp⟩ H' v ⟨x'.fz, x'.tup, x'.frz, fun m b e => ?_, x'.kp, x'.ke, fun a => ⟨(x'.nw a).1, fun z => (x'.nw a).2 ((List.mem_append.mp (show a ∈ w'.mu.take st.length ++ [ad] from z)).elim List.mem_of_mem_take fun z => by rw [List.mem_singleton.mp z]; exact List.mem_of_getElem? e1)⟩⟩ ok2 ⟨ad, ?_, e2⟩
            · have := (x'.back hl).mu m b e
              show (w'.mu.take st.length ++ [ad])[m]? = some b
              have this : (w'.mu.take st.length)[m]? = some b := this
              rw [List.getElem?_append_left (List.getElem?_eq_some_iff.mp this).1]
              exact this
            · show (w'.mu.take st.length ++ [ad])[st.length]? = some ad
              rw [List.getElem?_append_right (by omega), l1, Nat.sub_self]
              rfl
      | bk e' s' => rw [q] at post; exact post.elim
      | ct e' s' => rw [q] at post; exact post.elim
      | ex c p' e' s' =>
        rw [q] at post
        exact fun w' H' d v x' ok' hd rp => post _ H' d v (x'.back hl) (ok'.back _) hd rp
      | no => rw [q] at post; exact post.elim
/-- no fuel: nothing is promised -/
theorem def_never : FnOk P w K mg base CX k f fd ps (spOf g never) :=
  ⟨fun vs H Q E h => by obtain ⟨_, _, _, _, _, post⟩ := h; exact post.elim, fun A outer s H args us vs Q E _ _ _ _ h => by obtain ⟨_, _, _, _, _, post⟩ := h; exact post.elim⟩
end

/-! ### the end: a law over a head by facts -/
def noList (K : PySem.W.Frag) : Bool := K.all fun q => !(q.2.cls == Value.type "list")
theorem noList_at {K : PySem.W.Frag} (h : noList K = true) {a : Addr} {o : Obj} (e : K.lookup a = some o) : o.cls ≠ Value.type "list" := fun c => by
  have := List.all_eq_true.mp h _ (He.lookup_mem e)
  rw [c] at this
  simp at this
/-- names that stand for built-in functions of modules -/
def bfOk (fb : List (PySem.Str × String)) (K : PySem.W.Frag) : Bool := fb.all fun p => He.eqO (PySem.W.nsIn K mainGlobals p.1) (some (some (.builtin p.2)))
theorem bf_ok {fb : List (PySem.Str × String)} {K : PySem.W.Frag} {h : Heap} {mg : PySem.Str → Option Value} (X : K.In h) (G : h.Ns mainGlobals mg) (c : bfOk fb K = true) {x : PySem.Str} {id : String} (hx : (x, id) ∈ fb) : mg x = some (.builtin id) :=
  PySem.W.mg_of X G (He.eqO_ok (List.all_eq_true.mp c _ hx))
abbrev AlL : Type := He.AlD × Bool
def obsL (fa : List He.Fa) (fn : List He.DefD) (fb : List (PySem.Str × String)) (K : PySem.W.Frag) : AlL := (He.obsD fa fn K, noList K && bfOk fb K)
def obsLG (n : Nat) (fa : List He.Fa) (fn : List He.DefD) (fb : List (PySem.Str × String)) (g : Addr → Option Obj) : AlL := obsL fa fn fb (He.frG g (He.asD g n))
def hookL (n : Nat) (fa : List He.Fa) (fn : List He.DefD) (fb : List (PySem.Str × String)) : PySem.W.Hook where
  α := AlL
  obs := fun s => obsLG n fa fn fb s.heap.get?
  val := fun _ => (He.valD fn, true)
  says := fun _ h => ∃ K : PySem.W.Frag, K.In h ∧ He.SaysD fa fn K ∧ (noList K && bfOk fb K) = true
  of := fun _ _ e => ⟨_, He.frG_in, congrArg (fun z : AlL => z.1) e, congrArg (fun z : AlL => z.2) e⟩
  keeps := fun _ _ _ ⟨K, hK, c⟩ k => ⟨K, PySem.W.Frag.In.keeps hK k, c⟩
theorem obsLG_eq {n : Nat} {fa : List He.Fa} {fn : List He.DefD} {fb : List (PySem.Str × String)} {g : Addr → Option Obj} {s : Shared} (h : ∀ a, g a = s.heap.get? a) : obsLG n fa fn fb g = (hookL n fa fn fb).obs s := by
  have e : g = s.heap.get? := funext h
  rw [e] <;> rfl
/-- the law's promise: at each script of so many ints its value is True -/
def Good63 (fn : Fn) : Prop := ∀ ns : List Int, ns.length ≤ 63 → ∃ st, fn [.v (.lst (ns.map P.int))] [] = .ok (.v (.bl true)) st
theorem law_sp {g : Gc} {fn : Fn} (h : Good63 fn) {K : PySem.W.Frag} (hk : noList K = true) (H : Hp) (a : Addr) (ns : List Int) (hl : ns.length ≤ 63) (hO : Only H) (hS : SqL K H a (ns.map V.int)) : spOf g fn [.ref a] H (fun v _ => v = .bl true) (fun _ _ _ => False) := by
  have hz : LstZ (fun _ => False) H a (ns.map V.int) := by
    rcases hS with hS | ⟨o, its, n, e, c, _⟩
    · rcases hS with hS | ⟨o, hS⟩
      · rcases hO a with e | ⟨o, xs, e⟩
        · rw [hS] at e; cases e
        · rw [hS] at e; cases e
      · exact .inr ⟨o, hS⟩
    · exact absurd c (noList_at hk e)
  have rs : ∀ ns : List Int, Reps (fun _ => False) H (ns.map V.int) (ns.map P.int) := fun ns => by
    induction ns with
    | nil => exact .nil
    | cons n r ih => exact .cons Rep.int ih
  obtain ⟨st, e⟩ := h ns hl
  refine ⟨⟨[], fun _ => False, fun _ => False⟩, [], [.v (.lst (ns.map P.int))], ⟨fun _ f => f.elim, rfl, fun n c a e => by simp at e, List.nodup_nil, fun _ f => f.elim⟩, .cons (Rep.lst hz (rs ns)) .nil, ?_⟩
  rw [e]
  exact fun w' H' v x ok r => Rep.bl_inv r
end Rt

set_option Elab.async false
set_option linter.all false
set_option maxRecDepth 100000
set_option autoImplicit false
set_option maxHeartbeats 4000000
namespace Rt
open PySem PySem.Spec PyProof.Rows L2

/-! ### new dicts -/
section
variable {w : Wd} {H : Hp} {st : Sto} {D : Addr} {g : Gc} {E : XK}
theorem Ok.hold_any {o : HO} (ok : Ok w H st) (d1 : D ∉ w.mu) (d3 : ¬ w.kp D) (e : H D = some o) : Ext w (w.hold D) H H ∧ Ok (w.hold D) H st := by
  have x : Ext w (w.hold D) H H := ⟨fun b f => ⟨.inl f, fun _ e => .inl e⟩, fun _ _ e => e, fun _ _ _ e => e, fun _ _ e => e, rfl, fun _ _ => rfl, fun _ => ⟨fun h => h, .inl⟩⟩
  refine ⟨x, fun a f => f.elim (ok.wok a) fun z => ⟨o, (congrArg H z).trans e⟩, ok.len, fun n c a e1 e2 => ?_, ok.nd, fun a k => ?_⟩
  · exact (ok.cells n c a e1 e2).keep x rfl fun z => z.elim (fun z => z) fun z => absurd (List.mem_of_getElem? e2) (by rw [z]; exact d1)
  · obtain ⟨k1, k2, k3⟩ := ok.kp a k
    exact ⟨k1, fun z => z.elim k2 fun z => d3 (by rw [← z]; exact k), k3⟩
theorem Ok.cell_any {c : Cell} (ok : Ok w H st) (d1 : D ∉ w.mu) (d3 : ¬ w.kp D) (hc : CellOk (w.cell D) H D c) : Ok (w.cell D) H (st ++ [c]) ∧ RepA (w.cell D) H (.ref D) (.r st.length) := by
  refine ⟨⟨ok.wok, ?_, fun n d a e1 e2 => ?_, ?_, fun a k => ?_⟩, D, ?_, rfl⟩
  · show (w.mu ++ [D]).length = _
    rw [List.length_append, List.length_append, ok.len]; rfl
  · have e2 : (w.mu ++ [D])[n]? = some a := e2
    by_cases hn : n < w.mu.length
    · rw [List.getElem?_append_left hn] at e2
      rw [List.getElem?_append_left (by rw [← ok.len]; exact hn)] at e1
      exact (ok.cells n d a e1 e2).cell
    · have en : n = w.mu.length := by
        have := (List.getElem?_eq_some_iff.mp e2).1
        rw [List.length_append] at this
        simp at this
        omega
      subst en
      rw [mu_last] at e2
      cases e2
      have e3 : (st ++ [c])[w.mu.length]? = some c := by rw [ok.len]; simp
      rw [e3] at e1
      cases e1
      exact hc
  · show (w.mu ++ [D]).Nodup
    rw [List.nodup_append]
    exact ⟨ok.nd, List.nodup_cons.mpr ⟨by simp, List.nodup_nil⟩, fun a ha b hb e => by
      have hb : b = D := by simpa using hb
      rw [e, hb] at ha
      exact d1 ha⟩
  · obtain ⟨k1, k2, k3⟩ := ok.kp a k
    refine ⟨fun z => ?_, k2, k3⟩
    rcases List.mem_append.mp (show a ∈ w.mu ++ [D] from z) with z | z
    · exact k1 z
    · have z : a = D := by simpa using z
      rw [z] at k; exact d3 k
  · show (w.mu ++ [D])[st.length]? = some D
    rw [← ok.len]; exact mu_last
/-- a dict that nobody knows yet -/
abbrev relH : Wd → Hp → Addr → Bool × List (P × P) → Prop := fun w H D tk => D ∉ w.mu ∧ ¬ w.fz D ∧ ¬ w.kp D ∧ (∀ o u, H D ≠ some (.frz o u)) ∧ Kvs w.fz H D tk.1 tk.2
theorem Kvs.ext {w w' : Wd} {H : Hp} {a : Addr} {t : Bool} {kvs : List (P × P)} (x : Ext w w' H H) (k : Kvs w.fz H a t kvs) : Kvs w'.fz H a t kvs := by
  rcases k with ⟨et, es, h1, h2⟩ | ⟨et, es, h1, h2⟩
  · exact .inl ⟨et, es, h1, Paired.imp h2 fun _ _ q => ⟨q.1, x.rep q.2⟩⟩
  · exact .inr ⟨et, es, h1, Paired.imp h2 fun _ _ q => ⟨q.1, x.rep q.2⟩⟩
theorem dval_post {t : Bool} {kvs : List (P × P)} {Q : V → Hp → Prop} (ok : Ok w H st) (r : relH w H D (t, kvs)) (q : ∀ w' H' v, Ext w w' H H' → Ok w' H' st → Rep w'.fz H' v (.dic t kvs) → Q v H') : Q (.ref D) H := by
  obtain ⟨d1, d2, d3, d4, kv⟩ := r
  obtain ⟨o, e⟩ := kv.there
  obtain ⟨x, ok2⟩ := ok.hold_any d1 d3 e
  exact q _ H _ x ok2 (Rep.dic (.inr rfl) (kv.ext x))
theorem Kvs.cell {w : Wd} {H : Hp} {D a : Addr} {t : Bool} {kvs : List (P × P)} (k : Kvs w.fz H a t kvs) : Kvs (w.cell D).fz H a t kvs := k
theorem dcell_post {w0 : Wd} {H0 : Hp} {t : Bool} {kvs : List (P × P)} {Q : V → Hp → Prop} (x : Ext w0 w H0 H) (hD : H0 D = none) (ok : Ok w H st) (r : relH w H D (t, kvs)) (q : Post g E relA w0 H0 (freshD t kvs st) Q) : Q (.ref D) H := by
  obtain ⟨d1, d2, d3, d4, kv⟩ := r
  obtain ⟨ok2, ra⟩ := ok.cell_any (c := .d t kvs) d1 d3 ⟨d2, kv.cell, d4⟩
  exact q _ H _ (x.addcell hD) ok2 ra
/-- a dict just laid -/
theorem relH_new {o : HO} {t : Bool} {kvs : List (P × P)} (ok : Ok w H st) (hD : H D = none) (hz : ∀ q u, o ≠ .frz q u) (kv : Kvs w.fz (upd H D o) D t kvs) : Ext w w H (upd H D o) ∧ Ok w (upd H D o) st ∧ relH w (upd H D o) D (t, kvs) := by
  obtain ⟨f1, f2⟩ := ok.fresh hD
  refine ⟨Ext.laid ok hD, ok.laid hD, f1, f2, fun k => ?_, fun q u e => ?_, kv⟩
  · obtain ⟨_, _, o', e⟩ := ok.kp D k
    rw [hD] at e; cases e
  · rw [upd_same] at e; exact hz q u (Option.some.inj e)
end

/-! ### {k: v, ..} -/
abbrev relV2 : Wd → Hp → List (V × V) → List (P × P) → Prop := fun w H ps qs => Paired (fun a b => Rep w.fz H a.1 b.1 ∧ Rep w.fz H a.2 b.2) ps qs
def SimP (g : Gc) (E : XK) (trs : List (TE × TE)) (es : List (Ex × Ex)) : Prop := ∀ (w : Wd) (σ : L2.St) (H : Hp) (env : En) (st : Sto) (Q : List (V × V) → Hp → Prop), Ok w H st → RepE w H σ env → Post g E relV2 w H (evD es env st) Q → tPairs trs σ H Q
structure SP2 (X : L2.Cx) (g : Gc) (E : XK) (ks : List (Option Expr)) (vs : List Expr) (es : List (Ex × Ex)) : Prop where
  ex : ∃ trs, (∀ pos, PPs X pos ks vs trs) ∧ SimP g E trs es
section
variable {X : L2.Cx} {g : Gc} {E : XK} {k v : Expr} {fk fv : Ex} {ks : List (Option Expr)} {vs : List Expr} {es : List (Ex × Ex)} {pos : Pos}
theorem sp_nil : SP2 X g E [] [] [] := ⟨[], fun _ => pps_nil, fun w σ H env st Q ok re post => post w H [] Ext.refl ok .nil⟩
theorem sp_cons (hk : SE X g E k fk) (hv : SE X g E v fv) (hr : SP2 X g E ks vs es) : SP2 X g E (some k :: ks) (v :: vs) ((fk, fv) :: es) := by
  obtain ⟨tk, pk, sk⟩ := hk
  obtain ⟨tv, pv, sv⟩ := hv
  obtain ⟨trs, pr, sr⟩ := hr
  refine ⟨_, fun pos => pps_cons pk pv (pr pos), fun w σ H env st Q ok re post => ?_⟩
  refine sk w σ H env st _ ok re (Post.bind post fun x st1 w1 H1 v1 x1 ok1 r1 post1 => ?_)
  refine sv w1 σ H1 env st1 _ ok1 (x1.repE re) (Post.bind post1 fun y st2 w2 H2 v2 x2 ok2 r2 post2 => ?_)
  refine sr w2 σ H2 env st2 _ ok2 (x2.repE (x1.repE re)) (Post.bind post2 fun zs st3 w3 H3 v3 x3 ok3 r3 post3 => ?_)
  obtain ⟨w4, st4, p, x4, ok4, r4, post4⟩ := toV_post ok3 (x3.repA (x2.repA r1)) post3
  obtain ⟨w5, st5, q, x5, ok5, r5, post5⟩ := toV_post ok4 (x4.repA (x3.repA r2)) post4
  exact post5 w5 H3 _ Ext.refl ok5 (.cons ⟨x5.rep r4, r5⟩ (Paired.imp r3 fun _ _ z => ⟨(x4.trans x5).rep z.1, (x4.trans x5).rep z.2⟩))
/-- in a world that keeps D -/
theorem post_keep {α β : Type} {rel : Wd → Hp → β → α → Prop} (hrel : ∀ (u : Wd) (D : Addr) (H : Hp) b a, rel (u.keep D) H b a → rel u H b a) {u : Wd} {H : Hp} {D : Addr} {r : R α} {Q : β → Hp → Prop} {B : Hp → Prop} (hB : ∀ H', H' D = H D → B H')
    (p : Post g E rel u H r fun b H' => B H' → ∀ u' st', Ext u u' H H' → Ok (u'.keep D) H' st' → Q b H') : Post g E rel (u.keep D) H r fun b H' => ∃ u' st', Ext u u' H H' ∧ Ok (u'.keep D) H' st' := by
  cases r with
  | ok a st =>
    intro w' H' b x ok rl
    obtain ⟨u', e, y, d⟩ := x.unkept
    subst e
    exact ⟨u', st, y, ok⟩
  | ex c q st =>
    intro w' H' d v x ok hd rp
    obtain ⟨u', e, y, _⟩ := x.unkept
    subst e
    exact p u' H' d v y ok.unkept.1 hd rp
  | no => exact p
end
theorem pairs_K {w : Wd} {H : Hp} : ∀ {ps : List (V × V)} {qs : List (P × P)}, relV2 w H ps qs → (qs.all fun q => keyOk false q.1) = true → ∃ es : List (Key × V), ps = es.map (fun kv => (kV kv.1, kv.2)) ∧ PkK w.fz H es qs
  | _, _, .nil, _ => ⟨[], rfl, .nil⟩
  | _, _, .cons (a := a) (b := b) r t, h => by
    obtain ⟨h1, h2⟩ := Bool.and_eq_true_iff.mp (show (keyOk false b.1 && _) = true from h)
    obtain ⟨es, e1, e2⟩ := pairs_K t h2
    obtain ⟨k, ek⟩ := keyOk_K h1
    refine ⟨(k, a.2) :: es, ?_, .cons ⟨ek, r.2⟩ e2⟩
    rw [List.map_cons, ← e1, ← rep_key r.1 ek]
section
variable {X : L2.Cx} {g : Gc} {E : XK} {ks : List (Option Expr)} {vs : List Expr} {es : List (Ex × Ex)} {pos : Pos}
theorem disp_sim (s : ∃ trs, (∀ pos, PPs X pos ks vs trs) ∧ SimP g E trs es) (hz : es.length ≤ 15) {f : List (P × P) → Sto → R A} (hf : ∀ (w0 w : Wd) (H0 H : Hp) (st : Sto) (D : Addr) (kvs : List (P × P)) (Q : V → Hp → Prop), Ext w0 w H0 H → H0 D = none → Ok w H st → relH w H D (false, putAll [] kvs) → (kvs.all fun q => keyOk false q.1) = true → Post g E relA w0 H0 (f kvs st) Q → Q (.ref D) H)
    (hno : ∀ kvs st, (kvs.all fun q => keyOk false q.1) = true ∨ f kvs st = .no) :
    ∃ trs, (∀ pos, PPs X pos ks vs trs) ∧ Sim g E relA (tDisp trs) (fun env => Rt.bind (evD es env) f) := by
  obtain ⟨trs, pp, sim⟩ := s
  refine ⟨trs, pp, fun w σ H env st Q ok re post D hD => ?_⟩
  obtain ⟨y1, ok2, hk⟩ := ok.kept_new (o := .dK []) hD
  have hl : ∀ {es : List (Ex × Ex)} {env : En} {st st' : Sto} {kvs : List (P × P)}, evD es env st = .ok kvs st' → kvs.length = es.length := by
    intro es
    induction es with
    | nil => intro env st st' kvs h; cases h; rfl
    | cons p r ih =>
      intro env st st' kvs h
      obtain ⟨fk, fv⟩ := p
      obtain ⟨x, s1, _, h⟩ := bind_ok (show Rt.bind (fk env) (fun x => Rt.bind (fv env) fun y => Rt.bind (evD r env) fun xs => Rt.bind (toV x) fun p => Rt.bind (toV y) fun q => ret ((p, q) :: xs)) st = .ok kvs st' from h)
      obtain ⟨y, s2, _, h⟩ := bind_ok h
      obtain ⟨zs, s3, h3, h⟩ := bind_ok h
      obtain ⟨p, s4, _, h⟩ := bind_ok h
      obtain ⟨q, s5, _, h⟩ := bind_ok h
      cases h
      rw [List.length_cons, List.length_cons, ih h3]
  refine sim (w.keep D) σ (upd H D (.dK [])) env st _ ok2 (y1.repE re).keep ?_
  dsimp only at post
  unfold Rt.bind at post
  cases q : evD es env st with
  | no => rw [q] at post; exact post.elim
  | ex c p st' =>
    rw [q] at post
    intro w' H' d v x ok' hd rp
    obtain ⟨u', e, y, _⟩ := x.unkept
    subst e
    exact post u' H' d v (y1.trans y) ok'.unkept.1 hd rp
  | ok kvs st' =>
    rw [q] at post
    have post : Post g E relA w H (f kvs st') Q := post
    intro w' H' ps x ok' rl
    obtain ⟨u', e, y, dd⟩ := x.unkept
    subst e
    have hD2 : H' D = some (.dK []) := by rw [dd]; exact upd_same
    refine ⟨hD2, ?_⟩
    rcases hno kvs st' with hkk | e
    · obtain ⟨ms, e1, e2⟩ := pairs_K (show relV2 u' H' ps kvs from rl) hkk
      refine ⟨ms, e1, ?_, ?_⟩
      · have l1 := Paired.len e2
        have l2 := hl q
        omega
      · have hk' : ¬ u'.kp D := by rw [y.kp]; exact hk
        obtain ⟨x3, ok3⟩ := ok'.filled (o' := .dK (mergeK [] ms)) hk' hD2 (fun _ z => nomatch z) fun _ _ z => nomatch z
        obtain ⟨ok4, m1, m2⟩ := ok3.unkept
        have kv : PkK u'.fz H' (mergeK [] ms) (putAll [] kvs) := putAll_K e2 .nil
        refine hf w u' H _ st' D kvs Q ((y1.trans y).trans x3) hD ok4 ⟨m1, m2, hk', fun o u e => (by rw [upd_same] at e; cases e), .inl ⟨rfl, _, .inl upd_same, Paired.imp kv fun _ _ z => ⟨z.1, x3.rep z.2⟩⟩⟩ hkk ?_
        exact post
    · rw [e] at post; exact post.elim
theorem se_dic (s : SP2 X g E ks vs es) (hall : ks.all (·.isSome) = true := by rfl) (hl : ks.length = vs.length := by rfl) (h0 : ks ≠ [] := by exact fun z => nomatch z) (h15 : ks.length ≤ 15 := by decide) (hz : es.length ≤ 15 := by decide) : SE X g E (.Dict ks vs pos) (eDic false es) := by
  obtain ⟨trs, pp, sim⟩ := disp_sim s.ex hz (f := fun kvs => Rt.bind (dicOf false kvs) fun d => ret (.v (.dic false d))) (fun w0 w H0 H st D kvs Q x0 hD ok r hk post => by
    unfold dicOf at post
    rw [if_pos hk] at post
    exact dval_post ok r fun w' H' v x ok' r' => post w' H' v (x0.trans x) ok' r') (fun kvs st => by
    unfold dicOf
    cases h : kvs.all fun q => keyOk false q.1 with
    | true => exact .inl rfl
    | false => exact .inr rfl)
  exact ⟨_, pe_disp (pp pos) hall hl h0 h15, sim⟩
theorem se_dicR (s : SP2 X g E ks vs es) (hall : ks.all (·.isSome) = true := by rfl) (hl : ks.length = vs.length := by rfl) (h0 : ks ≠ [] := by exact fun z => nomatch z) (h15 : ks.length ≤ 15 := by decide) (hz : es.length ≤ 15 := by decide) : SE X g E (.Dict ks vs pos) (eDicR false es) := by
  obtain ⟨trs, pp, sim⟩ := disp_sim s.ex hz (f := fun kvs => Rt.bind (dicOf false kvs) fun d => freshD false d) (fun w0 w H0 H st D kvs Q x0 hD ok r hk post => by
    unfold dicOf at post
    rw [if_pos hk] at post
    exact dcell_post x0 hD ok r post) (fun kvs st => by
    unfold dicOf
    cases h : kvs.all fun q => keyOk false q.1 with
    | true => exact .inl rfl
    | false => exact .inr rfl)
  exact ⟨_, pe_disp (pp pos) hall hl h0 h15, sim⟩
/-- {} -/
theorem se_dic0 (t : Bool) : SE X g E (.Dict [] [] pos) (eDic t []) := by
  cases t with
  | false => exact ⟨_, pe_dnewK, fun w σ H env st Q ok re post D hD => by
      obtain ⟨x, ok2, r⟩ := relH_new (t := false) (kvs := []) (o := .dK []) ok hD (fun _ _ z => nomatch z) (.inl ⟨rfl, [], .inl upd_same, .nil⟩)
      exact dval_post ok2 r fun w' H' v x' ok' r' => post w' H' v (x.trans x') ok' r'⟩
  | true => exact ⟨_, pe_dnewT, fun w σ H env st Q ok re post D hD => by
      obtain ⟨x, ok2, r⟩ := relH_new (t := true) (kvs := []) (o := .dT []) ok hD (fun _ _ z => nomatch z) (.inr ⟨rfl, [], .inl upd_same, .nil⟩)
      exact dval_post ok2 r fun w' H' v x' ok' r' => post w' H' v (x.trans x') ok' r'⟩
theorem se_dic0R (t : Bool) : SE X g E (.Dict [] [] pos) (eDicR t []) := by
  cases t with
  | false => exact ⟨_, pe_dnewK, fun w σ H env st Q ok re post D hD => by
      obtain ⟨x, ok2, r⟩ := relH_new (t := false) (kvs := []) (o := .dK []) ok hD (fun _ _ z => nomatch z) (.inl ⟨rfl, [], .inl upd_same, .nil⟩)
      exact dcell_post x hD ok2 r post⟩
  | true => exact ⟨_, pe_dnewT, fun w σ H env st Q ok re post D hD => by
      obtain ⟨x, ok2, r⟩ := relH_new (t := true) (kvs := []) (o := .dT []) ok hD (fun _ _ z => nomatch z) (.inr ⟨rfl, [], .inl upd_same, .nil⟩)
      exact dcell_post x hD ok2 r post⟩
end

/-! ### dict(a list of pairs) -/
def rDictP (K : PySem.W.Frag) : List V → Hp → VK → Prop := fun xs H Q => ∃ (a : Addr) (ps : List Addr) (kvs : List (Key × V)), xs = [.ref a] ∧ SqL K H a (ps.map V.ref) ∧ Paired (fun p kv => SqT K H p [kV kv.1, kv.2]) ps kvs ∧ ∀ p, H p = none → Q (.ref p) (upd H p (.dK (mergeK [] kvs)))
theorem pairsOf_reps {K : PySem.W.Frag} {w : Wd} {H : Hp} : ∀ {vs : List V} {ps : List P} {kvs : List (P × P)}, Reps w.fz H vs ps → pairsOf ps = some kvs → (kvs.all fun q => keyOk false q.1) = true →
    ∃ (as : List Addr) (es : List (Key × V)), vs = as.map V.ref ∧ Paired (fun p kv => SqT K H p [kV kv.1, kv.2]) as es ∧ PkK w.fz H es kvs
  | _, _, _, .nil, h, _ => by cases h; exact ⟨[], [], rfl, .nil, .nil⟩
  | _, _, kvs, .cons (b := p) (l₂ := ps) r t, h, hk => by
    cases p with
    | tup qs =>
      cases qs with
      | nil => cases h
      | cons k qs =>
        cases qs with
        | nil => cases h
        | cons v qs =>
          cases qs with
          | cons _ _ => cases h
          | nil =>
            have h : (pairsOf ps).map ((k, v) :: ·) = some kvs := h
            cases e : pairsOf ps with
            | none => rw [e] at h; cases h
            | some r' =>
              rw [e] at h
              cases h
              obtain ⟨h1, h2⟩ := Bool.and_eq_true_iff.mp (show (keyOk false k && _) = true from hk)
              obtain ⟨as, es, e1, e2, e3⟩ := pairsOf_reps (K := K) t e h2
              obtain ⟨b, us, e4, s, rs⟩ := r.tup_inv
              obtain ⟨kk, ek⟩ := keyOk_K h1
              cases rs with
              | cons ra rs =>
                cases rs with
                | cons rb rs =>
                  cases rs
                  rename_i x y
                  have ex := rep_key ra ek
                  subst ex
                  exact ⟨b :: as, (kk, y) :: es, by rw [List.map_cons, ← e1, e4], .cons (SqT.of s) e2, .cons ⟨ek, rb⟩ e3⟩
    | _ => cases h
section
variable {w : Wd} {H : Hp} {g : Gc} {E : XK}
theorem dictOf_inv {p q : P} (h : dictOf false p = some q) : ∃ xs kvs, p = .lst xs ∧ pairsOf xs = some kvs ∧ (kvs.all fun q => keyOk false q.1) = true ∧ q = .dic false (putAll [] kvs) := by
  cases p with
  | lst xs =>
    have h : (match pairsOf xs with
      | some kvs => if kvs.all (fun q => keyOk false q.1) then some (P.dic false (putAll [] kvs)) else none
      | none => none) = some q := h
    cases e : pairsOf xs with
    | none => rw [e] at h; cases h
    | some kvs =>
      rw [e] at h
      have h : (if kvs.all (fun q => keyOk false q.1) then some (P.dic false (putAll [] kvs)) else none) = some q := h
      split at h
      · rename_i hk
        cases h
        exact ⟨xs, kvs, rfl, e, hk, rfl⟩
      · cases h
  | _ => cases h
theorem dictP_new {K : PySem.W.Frag} {st : Sto} {x : V} {xs : List P} {kvs : List (P × P)} (ok : Ok w H st) (cx : Cur w H x (.lst xs)) (e : pairsOf xs = some kvs) (hk : (kvs.all fun q => keyOk false q.1) = true) {Q : VK}
    (fin : ∀ H' D, Ext w w H H' → H D = none → Ok w H' st → relH w H' D (false, putAll [] kvs) → Q (.ref D) H') : rDictP K [x] H Q := by
  obtain ⟨a, vs, e1, s, r⟩ := cx
  subst e1
  obtain ⟨as, es, e2, e3, e4⟩ := pairsOf_reps (K := K) r e hk
  subst e2
  refine ⟨a, as, es, rfl, .inl s, e3, fun D hD => ?_⟩
  have x := Ext.laid (o := .dK (mergeK [] es)) ok hD
  have kv : PkK w.fz H (mergeK [] es) (putAll [] kvs) := putAll_K e4 .nil
  obtain ⟨x1, ok1, r1⟩ := relH_new (t := false) (kvs := putAll [] kvs) (o := .dK (mergeK [] es)) ok hD (fun _ _ z => nomatch z) (.inl ⟨rfl, _, .inl upd_same, Paired.imp kv fun _ _ z => ⟨z.1, x.rep z.2⟩⟩)
  exact fin _ D x1 hD ok1 r1
theorem o_dictP {K : PySem.W.Frag} : Op1S g E (fun x => rDictP K [x]) (rd1 (dictOf false)) := fun w H st x a Q ok ra post => by
  obtain ⟨p, q, e, cx, fin⟩ := rd1_inv ok ra post
  obtain ⟨xs, kvs, e1, e2, hk, e3⟩ := dictOf_inv e
  subst e1 e3
  exact dictP_new ok cx e2 hk fun H' D x _ ok' r => dval_post ok' r fun w' H2 v x' ok2 r2 => fin w' H2 v (x.trans x') ok2 r2
theorem o_dictPR {K : PySem.W.Frag} : Op1S g E (fun x => rDictP K [x]) (rd1D (dictOf false)) := fun w H st x a Q ok ra post => by
  unfold rd1D at post
  cases en : now a st with
  | none => rw [en] at post; exact post.elim
  | some p =>
    rw [en] at post
    have post : Post g E relA w H (newD (dictOf false p) st) Q := post
    cases e : dictOf false p with
    | none => rw [e] at post; exact post.elim
    | some q =>
      rw [e] at post
      obtain ⟨xs, kvs, e1, e2, hk, e3⟩ := dictOf_inv e
      subst e1 e3
      exact dictP_new ok (now_cur ok ra en) e2 hk fun H' D x hD ok' r => dcell_post x hD ok' r post
end

/-! ### t[::-1] -/
section
variable {prog : Program} {w : World} {A : Around} {E : Value → Shared → Prop} {s : Shared}
theorem filterMap_same {α β : Type} {f h : α → Option β} : ∀ {l : List α}, (∀ m ∈ l, f m = h m) → l.filterMap f = l.filterMap h
  | [], _ => rfl
  | x :: r, e => by
    rw [List.filterMap_cons, List.filterMap_cons, e x List.mem_cons_self, filterMap_same fun m hm => e m (List.mem_cons_of_mem _ hm)]
theorem pick_back (its : List Value) : ((List.range its.length).filterMap fun (m : Nat) => its.toArray[(((its.length : Int) - 1) + (m : Int) * (-1)).toNat]?) = its.reverse := by
  have e : ∀ m ∈ List.range its.length, (fun (m : Nat) => its.toArray[(((its.length : Int) - 1) + (m : Int) * (-1)).toNat]?) m = (fun m => its.reverse[m]?) m := fun m hm => by
    have hm : m < its.length := List.mem_range.mp hm
    show its.toArray[(((its.length : Int) - 1) + (m : Int) * (-1)).toNat]? = its.reverse[m]?
    have e1 : (((its.length : Int) - 1) + (m : Int) * (-1)).toNat = its.length - 1 - m := by omega
    rw [e1, List.getElem?_reverse hm]
    simp
  rw [filterMap_same e]
  have all : ∀ (l : List Value) , (List.range l.length).filterMap (fun m => l[m]?) = l := fun l => by
    induction l with
    | nil => rfl
    | cons x r ih =>
      rw [List.length_cons, List.range_succ_eq_map, List.filterMap_cons]
      show x :: List.filterMap (fun m => (x :: r)[m]?) (List.map Nat.succ (List.range r.length)) = x :: r
      rw [List.filterMap_map]
      exact congrArg (x :: ·) ih
  have := all its.reverse
  rw [List.length_reverse] at this
  rw [this]
theorem get_back {t sl : Addr} {its : List Value} {tk : Tok} {Q : Value → Shared → Prop} (ht : IsTup s.heap t its.toArray) (hs : s.heap.IsSliceOf sl .none .none (.int (-1) tk)) (hz : its.length ≤ sizeLine)
    (h : Q (.ref s.heap.objs.size) { s with heap := s.heap.push { cls := .type "tuple", data := .seq its.reverse.toArray } }) : wpAny (model prog w) A (getItem (.ref t) (.ref sl)) Q E s := by
  obtain ⟨os, hos, hcs, hds⟩ := id hs
  have hTs : s.TypeIs (.ref sl) "slice" := ⟨os, hos, hcs⟩
  unfold getItem
  try with_reducible refine wpAny_holding ?_
  first | refine wpAny_bind (wpAny_pure ?_) | skip
  refine wpAny_bind (wpAny_sequenceKey ht.typeIs (by decide) ?_)
  refine wpAny_bind (wpAny_callSpecial?_slot (name := Str.ofString "__getitem__") ht.typeIs PyProof.Rows.slot_tuple_getitem (wpAny_call_entry PyProof.Rows.slot_tuple_getitem ht.typeIs entry_tuple_getitem ?_ (args_tuple_getitem _ _)))
  show wpAny _ _ (Builtin.Tuple.tupleItemsOf (.ref t) >>= _) _ _ s
  refine wpAny_bind (tupleItemsOf_ ht ?_)
  refine wpAny_bind (wpAny_typeOf hTs ?_)
  rw [if_pos (by decide)]
  refine wpAny_bind ?_
  show wpAny _ _ (Builtin.Slice.sliceApplied (.ref sl) (pure ((its.toArray.size : Nat) : Int))) _ _ s
  unfold Builtin.Slice.sliceApplied Builtin.Slice.sliceFields
  refine wpAny_bind (wpAny_bind (wpAny_field hos hds (x := .none) rfl (wpAny_bind (wpAny_field hos hds (x := .none) rfl (wpAny_bind (wpAny_field hos hds (x := .int (-1) tk) rfl (wpAny_pure ?_)))))))
  refine wpAny_bind (slicePart_int ?_)
  show wpAny _ _ (if ((-1 : Int) == 0) = true then _ else _) _ _ s
  rw [if_neg (by decide)]
  refine wpAny_bind (slicePart_none (wpAny_bind (slicePart_none (wpAny_bind (wpAny_pure ?_)))))
  have ea : Builtin.Slice.sliceAdjust none none (-1) ((its.toArray.size : Nat) : Int) = ((its.length : Int) - 1, -1) := by
    unfold Builtin.Slice.sliceAdjust
    simp
  have ep : Builtin.Slice.slicePlaces ((its.length : Int) - 1) (-1) (-1) = its.length := by
    unfold Builtin.Slice.slicePlaces
    simp
    first
      | done
      | omega
      | (split <;> omega)
  show wpAny _ _ (match Builtin.Slice.sliceAdjust none none (-1) ((its.toArray.size : Nat) : Int) with | (lo, hi) => pure (lo, (-1 : Int), Builtin.Slice.slicePlaces lo hi (-1))) _ _ s
  rw [ea]
  show wpAny _ _ (pure ((its.length : Int) - 1, (-1 : Int), Builtin.Slice.slicePlaces ((its.length : Int) - 1) (-1) (-1))) _ _ s
  rw [ep]
  refine wpAny_pure ?_
  have hno : ¬ ((((its.length : Int) - 1) == 0 && (-1 : Int) == 1 && its.length == its.toArray.size) = true) := by
    rw [show ((-1 : Int) == 1) = false from rfl, Bool.and_false, Bool.false_and]
    exact Bool.false_ne_true
  dsimp only
  rw [if_neg hno, pick_back]
  have hsz : sizeOk (.seq its.reverse.toArray) := by
    show its.reverse.toArray.size ≤ sizeLine
    rw [List.size_toArray, List.length_reverse]
    exact hz
  first
    | exact wpAny_bind (m := Builtin.Tuple.tupleExact _) (wpAny_newObj_type (wpAny_pure ⟨_, rfl, wpAny_pure h⟩) hsz)
    | exact wpAny_bind (m := Builtin.Tuple.tupleExact _) (wpAny_newObj_type (wpAny_bind (wpAny_pure (wpAny_pure ⟨_, rfl, wpAny_pure h⟩))) hsz)
    | exact wpAny_bind (wpAny_bind (m := Builtin.Tuple.tupleExact _) (wpAny_newObj_type (wpAny_pure (wpAny_pure ⟨_, rfl, wpAny_pure h⟩)) hsz))
    | exact wpAny_bind (wpAny_bind (m := Builtin.Tuple.tupleExact _) (wpAny_newObj_type (wpAny_pure ⟨_, rfl, wpAny_pure h⟩) hsz))
end
/-- a[::-1], a list or a tuple -/
def rBack (K : PySem.W.Frag) : V → Hp → VK → Prop := fun x H Q => ∃ a xs, x = .ref a ∧ ((SqT K H a xs ∧ ∀ p, H p = none → Q (.ref p) (upd H p (.tup xs.reverse))) ∨ (SqL K H a xs ∧ ∀ p, H p = none → Q (.ref p) (upd H p (.lst xs.reverse))))
section
variable {X : L2.Cx} {g : Gc} {E : XK} {e : Expr} {te : TE} {fe : Ex} {p1 p2 p3 pos : Pos} {j : Nat}
theorem list_back (its : List Value) : slicePick its.toArray none none (some (-1)) = its.reverse.toArray := by
  unfold slicePick
  have hb : sliceBounds none none (some (-1)) its.toArray.size = ((its.length : Int) - 1, -1, -1) := by
    unfold sliceBounds
    simp
  rw [hb]
  have hc : (if (-1 : Int) > 0 then (if (its.length : Int) - 1 < -1 then (-1 - ((its.length : Int) - 1) + -1 - 1) / (-1) else 0) else (if (its.length : Int) - 1 > -1 then ((its.length : Int) - 1 - -1 - -1 - 1) / (- -1) else 0)).toNat = its.length := by
    rw [if_neg (by decide)]
    by_cases h : (its.length : Int) - 1 > -1
    · rw [if_pos h, show (- -1 : Int) = 1 from rfl, Int.ediv_one]
      omega
    · rw [if_neg h]
      omega
  unfold sliceRange
  dsimp only
  rw [hc, List.filterMap_map]
  congr 1
  rw [← pick_back its]
  refine filterMap_same fun m _ => ?_
  show its.toArray[((its.length : Int) - 1 + -1 * (m : Int)).toNat]? = _
  rw [Int.mul_comm]
theorem pe_back (he : PE X e te) : PE X (.Subscript e (.Slice none none (some (.UnaryOp .USub (.Constant (.int 1) j p1) p2)) p3) pos) (fun σ H Q => te σ H fun x H1 => rBack X.K x H1 Q) := by
  refine ⟨fun pins s σ H Q I h => ?_⟩
  refine Subscript_ (thn (he.run pins s σ H _ I h) fun v s1 ⟨x, H1, I1, r1, q1⟩ => ?_)
  refine wpAny_Slice (thn ((po_none (X := X)).run pins s1 σ H1 (fun o H2 => o = none ∧ rBack X.K x H2 Q) I1 ⟨rfl, q1⟩) fun vl s2 ⟨l, H2, I2, pl, el, q2⟩ => thn ((po_none (X := X)).run pins s2 σ H2 (fun o H3 => o = none ∧ rBack X.K x H3 Q) I2 ⟨rfl, q2⟩) fun vu s3 ⟨u, H3, I3, pu, eu, q3⟩ => ?_)
  subst el eu
  cases pl
  cases pu
  refine thn ((po_some (X := X) (pe_un un_neg pe_int)).run pins s3 σ H3 (fun o H4 => o = some (-1) ∧ rBack X.K x H4 Q) I3 ⟨1, rfl, -1, rfl, rfl, q3⟩) fun vs s4 ⟨o, H4, I4, ps, eo, q4⟩ => ?_
  subst eo
  obtain ⟨tk, rfl⟩ : ∃ tk, vs = .int (-1) tk := by
    cases ps
    exact ⟨_, rfl⟩
  obtain ⟨a, xs, ex, q4⟩ := q4
  subst ex
  cases r1
  have I5 : Inv X pins σ H4 { s4 with heap := s4.heap.push { cls := .type "slice", data := .fields #[.none, .none, .int (-1) tk] } } := I4.kept (t' := s4.toks) fun b ob q => Heap.get?_push_of_some _ q
  show wpAny (model X.prog X.w) X.A (subscriptTail e (.Slice none none (some (.UnaryOp .USub (.Constant (.int 1) j p1) p2)) p3) (.ref a) (.ref s4.heap.objs.size)) (EP X pins σ Q) X.xe { s4 with heap := s4.heap.push { cls := .type "slice", data := .fields #[.none, .none, .int (-1) tk] } }
  generalize hs5 : ({ s4 with heap := s4.heap.push { cls := .type "slice", data := .fields #[.none, .none, .int (-1) tk] } } : Shared) = s5 at I5 ⊢
  have hsl : s5.heap.IsSliceOf s4.heap.objs.size .none .none (.int (-1) tk) := by rw [← hs5]; exact Heap.IsSliceOf.new ..
  rcases q4 with ⟨hq, q⟩ | ⟨hq, q⟩
  · obtain ⟨its, r, ht, hz⟩ := I5.tuple hq
    have hl := r.length
    refine tail_any (ops := [.ref a, .ref s4.heap.objs.size]) ht.typeIs PyProof.Rows.slot_tuple_getitem.lookup (get_back ht hsl (by omega) ?_) (by with_unfolding_all rfl)
    refine ⟨.ref s5.heap.objs.size, _, I5.laid (t' := s5.toks) (o := .tup xs.reverse) (fun b ob q => Heap.get?_push_of_some _ q) (Nat.le_refl _) ?_, rfl, q _ (I5.hok.fresh (Nat.le_refl _))⟩
    exact ⟨by rw [List.length_reverse]; exact hz, _, r.reverse, IsTup.new _ _⟩
  · obtain ⟨its, r, ht, hz⟩ := I5.list hq
    have hl := r.length
    refine tail_any (ops := [.ref a, .ref s4.heap.objs.size]) ht.isList.typeIs slot_list_getitem.lookup (wpAny_getItem_list_slice ht.isList hsl .none .none (.int (-1) tk) (by decide) ?_ (by rw [List.size_toArray]; omega)) (by with_unfolding_all rfl)
    rw [list_back]
    refine ⟨.ref s5.heap.objs.size, _, I5.laid (t' := s5.toks) (o := .lst xs.reverse) (fun b ob q => Heap.get?_push_of_some _ q) (Nat.le_refl _) ?_, rfl, q _ (I5.hok.fresh (Nat.le_refl _))⟩
    exact ⟨by rw [List.length_reverse]; exact hz, _, 0, r.reverse, Heap.get?_push_size _ rfl⟩
theorem back_ways {K : PySem.W.Frag} {w : Wd} {H : Hp} {st : Sto} {x : V} {p q : P} {Qv : VK} (ok : Ok w H st) (cx : Cur w H x p) (h : revP p = some q) (fin : ∀ w' H' v, Ext w w' H H' → Ok w' H' st → Rep w'.fz H' v q → Qv v H') (finL : ∀ xs, q = .lst xs → ∀ vs, Reps w.fz H vs xs → ∀ d, H d = none → Qv (.ref d) (upd H d (.lst vs))) : rBack K x H Qv := by
  cases p with
  | lst ps =>
    cases h
    obtain ⟨a, vs, e, s, r⟩ := cx
    exact ⟨a, vs, e, .inr ⟨.inl s, fun d hd => finL _ rfl _ (Paired.rev r) d hd⟩⟩
  | tup ps =>
    cases h
    obtain ⟨a, vs, e, s, r⟩ := Rep.tup_inv cx
    exact ⟨a, vs, e, .inl ⟨SqT.of s, fun d hd => tup_post ok (Paired.rev r) fin d hd⟩⟩
  | _ => cases h
theorem se_back (h : SE X g E e fe) : SE X g E (.Subscript e (.Slice none none (some (.UnaryOp .USub (.Constant (.int 1) j p1) p2)) p3) pos) (e1 (rd1 revP) fe) := by
  obtain ⟨t, p, s⟩ := h
  refine ⟨_, pe_back p, fun w σ H env st Q ok re post => ?_⟩
  refine s w σ H env st _ ok re (Post.bind post fun x st1 w1 H1 v1 x1 ok1 r1 post1 => ?_)
  obtain ⟨p, q, e, cx, fin⟩ := rd1_inv ok1 r1 post1
  exact back_ways ok1 cx e fin fun xs eq vs rs d hd => by
    subst eq
    exact lst_post ok1 rs (fun w' H' v x ok' r' => fin w' H' v x ok' r') d hd
end
end Rt

set_option Elab.async false
set_option linter.all false
set_option maxRecDepth 100000
set_option autoImplicit false
set_option maxHeartbeats 4000000
namespace Rt
open PySem PySem.Spec PyProof.Rows L2

/-! ### the rules in short, as a program prints them -/
theorem hu65 {k : Nat} {A : Around} (hr : Room k A) : A.units + 65 < cLine := by have := hr.un; omega
abbrev FnP (K : PySem.W.Frag) (x : PySem.Str) (st : Stmt) (f : Addr) (fd : FuncData) : Prop := FunD K x x (defArgs st) (defBody st) (defScope st) [] [] f fd
section
variable {CX : CXT} {P : Program} {w : World} {K : PySem.W.Frag} {mg : PySem.Str → Option Value} {base : Heap} {N : List PySem.Str} {qual : PySem.Str} {scope : Scope} {f : Addr} {cd : Value} {A : Around} {outer : List Env} {s : Shared} {H : Hp} {E : XK}
theorem calm_cx : (cxOf CX P w K mg base N qual scope f cd A outer s H E).calm = true := rfl
theorem own_cx : PassesOwn (model (cxOf CX P w K mg base N qual scope f cd A outer s H E).prog (cxOf CX P w K mg base N qual scope f cd A outer s H E).w) (cxOf CX P w K mg base N qual scope f cd A outer s H E).A (cxOf CX P w K mg base N qual scope f cd A outer s H E).env (cxOf CX P w K mg base N qual scope f cd A outer s H E).xe := L2.passes_of rfl
end
theorem kbn_of {K : PySem.W.Frag} {x : PySem.Str} {st : Stmt} {f : Addr} {fd : FuncData} {ps : List PySem.Str} (F : FnP K x st f fd) (n : Nat) (ks : List PySem.Str) (o : List Nat)
    (h : ∀ (kV doc pm : Value) (an : Option Addr) (cdv ct : Value) (us ws : List Value), us.length = n → ws.length = ks.length → bindArgs (PySem.W.fnOf x x (defArgs st) (defBody st) (defScope st) .none kV doc pm an cdv ct) ⟨us, ks.zip ws⟩ = pure (ps.zip (gsel Value.none o us ws))) : KBn K fd ps n ks (gsel Value.none o) (gsel V.non o) := by
  obtain ⟨oc, od, dV, kV, doc, pm, an, cdv, ct, osl, rfl, lk, hcd, hD, hK⟩ := F.ex
  rcases hD with ⟨_, rfl⟩ | ⟨e, _⟩
  · exact ⟨fun s us ws _ l1 l2 => .of_eq (h kV doc pm an cdv ct us ws l1 l2), fun r q => gsel_vals r q⟩
  · exact absurd rfl e
section
variable {X : L2.Cx} {g : Gc} {E : XK} {a b c e : Expr} {fa fb fc fe : Ex} {pos p p2 : Pos}
theorem vr (i : Nat) {x : PySem.Str} (hN : X.N[i]? = some x := by rfl) (hv : Vis X.env.scope x := by first | exact Or.inl rfl | exact Or.inr (Or.inl rfl) | exact Or.inr (Or.inr rfl)) (hd : (x == ("__debug__" : PySem.Str)) = false := by decide) (hcd : (x == ("__classdict__" : PySem.Str)) = false := by decide) : SE X g E (.Name x pos) (eV i) := se_var hN hv hd hcd
theorem kI {i : Int} {j : Nat} : SE X g E (.Constant (.int i) j pos) (eC (.int i)) := se_int
theorem kB {k : Bool} {j : Nat} : SE X g E (.Constant (.bool k) j pos) (eC (.bl k)) := se_bl
theorem kN {j : Nat} : SE X g E (.Constant .none j pos) (eC .non) := se_non
theorem kS {x : PySem.Str} {s : List Nat} {j : Nat} (h : x = ⟨s.toArray⟩ := by first | rfl | decide +kernel) : SE X g E (.Constant (.str x) j pos) (eC (.str s)) := se_str h
theorem kM {i : Int} {j : Nat} : SE X g E (.UnaryOp .USub (.Constant (.int i) j p) pos) (eC (.int (-i))) := se_neg
theorem gI {x : PySem.Str} {i : Int} (hm : ∃ t, X.mg x = some (.int i t)) (hg : Gl X x := by rfl) (hd : (x == ("__debug__" : PySem.Str)) = false := by decide) : SE X g E (.Name x pos) (eC (.int i)) := se_globI hg hm hd
theorem gS {x y : PySem.Str} {s : List Nat} (hm : ∃ t, X.mg x = some (.str y t)) (hg : Gl X x := by rfl) (h : y = ⟨s.toArray⟩ := by first | rfl | decide +kernel) (hd : (x == ("__debug__" : PySem.Str)) = false := by decide) : SE X g E (.Name x pos) (eC (.str s)) := se_globS hg hm h hd
theorem r_add (ha : SE X g E a fa) (hb : SE X g E b fb) : SE X g E (.BinOp a .Add b pos) (e2 (rd2 addP) fa fb) := se_op or_add os_add ha hb
theorem r_addF (ha : SE X g E a fa) (hb : SE X g E b fb) : SE X g E (.BinOp a .Add b pos) (e2 (rd2F addP) fa fb) := se_op or_add os_addF ha hb
theorem r_sub (ha : SE X g E a fa) (hb : SE X g E b fb) : SE X g E (.BinOp a .Sub b pos) (e2 (rd2 subP) fa fb) := se_op op_sub os_sub ha hb
theorem r_mul (ha : SE X g E a fa) (hb : SE X g E b fb) : SE X g E (.BinOp a .Mult b pos) (e2 (rd2 mulP) fa fb) := se_op or_mul os_mul ha hb
theorem r_mulF (ha : SE X g E a fa) (hb : SE X g E b fb) : SE X g E (.BinOp a .Mult b pos) (e2 (rd2F mulP) fa fb) := se_op or_mul os_mulF ha hb
theorem r_mod (ha : SE X g E a fa) (hb : SE X g E b fb) : SE X g E (.BinOp a .Mod b pos) (e2 (rd2 modP) fa fb) := se_op op_mod os_mod ha hb
theorem r_div (ha : SE X g E a fa) (hb : SE X g E b fb) : SE X g E (.BinOp a .FloorDiv b pos) (e2 (rd2 divP) fa fb) := se_op op_fdiv os_div ha hb
theorem r_pow (ha : SE X g E a fa) (hb : SE X g E b fb) : SE X g E (.BinOp a .Pow b pos) (e2 (rd2 powP) fa fb) := se_op op_pow os_pow ha hb
theorem r_shl (ha : SE X g E a fa) (hb : SE X g E b fb) : SE X g E (.BinOp a .LShift b pos) (e2 (rd2 shlP) fa fb) := se_op op_shl os_shl ha hb
theorem r_shr (ha : SE X g E a fa) (hb : SE X g E b fb) : SE X g E (.BinOp a .RShift b pos) (e2 (rd2 shrP) fa fb) := se_op op_shr os_shr ha hb
theorem r_and (ha : SE X g E a fa) (hb : SE X g E b fb) : SE X g E (.BinOp a .BitAnd b pos) (e2 (rd2 andP) fa fb) := se_op op_and os_and ha hb
theorem r_or (ha : SE X g E a fa) (hb : SE X g E b fb) : SE X g E (.BinOp a .BitOr b pos) (e2 (rd2 orP) fa fb) := se_op op_or os_or ha hb
theorem r_neg (ha : SE X g E a fa) : SE X g E (.UnaryOp .USub a pos) (e1 (rd1 negP) fa) := se_un un_neg o1_neg ha
theorem r_inv (ha : SE X g E a fa) : SE X g E (.UnaryOp .Invert a pos) (e1 (rd1 invP) fa) := se_un un_inv o1_inv ha
/-! comparisons: as values (b_), as tests (c_) -/
/-- a comparison's operator with its two sides -/
structure Co (X : L2.Cx) (op : CmpOp) (gg : P → P → Option Bool) : Prop where
  ex : ∃ r, OpR X (compareOp op) r ∧ CmpS X.K gg r
theorem o_eq (hu : X.A.units + 65 < cLine) : Co X .Eq eqP := ⟨_, op_eqD (by omega), cs_eq⟩
theorem o_ne (hu : X.A.units + 65 < cLine) : Co X .NotEq neP := ⟨_, op_neD (by omega), cs_ne⟩
theorem o_lt (hu : X.A.units + 65 < cLine) : Co X .Lt ltO := ⟨_, or_lt (by omega), cs_lt⟩
theorem o_le (hu : X.A.units + 65 < cLine) : Co X .LtE leO := ⟨_, or_le, cs_le⟩
theorem o_gt (hu : X.A.units + 65 < cLine) : Co X .Gt gtO := ⟨_, or_gt, cs_gt⟩
theorem o_ge (hu : X.A.units + 65 < cLine) : Co X .GtE geO := ⟨_, or_ge, cs_ge⟩
theorem o_in (hu : X.A.units + 65 < cLine) : Co X .In inO := ⟨_, or_in hu, cs_in⟩
theorem o_ni (hu : X.A.units + 65 < cLine) : Co X .NotIn notInO := ⟨_, or_notIn hu, cs_notIn⟩
theorem o_is (hu : X.A.units + 65 < cLine) : Co X .Is isO := ⟨_, or_is, cs_is⟩
theorem o_isn (hu : X.A.units + 65 < cLine) : Co X .IsNot isNotO := ⟨_, or_isNot, cs_isNot⟩
variable {op op' : CmpOp} {gg gg' : P → P → Option Bool}
theorem b_c (o : Co X op gg) (ha : SE X g E a fa) (hb : SE X g E b fb) (hm : behindInMarks op b = false := by first | exact nomark _ | with_unfolding_all rfl) : SB X g E (.Compare a [op] [b] pos) (cmp gg fa fb) := let ⟨_, h1, h2⟩ := o; sb_cmp h1 h2 ha hb hm
theorem c_c (o : Co X op gg) (ha : SE X g E a fa) (hb : SE X g E b fb) (hm : behindInMarks op b = false := by first | exact nomark _ | with_unfolding_all rfl) : SC X g E (.Compare a [op] [b] pos) (cmp gg fa fb) := let ⟨_, h1, h2⟩ := o; sc_cmp h1 h2 ha hb hm
theorem b_c2 (o : Co X op gg) (o' : Co X op' gg') (ha : SE X g E a fa) (hb : SE X g E b fb) (hc : SE X g E c fc) (hm : lastMarks [op, op'] [b, c] = false := by with_unfolding_all rfl) : SB X g E (.Compare a [op, op'] [b, c] pos) (cmp2 gg gg' fa fb fc) :=
  let ⟨_, h1, h2⟩ := o; let ⟨_, h3, h4⟩ := o'; sb_cmp2 (op := op) (op' := op') h1 h3 h2 h4 ha hb hc (fun pa pb pc => pe_chain h1 h3 pa pb pc hm)
theorem c_c2 (o : Co X op gg) (o' : Co X op' gg') (ha : SE X g E a fa) (hb : SE X g E b fb) (hc : SE X g E c fc) (hm : lastMarks [op, op'] [b, c] = false := by with_unfolding_all rfl) : SC X g E (.Compare a [op, op'] [b, c] pos) (cmp2 gg gg' fa fb fc) := by
  obtain ⟨r, h1, h2⟩ := o
  obtain ⟨r', h3, h4⟩ := o'
  obtain ⟨ta, pa, sa⟩ := ha
  obtain ⟨tb, pb, sb⟩ := hb
  obtain ⟨tc, pc, sc⟩ := hc
  exact ⟨_, pt_chain h1 h3 pa pb pc hm, fun w σ H env st Q ok re post => simC2 sa sb sc h2 h4 ok re post fun k H' z => ⟨k, rfl, z⟩⟩
/-! subscripts, stores -/
theorem r_ix (hu : X.A.units + 65 < cLine) (ha : SE X g E a fa) (hb : SE X g E b fb) (hs : PlainIx b := by intro _ _; rfl) : SE X g E (.Subscript a b pos) (e2 (rd2 ixP) fa fb) := se_ix (by omega) ha hb hs
theorem t_n (i : Nat) {x : PySem.Str} (hN : X.N.Nodup) (hi : X.N[i]? = some x := by rfl) (hx : Loc X.env.scope x := by first | exact Or.inl rfl | exact Or.inr rfl) (hf : X.fn x = true ∨ X.env.scope.names.lookup x = some .local := by first | exact .inl rfl | exact .inr rfl) : SG X g E [i] (.Name x pos) (tN i) := sg_name hN hi hx hf
theorem t_s (hu : X.A.units + 65 < cLine) (ho : SE X g E a fa) (hi : SE X g E b fb) (ha : ∀ v, assign (.Subscript a b pos) X.env v = (do
      let ov ← holding [v] (eval a X.env)
      let iv ← holding [v, ov] (eval b X.env)
      standAt pos
      holding [v, ov, iv] (setItem ov iv v)
      release [v, ov, iv] []) := by intro _; rfl) : SG X g E [] (.Subscript a b pos) (tS fa fb) := sg_sub (by omega) ho hi ha
/-! calls -/
section
variable {x : PySem.Str}
theorem b_len (ha : SE X g E a fa) (hm : X.mg "len" = none) (hg : Gl X "len" := by rfl) (hs : starEach [a] X.env = (false, eval a X.env) :: starEach [] X.env := by rfl) : SE X g E (.Call (.Name "len" p) [a] [] pos) (e1 (rd1 lenP) fa) := se_b1 cr_len o_len.op ha hg hm boot_len (by decide) (by decide) hs
theorem b_abs (ha : SE X g E a fa) (hm : X.mg "abs" = none) (hg : Gl X "abs" := by rfl) (hs : starEach [a] X.env = (false, eval a X.env) :: starEach [] X.env := by rfl) : SE X g E (.Call (.Name "abs" p) [a] [] pos) (e1 (rd1 absP) fa) := se_b1 call_abs o_abs.op ha hg hm (by decide +kernel) (by decide) (by decide) hs
theorem b_sum (hc : X.calm = true) (ha : SE X g E a fa) (hm : X.mg "sum" = none) (hg : Gl X "sum" := by rfl) (hs : starEach [a] X.env = (false, eval a X.env) :: starEach [] X.env := by rfl) : SE X g E (.Call (.Name "sum" p) [a] [] pos) (e1 (rd1 sumP) fa) := se_b1 (cr_sum hc) o_sum.op ha hg hm (by decide +kernel) (by decide) (by decide) hs
theorem b_all (hc : X.calm = true) (ha : SE X g E a fa) (hm : X.mg "all" = none) (hg : Gl X "all" := by rfl) (hs : starEach [a] X.env = (false, eval a X.env) :: starEach [] X.env := by rfl) : SE X g E (.Call (.Name "all" p) [a] [] pos) (e1 (rd1 allO) fa) := se_b1 (cr_all hc) o_all.op ha hg hm (by decide +kernel) (by decide) (by decide) hs
theorem b_any (hc : X.calm = true) (ha : SE X g E a fa) (hm : X.mg "any" = none) (hg : Gl X "any" := by rfl) (hs : starEach [a] X.env = (false, eval a X.env) :: starEach [] X.env := by rfl) : SE X g E (.Call (.Name "any" p) [a] [] pos) (e1 (rd1 anyO) fa) := se_b1 (cr_any hc) o_any.op ha hg hm (by decide +kernel) (by decide) (by decide) hs
theorem b_sorted (ha : SE X g E a fa) (hm : X.mg "sorted" = none) (hg : Gl X "sorted" := by rfl) (hs : starEach [a] X.env = (false, eval a X.env) :: starEach [] X.env := by rfl) : SE X g E (.Call (.Name "sorted" p) [a] [] pos) (e1 (rd1 sortedV) fa) := se_b1 cr_sortedA (o_sorted.op sortedV_lst) ha hg hm (by decide +kernel) (by decide) (by decide) hs
theorem b_sortedF (ha : SE X g E a fa) (hm : X.mg "sorted" = none) (hg : Gl X "sorted" := by rfl) (hs : starEach [a] X.env = (false, eval a X.env) :: starEach [] X.env := by rfl) : SE X g E (.Call (.Name "sorted" p) [a] [] pos) (e1 (rd1F sortedV) fa) := se_b1 cr_sortedA o_sorted.cell ha hg hm (by decide +kernel) (by decide) (by decide) hs
theorem b_int (ha : SE X g E a fa) (hm : X.mg "int" = none) (hg : Gl X "int" := by rfl) (hs : starEach [a] X.env = (false, eval a X.env) :: starEach [] X.env := by rfl) : SE X g E (.Call (.Name "int" p) [a] [] pos) (e1 (rd1 intP) fa) := se_t1 call_int1 o_int.op ha hg hm (by decide +kernel) (by decide) (by decide) hs
theorem b_tuple (ha : SE X g E a fa) (hm : X.mg "tuple" = none) (hg : Gl X "tuple" := by rfl) (hs : starEach [a] X.env = (false, eval a X.env) :: starEach [] X.env := by rfl) : SE X g E (.Call (.Name "tuple" p) [a] [] pos) (e1 (rd1 tupleOf) fa) := se_t1 call_tuple_of o_tuple.op ha hg hm (by decide +kernel) (by decide) (by decide) hs
theorem b_list (hc : X.calm = true) (ha : SE X g E a fa) (hm : X.mg "list" = none) (hg : Gl X "list" := by rfl) (hs : starEach [a] X.env = (false, eval a X.env) :: starEach [] X.env := by rfl) : SE X g E (.Call (.Name "list" p) [a] [] pos) (e1 (rd1 listOf) fa) := se_t1 (cr_list hc) (o_list.op listOf_lst) ha hg hm (by decide +kernel) (by decide) (by decide) hs
theorem b_listF (hc : X.calm = true) (ha : SE X g E a fa) (hm : X.mg "list" = none) (hg : Gl X "list" := by rfl) (hs : starEach [a] X.env = (false, eval a X.env) :: starEach [] X.env := by rfl) : SE X g E (.Call (.Name "list" p) [a] [] pos) (e1 (rd1F listOf) fa) := se_t1 (cr_list hc) o_list.cell ha hg hm (by decide +kernel) (by decide) (by decide) hs
theorem b_dict (hc : X.calm = true) (ha : SE X g E a fa) (hm : X.mg "dict" = none) (hg : Gl X "dict" := by rfl) (hs : starEach [a] X.env = (false, eval a X.env) :: starEach [] X.env := by rfl) : SE X g E (.Call (.Name "dict" p) [a] [] pos) (e1 (rd1 (dictOf false)) fa) := se_t1 (call_dictP hc) (o_dictP (K := X.K)) ha hg hm (by decide +kernel) (by decide) (by decide) hs
theorem b_dictF (hc : X.calm = true) (ha : SE X g E a fa) (hm : X.mg "dict" = none) (hg : Gl X "dict" := by rfl) (hs : starEach [a] X.env = (false, eval a X.env) :: starEach [] X.env := by rfl) : SE X g E (.Call (.Name "dict" p) [a] [] pos) (e1 (rd1D (dictOf false)) fa) := se_t1 (call_dictP hc) (o_dictPR (K := X.K)) ha hg hm (by decide +kernel) (by decide) (by decide) hs
theorem b_min2 (hc : X.calm = true) (ha : SE X g E a fa) (hb : SE X g E b fb) (hm : X.mg "min" = none) (hg : Gl X "min" := by rfl) (hs : starEach [a, b] X.env = (false, eval a X.env) :: starEach [b] X.env := by rfl) (hs2 : starEach [b] X.env = (false, eval b X.env) :: starEach [] X.env := by rfl) : SE X g E (.Call (.Name "min" p) [a, b] [] pos) (e2 (rd2 min2P) fa fb) := se_b2 (call_min2 hc) o_min2.op ha hb hg hm (by decide +kernel) (by decide) (by decide) hs hs2 (by rw [hs2]; rfl)
theorem b_max2 (hc : X.calm = true) (ha : SE X g E a fa) (hb : SE X g E b fb) (hm : X.mg "max" = none) (hg : Gl X "max" := by rfl) (hs : starEach [a, b] X.env = (false, eval a X.env) :: starEach [b] X.env := by rfl) (hs2 : starEach [b] X.env = (false, eval b X.env) :: starEach [] X.env := by rfl) : SE X g E (.Call (.Name "max" p) [a, b] [] pos) (e2 (rd2 max2P) fa fb) := se_b2 (call_max2 hc) o_max2.op ha hb hg hm (by decide +kernel) (by decide) (by decide) hs hs2 (by rw [hs2]; rfl)
theorem b_divmod (ha : SE X g E a fa) (hb : SE X g E b fb) (hm : X.mg "divmod" = none) (hg : Gl X "divmod" := by rfl) (hs : starEach [a, b] X.env = (false, eval a X.env) :: starEach [b] X.env := by rfl) (hs2 : starEach [b] X.env = (false, eval b X.env) :: starEach [] X.env := by rfl) : SE X g E (.Call (.Name "divmod" p) [a, b] [] pos) (e2 (rd2 divmodP) fa fb) := se_b2 call_divmod o_divmod.op ha hb hg hm (by decide +kernel) (by decide) (by decide) hs hs2 (by rw [hs2]; rfl)
theorem b_gcd (ha : SE X g E a fa) (hb : SE X g E b fb) (hm : X.mg x = some (.builtin "math.gcd")) (hg : Gl X x := by rfl) (hdb : (x == ("__debug__" : PySem.Str)) = false := by decide) (hs : starEach [a, b] X.env = (false, eval a X.env) :: starEach [b] X.env := by rfl) (hs2 : starEach [b] X.env = (false, eval b X.env) :: starEach [] X.env := by rfl) : SE X g E (.Call (.Name x p) [a, b] [] pos) (e2 (rd2 gcdP) fa fb) := se_m2 cr_gcd o_gcd.op ha hb hg hm hdb hs hs2 (by rw [hs2]; rfl)
/-- isinstance -/
theorem b_isi (t : Ty) (ha : SE X g E a fa) (hm : X.mg "isinstance" = none) (hm2 : X.mg x = none) (hv2 : bootBuiltins x = some (.type t.nm) := by decide +kernel) (hg : Gl X "isinstance" := by rfl) (hg2 : Gl X x := by rfl) (hn : x ≠ "__name__" := by decide) (hdb : (x == ("__debug__" : PySem.Str)) = false := by decide)
    (hs : starEach [a, .Name x p2] X.env = (false, eval a X.env) :: starEach [.Name x p2] X.env := by rfl) (hs2 : starEach [.Name x p2] X.env = (false, eval (.Name x p2) X.env) :: starEach [] X.env := by rfl) : SB X g E (.Call (.Name "isinstance" p) [a, .Name x p2] [] pos) (isI t fa) := sb_isi ha hg hm hg2 hm2 hv2 hn hdb hs hs2 (by rw [hs2]; rfl)
end
/-! methods -/
section
variable {apos cpos : Pos}
theorem m_app (ho : SE X g E a fa) (he : SE X g E b fb) (hbase : attributeBase a "append" X.env (eval a X.env) = eval a X.env := by rfl)
    (hfew : ((backTo cpos (starEach [b] X.env)).all (fun x => !x.1) && (backToKw cpos (keywordEach [] X.env)).all (fun x => x.1.isSome)
      && decide ([b].length + ([] : List Keyword).length + (if ([] : List Keyword).isEmpty then 0 else 1) < 30)) = true := by rfl)
    (hline : (apos.endLine == cpos.line) = true := by rfl) (hs : starEach [b] X.env = (false, eval b X.env) :: starEach [] X.env := by rfl) : SE X g E (.Call (.Attribute a "append" apos) [b] [] cpos) (eM .l mAppend fa fb) :=
  se_lm1 PySem.F.plainAttrs_list PySem.F.slot_list_append PySem.F.type_list_append mt_append m_append ho he hbase hfew hline hs (by rfl)
theorem m_ext (ho : SE X g E a fa) (he : SE X g E b fb) (hbase : attributeBase a "extend" X.env (eval a X.env) = eval a X.env := by rfl)
    (hfew : ((backTo cpos (starEach [b] X.env)).all (fun x => !x.1) && (backToKw cpos (keywordEach [] X.env)).all (fun x => x.1.isSome)
      && decide ([b].length + ([] : List Keyword).length + (if ([] : List Keyword).isEmpty then 0 else 1) < 30)) = true := by rfl)
    (hline : (apos.endLine == cpos.line) = true := by rfl) (hs : starEach [b] X.env = (false, eval b X.env) :: starEach [] X.env := by rfl) : SE X g E (.Call (.Attribute a "extend" apos) [b] [] cpos) (eM .l mExtend fa fb) :=
  se_lm1 PySem.F.plainAttrs_list PySem.F.slot_list_extend PySem.F.type_list_extend mt_extendL m_extend ho he hbase hfew hline hs (by rfl)
theorem m_pop0 (ho : SE X g E a fa) (hbase : attributeBase a "pop" X.env (eval a X.env) = eval a X.env := by rfl) (hline : (apos.endLine == cpos.line) = true := by rfl) : SE X g E (.Call (.Attribute a "pop" apos) [] [] cpos) (eM0 .l mPop fa) :=
  se_lm0 PySem.F.plainAttrs_list PySem.F.slot_list_pop PySem.F.type_list_pop mt_pop m_pop ho hbase hline
theorem m_get2 (hu : X.A.units + 65 < cLine) (ho : SE X g E a fa) (he : SE X g E b fb) (hf : SE X g E c fc) (m : M2 X a "get" apos b c cpos := by exact ⟨rfl, rfl, rfl, rfl⟩) : SE X g E (.Call (.Attribute a "get" apos) [b, c] [] cpos) (eM3 .d getD2 fa fb fc) := se_get2 (by omega) ho he hf m
end
/-! a comprehension stored straight into a local name -/
section
variable {elt tg iter tg1 iter1 : Expr} {ifs ifs1 : List Expr} {scope : Scope} {own : List (PySem.Str × Nat)} {vs1 : List Nat} {it it1 : Rt.It} {is is1 : List Nat} {t t1 : Tg} {ct ct1 : Tx} {f : Ex} {y : PySem.Str} {i : Nat} {py lpos spos : Pos}
theorem ss_lc (hc : X.calm = true) (hN : X.N.Nodup) (own : List (PySem.Str × Nat)) (hi : SI X g E tg iter it) (ok : BlkOk X.N X.env.scope scope own) (hg : ∀ b : Bi, SG (Bk X scope b) g E0 is tg t) (ht : ∀ b : Bi, STs (Bk X scope b) g E0 ifs ct) (he : ∀ b : Bi, SE (Bk X scope b) g E0 elt f)
    (hy : X.N[i]? = some y := by rfl) (hyl : X.env.scope.names.lookup y = some .local := by rfl) (hk : X.env.scope.kind = .function := by rfl) (hl : (py.line == lpos.line) = true := by rfl) (hno : (scope.names.any fun (n, k) => n == y && (k == .local || k == .cell)) = false := by decide +kernel)
    (hs : ∀ i ∈ is, i ∈ own.map (·.2) := by decide) (hf : ∀ x, foldedSetIterable iter X.env x = pure x := by intro _; rfl) :
    SS X g E (.Assign [.Name y py] (.ListComp elt [⟨tg, iter, ifs, 0⟩] scope lpos) spos) (sSet i (eLc (lc (own.map (·.2)) it t ct f))) ∧ SS X g E (.Assign [.Name y py] (.ListComp elt [⟨tg, iter, ifs, 0⟩] scope lpos) spos) (sSet i (eLcR (lc (own.map (·.2)) it t ct f))) := by
  obtain ⟨wi, pi, si⟩ := hi
  obtain ⟨G, pg, sg⟩ := fam_g hg
  obtain ⟨tt, pt, st⟩ := fam_t ht
  obtain ⟨te, pe, se⟩ := fam_e he
  exact ss_setL (ps_setLc hc hN hy hyl (sw_true hk hyl hl hno) pi ok (fun s H C cl fp => pg ⟨s, H, C, cl, fp⟩) (fun s H C cl fp => pt ⟨s, H, C, cl, fp⟩) (fun s H C cl fp => pe ⟨s, H, C, cl, fp⟩) hf) (lc_sim si sg st se hs)
theorem ss_lc2 (hc : X.calm = true) (hN : X.N.Nodup) (own : List (PySem.Str × Nat)) (vs1 : List Nat) (hi : SI X g E tg iter it) (ok : BlkOk X.N X.env.scope scope own) (hg : ∀ b : Bi, SG (Bk X scope b) g E0 is tg t) (ht : ∀ b : Bi, STs (Bk X scope b) g E0 ifs ct)
    (hi1 : ∀ b : Bi, SI (Bk X scope b) g E0 tg1 iter1 it1) (hg1 : ∀ b : Bi, SG (Bk X scope b) g E0 is1 tg1 t1) (ht1 : ∀ b : Bi, STs (Bk X scope b) g E0 ifs1 ct1) (he : ∀ b : Bi, SE (Bk X scope b) g E0 elt f)
    (hy : X.N[i]? = some y := by rfl) (hyl : X.env.scope.names.lookup y = some .local := by rfl) (hk : X.env.scope.kind = .function := by rfl) (hl : (py.line == lpos.line) = true := by rfl) (hno : (scope.names.any fun (n, k) => n == y && (k == .local || k == .cell)) = false := by decide +kernel)
    (hs : ∀ i ∈ is, i ∈ own.map (·.2) := by decide) (hs1 : ∀ i ∈ is1, i ∈ vs1 := by decide) (hv : ∀ i ∈ vs1, i ∈ own.map (·.2) := by decide) (hf : ∀ x, foldedSetIterable iter X.env x = pure x := by intro _; rfl) (hf1 : ∀ env x, foldedSetIterable iter1 env x = pure x := by intro _ _; rfl) :
    SS X g E (.Assign [.Name y py] (.ListComp elt [⟨tg, iter, ifs, 0⟩, ⟨tg1, iter1, ifs1, 0⟩] scope lpos) spos) (sSet i (eLc (lc2 (own.map (·.2)) vs1 it t ct it1 t1 ct1 f))) ∧ SS X g E (.Assign [.Name y py] (.ListComp elt [⟨tg, iter, ifs, 0⟩, ⟨tg1, iter1, ifs1, 0⟩] scope lpos) spos) (sSet i (eLcR (lc2 (own.map (·.2)) vs1 it t ct it1 t1 ct1 f))) := by
  obtain ⟨wi, pi, si⟩ := hi
  obtain ⟨G, pg, sg⟩ := fam_g hg
  obtain ⟨tt, pt, st⟩ := fam_t ht
  obtain ⟨wi1, pi1, si1⟩ := fam_i hi1
  obtain ⟨G1, pg1, sg1⟩ := fam_g hg1
  obtain ⟨tt1, pt1, st1⟩ := fam_t ht1
  obtain ⟨te, pe, se⟩ := fam_e he
  exact ss_setL (ps_setLc2 hc hN hy hyl (sw_true hk hyl hl hno) pi ok hv (fun s H C cl fp => pg ⟨s, H, C, cl, fp⟩) (fun s H C cl fp => pt ⟨s, H, C, cl, fp⟩) (fun s H C cl fp => pi1 ⟨s, H, C, cl, fp⟩) (fun s H C cl fp => pg1 ⟨s, H, C, cl, fp⟩) (fun s H C cl fp => pt1 ⟨s, H, C, cl, fp⟩) (fun s H C cl fp => pe ⟨s, H, C, cl, fp⟩) hf hf1) (lc2_sim si sg st hs si1 sg1 st1 se hs1)
theorem ss_lcV (hc : X.calm = true) (hN : X.N.Nodup) (own : List (PySem.Str × Nat)) (hi : SI X g E tg iter it) (ok : BlkOk X.N X.env.scope scope own) (hg : ∀ b : Bi, SG (Bk X scope b) g E0 is tg t) (ht : ∀ b : Bi, STs (Bk X scope b) g E0 ifs ct) (he : ∀ b : Bi, SE (Bk X scope b) g E0 elt f)
    (hy : X.N[i]? = some y := by rfl) (hyl : X.env.scope.names.lookup y = some .local := by rfl) (hk : X.env.scope.kind = .function := by rfl) (hl : (py.line == lpos.line) = true := by rfl) (hno : (scope.names.any fun (n, k) => n == y && (k == .local || k == .cell)) = false := by decide +kernel)
    (hs : ∀ i ∈ is, i ∈ own.map (·.2) := by decide) (hf : ∀ x, foldedSetIterable iter X.env x = pure x := by intro _; rfl) :
    SS X g E (.Assign [.Name y py] (.ListComp elt [⟨tg, iter, ifs, 0⟩] scope lpos) spos) (sSet i (eLc (lc (own.map (·.2)) it t ct f))) := (ss_lc hc hN own hi ok hg ht he hy hyl hk hl hno hs hf).1
theorem ss_lcC (hc : X.calm = true) (hN : X.N.Nodup) (own : List (PySem.Str × Nat)) (hi : SI X g E tg iter it) (ok : BlkOk X.N X.env.scope scope own) (hg : ∀ b : Bi, SG (Bk X scope b) g E0 is tg t) (ht : ∀ b : Bi, STs (Bk X scope b) g E0 ifs ct) (he : ∀ b : Bi, SE (Bk X scope b) g E0 elt f)
    (hy : X.N[i]? = some y := by rfl) (hyl : X.env.scope.names.lookup y = some .local := by rfl) (hk : X.env.scope.kind = .function := by rfl) (hl : (py.line == lpos.line) = true := by rfl) (hno : (scope.names.any fun (n, k) => n == y && (k == .local || k == .cell)) = false := by decide +kernel)
    (hs : ∀ i ∈ is, i ∈ own.map (·.2) := by decide) (hf : ∀ x, foldedSetIterable iter X.env x = pure x := by intro _; rfl) :
    SS X g E (.Assign [.Name y py] (.ListComp elt [⟨tg, iter, ifs, 0⟩] scope lpos) spos) (sSet i (eLcR (lc (own.map (·.2)) it t ct f))) := (ss_lc hc hN own hi ok hg ht he hy hyl hk hl hno hs hf).2
theorem ss_lc2V (hc : X.calm = true) (hN : X.N.Nodup) (own : List (PySem.Str × Nat)) (vs1 : List Nat) (hi : SI X g E tg iter it) (ok : BlkOk X.N X.env.scope scope own) (hg : ∀ b : Bi, SG (Bk X scope b) g E0 is tg t) (ht : ∀ b : Bi, STs (Bk X scope b) g E0 ifs ct)
    (hi1 : ∀ b : Bi, SI (Bk X scope b) g E0 tg1 iter1 it1) (hg1 : ∀ b : Bi, SG (Bk X scope b) g E0 is1 tg1 t1) (ht1 : ∀ b : Bi, STs (Bk X scope b) g E0 ifs1 ct1) (he : ∀ b : Bi, SE (Bk X scope b) g E0 elt f)
    (hy : X.N[i]? = some y := by rfl) (hyl : X.env.scope.names.lookup y = some .local := by rfl) (hk : X.env.scope.kind = .function := by rfl) (hl : (py.line == lpos.line) = true := by rfl) (hno : (scope.names.any fun (n, k) => n == y && (k == .local || k == .cell)) = false := by decide +kernel)
    (hs : ∀ i ∈ is, i ∈ own.map (·.2) := by decide) (hs1 : ∀ i ∈ is1, i ∈ vs1 := by decide) (hv : ∀ i ∈ vs1, i ∈ own.map (·.2) := by decide) (hf : ∀ x, foldedSetIterable iter X.env x = pure x := by intro _; rfl) (hf1 : ∀ env x, foldedSetIterable iter1 env x = pure x := by intro _ _; rfl) :
    SS X g E (.Assign [.Name y py] (.ListComp elt [⟨tg, iter, ifs, 0⟩, ⟨tg1, iter1, ifs1, 0⟩] scope lpos) spos) (sSet i (eLc (lc2 (own.map (·.2)) vs1 it t ct it1 t1 ct1 f))) := (ss_lc2 hc hN own vs1 hi ok hg ht hi1 hg1 ht1 he hy hyl hk hl hno hs hs1 hv hf hf1).1
theorem ss_lc2C (hc : X.calm = true) (hN : X.N.Nodup) (own : List (PySem.Str × Nat)) (vs1 : List Nat) (hi : SI X g E tg iter it) (ok : BlkOk X.N X.env.scope scope own) (hg : ∀ b : Bi, SG (Bk X scope b) g E0 is tg t) (ht : ∀ b : Bi, STs (Bk X scope b) g E0 ifs ct)
    (hi1 : ∀ b : Bi, SI (Bk X scope b) g E0 tg1 iter1 it1) (hg1 : ∀ b : Bi, SG (Bk X scope b) g E0 is1 tg1 t1) (ht1 : ∀ b : Bi, STs (Bk X scope b) g E0 ifs1 ct1) (he : ∀ b : Bi, SE (Bk X scope b) g E0 elt f)
    (hy : X.N[i]? = some y := by rfl) (hyl : X.env.scope.names.lookup y = some .local := by rfl) (hk : X.env.scope.kind = .function := by rfl) (hl : (py.line == lpos.line) = true := by rfl) (hno : (scope.names.any fun (n, k) => n == y && (k == .local || k == .cell)) = false := by decide +kernel)
    (hs : ∀ i ∈ is, i ∈ own.map (·.2) := by decide) (hs1 : ∀ i ∈ is1, i ∈ vs1 := by decide) (hv : ∀ i ∈ vs1, i ∈ own.map (·.2) := by decide) (hf : ∀ x, foldedSetIterable iter X.env x = pure x := by intro _; rfl) (hf1 : ∀ env x, foldedSetIterable iter1 env x = pure x := by intro _ _; rfl) :
    SS X g E (.Assign [.Name y py] (.ListComp elt [⟨tg, iter, ifs, 0⟩, ⟨tg1, iter1, ifs1, 0⟩] scope lpos) spos) (sSet i (eLcR (lc2 (own.map (·.2)) vs1 it t ct it1 t1 ct1 f))) := (ss_lc2 hc hN own vs1 hi ok hg ht hi1 hg1 ht1 he hy hyl hk hl hno hs hs1 hv hf hf1).2
end
end
end Rt

set_option linter.all false
set_option maxRecDepth 100000
set_option autoImplicit false
set_option maxHeartbeats 4000000
namespace Rt
theorem lookC_put {c d : Cell} : ∀ {st : Sto} {n : Nat}, lookC st n = some c → lookC (putC st n d) n = some d
  | [], _, h => by simp [lookC] at h
  | _ :: _, 0, _ => rfl
  | _ :: r, n + 1, h => lookC_put (st := r) (n := n) h
theorem putC_put {c d : Cell} : ∀ {st : Sto} {n : Nat}, putC (putC st n c) n d = putC st n d
  | [], _ => rfl
  | _ :: _, 0 => rfl
  | b :: r, n + 1 => by
    show b :: putC (putC r n c) n d = b :: putC r n d
    rw [putC_put]
theorem putC_len {c : Cell} : ∀ {st : Sto} {n : Nat}, (putC st n c).length = st.length
  | [], _ => rfl
  | _ :: _, 0 => rfl
  | b :: r, n + 1 => by
    show (putC r n c).length + 1 = r.length + 1
    rw [putC_len]
theorem putC_take {c : Cell} {st : Sto} {n : Nat} : (putC st n c).take st.length = putC st n c := List.take_of_length_le (by rw [putC_len]; exact Nat.le_refl _)
end Rt
namespace Rt
section
variable {x y z p : P}
theorem ix30 : ixP (.lst [x, y, z]) (.int 0) = some x := rfl
theorem ix31 : ixP (.lst [x, y, z]) (.int 1) = some y := rfl
theorem ix32 : ixP (.lst [x, y, z]) (.int 2) = some z := rfl
variable {st : Sto} {n : Nat}
theorem set30 (h : lookC st n = some (.l [x, y, z])) : setAt (.r n) (.v (.int 0)) p st = .ok () (putC st n (.l [p, y, z])) := by unfold setAt; dsimp only; rw [h]; rfl
theorem set31 (h : lookC st n = some (.l [x, y, z])) : setAt (.r n) (.v (.int 1)) p st = .ok () (putC st n (.l [x, p, z])) := by unfold setAt; dsimp only; rw [h]; rfl
theorem set32 (h : lookC st n = some (.l [x, y, z])) : setAt (.r n) (.v (.int 2)) p st = .ok () (putC st n (.l [x, y, p])) := by unfold setAt; dsimp only; rw [h]; rfl
end
end Rt
namespace Rt
theorem mulOk_l {i j : Int} (h : -18446744073709551616 < i) (h' : i < 18446744073709551616) : mulOk i j = true := by
  unfold mulOk big
  simp [h, h']
theorem mulOk_r {i j : Int} (h : -18446744073709551616 < j) (h' : j < 18446744073709551616) : mulOk i j = true := by
  unfold mulOk big
  simp [h, h']
end Rt
namespace Rt
/-- ints as values -/
def il (S : List Int) : List P := S.map P.int
theorem il_length {S : List Int} : (il S).length = S.length := List.length_map _
theorem il_take {S : List Int} {k : Nat} : il (S.take k) = (il S).take k := List.map_take
theorem il_app {S T : List Int} : il (S ++ T) = il S ++ il T := List.map_append
theorem il_cons {x : Int} {S : List Int} : il (x :: S) = .int x :: il S := rfl
theorem il_ints : ∀ S : List Int, allP isIntP (il S) = true
  | [] => rfl
  | x :: r => il_ints r
theorem il_sum : ∀ S : List Int, sumI (il S) = S.sum
  | [] => rfl
  | x :: r => by
    show x + sumI (il r) = (x :: r).sum
    rw [il_sum r, List.sum_cons]
theorem il_at {S : List Int} {i : Nat} (h : i < S.length) : ixP (.lst (il S)) (.int i) = some (.int S[i]) := by
  show (ixN (il S).length (Int.ofNat i)).bind (nth (il S)) = _
  have e : ixN (il S).length (Int.ofNat i) = some i := by
    show (if Nat.blt i (il S).length = true then some i else none) = some i
    rw [if_pos]
    rw [il_length]
    exact Nat.ble_eq_true_of_le h
  rw [e]
  show nth (il S) i = _
  have : ∀ (l : List P) (n : Nat), nth l n = l[n]? := by
    intro l
    induction l with
    | nil => intro n; simp [nth]
    | cons p r ih =>
      intro n
      cases n with
      | zero => rfl
      | succ n => rw [nth, ih]; simp
  rw [this]
  show (S.map P.int)[i]? = _
  rw [List.getElem?_map, List.getElem?_eq_getElem h]
  rfl
theorem il_cut {S : List Int} {k : Nat} : slP (.lst (il S)) none (some (Int.ofNat k)) = some (.lst (il (S.take k))) := by
  show some (P.lst (cut (il S) none (some (Int.ofNat k)))) = _
  congr 2
  unfold cut
  show ((il S).drop 0).take (min k (il S).length - 0) = il (S.take k)
  rw [List.drop_zero, Nat.sub_zero, il_take, il_length]
  by_cases h : k ≤ S.length
  · rw [Nat.min_eq_left h]
  · rw [Nat.min_eq_right (by omega), List.take_of_length_le (by rw [il_length]; exact Nat.le_refl _), List.take_of_length_le (by rw [il_length]; omega)]
theorem il_len {S : List Int} : lenP (.lst (il S)) = some (.int S.length) := by
  show some (P.int ((il S).length : Nat)) = _
  rw [il_length]
theorem il_sumP {S : List Int} : sumP (.lst (il S)) = some (.int S.sum) := by
  show (if allP isIntP (il S) then some (P.int (sumI (il S))) else none) = _
  rw [il_ints, il_sum]; rfl
theorem il_add1 {S : List Int} {x : Int} (h : S.length ≤ 1000) : addP (.lst (il S)) (.lst [.int x]) = some (.lst (il (S ++ [x]))) := by
  show (if Nat.ble ((il S).length + 1) line then some (P.lst (il S ++ [.int x])) else none) = _
  rw [if_pos, il_app]; rfl
  rw [il_length]
  exact Nat.ble_eq_true_of_le (Nat.le_trans (Nat.succ_le_succ h) (by decide))
end Rt
namespace Rt
def okI (r : R A) (v : Int) : Bool := match r with
  | .ok (.v (.int b)) [] => decide (b = v)
  | _ => false
theorem okI_eq {r : R A} {v : Int} (h : okI r v = true) : r = .ok (.v (.int v)) [] := by
  unfold okI at h
  split at h
  · rw [of_decide_eq_true h]
  · cases h
theorem lookC_app {st : Sto} {c : Cell} : lookC (st ++ [c]) st.length = some c := by
  induction st with
  | nil => rfl
  | cons b r ih => exact ih
theorem lone_v {f : Fn} {as : List A} {st : Sto} {p : P} {s : Sto} (ha : lone.allB isVal as = true) (h : f as [] = .ok (.v p) s) : lone f as st = .ok (.v p) st := by
  unfold lone
  rw [ha, h]
  rfl
theorem lone_r {f : Fn} {as : List A} {st : Sto} {c : Cell} (ha : lone.allB isVal as = true) (h : f as [] = .ok (.r 0) [c]) : lone f as st = .ok (.r st.length) (st ++ [c]) := by
  unfold lone
  rw [ha, h]
  rfl
theorem lone_m {f : Fn} {as : List A} {st : Sto} (ha : lone.allB isVal as = false) : lone f as st = f as st := by
  unfold lone
  rw [ha]
  rfl
end Rt

set_option linter.all false
set_option maxRecDepth 100000
set_option autoImplicit false
set_option maxHeartbeats 4000000
namespace Pu
open Rt
theorem bind_ok {α β : Type} {m : M α} {k : α → M β} {st s : Sto} {a : α} (h : m st = .ok a s) : Rt.bind m k st = k a s := by unfold Rt.bind; rw [h]
section
variable {env e' : En} {st s s' : Sto} {a b : Sx} {e f g : Ex} {x y : A} {c : Tx} {i : Nat} {es : List Ex} {as : List A} {fn : Fn}
theorem sq_nx (h : a env st = .nx e' s') : sq a b env st = b e' s' := by unfold sq; rw [h]
theorem sSet_ok (h : e env st = .ok x s) : sSet i e env st = .nx (put env i (some x)) s := by unfold sSet; rw [h]; rfl
theorem sR_ok (h : e env st = .ok x s) : sR e env st = .rt x s := by unfold sR; rw [h]; rfl
theorem sIf_t (h : c env st = .ok true s) : sIf c a b env st = a env s := by unfold sIf; rw [h]; rfl
theorem sIf_f (h : c env st = .ok false s) : sIf c a b env st = b env s := by unfold sIf; rw [h]; rfl
theorem call_ok {r : R A} (h : evs es env st = .ok as s) (h' : lone fn as s = r) : call fn es env st = r := (bind_ok h).trans h'
theorem callK_ok {o : List Nat} {ks : List Ex} {bs cs : List A} {r : R A} {s' : Sto} (h : evs es env st = .ok as s) (h1 : evs ks env s = .ok bs s') (h2 : pick o (as ++ bs) = some cs) (h' : lone fn cs s' = r) : callK fn o es ks env st = r :=
  (bind_ok h).trans ((bind_ok h1).trans ((bind_ok (m := opt (pick o (as ++ bs))) (a := cs) (s := s') (by rw [h2]; rfl)).trans h'))
theorem e2_ok {g : A → A → M A} {r : R A} (h : e env st = .ok x s) (h1 : f env s = .ok y s') (h2 : g x y s' = r) : e2 g e f env st = r := (bind_ok h).trans ((bind_ok h1).trans h2)
theorem e1_ok {g : A → M A} {r : R A} (h : e env st = .ok x s) (h2 : g x s = r) : e1 g e env st = r := (bind_ok h).trans h2
theorem cmp_ok {g : P → P → Option Bool} {r : R Bool} (h : e env st = .ok x s) (h1 : f env s = .ok y s') (h2 : rdB g x y s' = r) : cmp g e f env st = r := (bind_ok h).trans ((bind_ok h1).trans h2)
theorem eIf_t {r : R A} (h : c env st = .ok true s) (h1 : e env s = r) : eIf c e f env st = r := (bind_ok h).trans h1
theorem eIf_f {r : R A} (h : c env st = .ok false s) (h1 : f env s = r) : eIf c e f env st = r := (bind_ok h).trans h1
theorem cT_ok {r : R Bool} (h : e env st = .ok x s) (h1 : truA x s = r) : cT e env st = r := (bind_ok h).trans h1
theorem cE_ok {r : R Bool} (h : e env st = .ok x s) (h1 : asB x s = r) : cE e env st = r := (bind_ok h).trans h1
theorem cNot_ok {k : Bool} (h : c env st = .ok k s) : cNot c env st = .ok (!k) s := bind_ok h
theorem evs_nil : evs [] env st = .ok [] st := rfl
theorem evs_cons (h : e env st = .ok x s) (h1 : evs es env s = .ok as s') : evs (e :: es) env st = .ok (x :: as) s' := (bind_ok h).trans (bind_ok h1)
theorem eM3_ok {k : Kd} {g : A → A → A → M A} {o : Ex} {w : A} {s0 s1 s2 : Sto} {r : R A} (h : o env st = .ok w s0) (hk : kdC k w s0 = .ok () s0) (h1 : e env s0 = .ok x s1) (h2 : f env s1 = .ok y s2) (h3 : g w x y s2 = r) : eM3 k g o e f env st = r :=
  (bind_ok h).trans ((bind_ok hk).trans ((bind_ok h1).trans ((bind_ok h2).trans h3)))
theorem sFor_ok {it : It} {t : Tg} {xs : List P} (h : it env st = .ok xs s) : sFor it t a env st = forL t a xs env s := by unfold sFor; rw [h]; rfl
theorem itE_ok {p : P} {xs : List P} {st : Sto} (h : e env st = .ok x s) (h1 : toV x s = .ok p s') (h2 : itemsP p = some xs) : itE e env st = .ok xs s' :=
  (bind_ok h).trans ((bind_ok h1).trans (by show opt (itemsP p) s' = _; rw [h2]; rfl))
theorem turns_fil {i : Nat} {e : Ex} {c : Tx} {env : En} {st : Sto} {f : P → P} {q : P → Bool} : ∀ {xs : List P}, (∀ x ∈ xs, c (put env i (some (.v x))) st = .ok (q x) st) → (∀ x ∈ xs, q x = true → e (put env i (some (.v x))) st = .ok (.v (f x)) st) → turns (tN i) c e env xs st = .ok ((xs.filter q).map f) st
  | [], _, _ => rfl
  | x :: r, h, h' => by
    have ih := turns_fil (xs := r) (fun y hy => h y (List.mem_cons_of_mem _ hy)) (fun y hy => h' y (List.mem_cons_of_mem _ hy))
    have hx := h x (List.mem_cons_self ..)
    have hx' := h' x (List.mem_cons_self ..)
    refine (bind_ok (a := put env i (some (.v x))) (s := st) rfl).trans ?_
    refine (bind_ok hx).trans ?_
    cases hq : q x with
    | true =>
      rw [hq] at hx'
      rw [List.filter_cons_of_pos hq, List.map_cons]
      exact (bind_ok (hx' rfl)).trans ((bind_ok (a := f x) (s := st) rfl).trans (bind_ok ih))
    | false =>
      rw [List.filter_cons_of_neg (by rw [hq]; exact Bool.false_ne_true)]
      exact ih
theorem turns_all {i : Nat} {e : Ex} {env : En} {st : Sto} {f : P → P} {xs : List P} (h : ∀ x ∈ xs, e (put env i (some (.v x))) st = .ok (.v (f x)) st) : turns (tN i) cYes e env xs st = .ok (xs.map f) st := by
  have := turns_fil (i := i) (e := e) (c := cYes) (env := env) (st := st) (f := f) (q := fun _ => true) (xs := xs) (fun _ _ => rfl) (fun x hx _ => h x hx)
  rwa [List.filter_eq_self.mpr (fun _ _ => rfl)] at this
theorem lc_ok {vs : List Nat} {it : It} {tg : Tg} {c : Tx} {e : Ex} {env : En} {st : Sto} {xs ys : List P} (h : it env st = .ok xs st) (h1 : turns tg c e (wipe env vs) xs st = .ok ys st) (h2 : ys.length ≤ line) : lc vs it tg c e env st = .ok ys st := by
  refine (bind_ok h).trans ((bind_ok (a := ys) (s := st) ?_).trans ?_)
  · show calm _ st = _
    unfold calm
    rw [h1]
  · unfold fits
    rw [if_pos (Nat.ble_eq_true_of_le h2)]
    rfl
theorem eLc_ok {m : En → M (List P)} {env : En} {st : Sto} {ys : List P} (h : m env st = .ok ys st) : eLc m env st = .ok (.v (.lst ys)) st := bind_ok h
end
end Pu

set_option Elab.async false
set_option linter.all false
set_option maxRecDepth 100000
set_option autoImplicit false
set_option maxHeartbeats 4000000
namespace Lw
open PySem PySem.Spec PyProof.Rows L2 Rt
/-! ### what the defs compute -/
def f_is_whole : Fn := fnV 1 1 (
  (sR (eB (cAnd (isI .int (eV 0)) (cNot (isI .bool (eV 0)))))))
def f_is_between : Fn := fnV 3 3 (
  (sR (eB (cAnd (cE (call f_is_whole [(eV 0)])) (cmp2 leO leO (eV 1) (eV 0) (eV 2))))))
def f_factorial_of : Fn := fnV 1 3 (
  (sq (sSet 1 (eC (.int 1)))
  (sq (sFor (itR2 (eC (.int 2)) (e2 (rd2 addP) (eV 0) (eC (.int 1)))) (tN 2)
  (sSet 1 (e2 (rd2 mulP) (eV 1) (eV 2))))
  (sR (eV 1)))))
def f_is_ring : Fn := fnV 1 1 (
  (sR (call f_is_between [(eV 0), (eC (.int 3)), (eC (.int 12))])))
def f_units_of : Fn := fnV 1 2 (
  (sR (eLc (lc [1] (itR2 (eC (.int 1)) (eV 0)) (tN 1) (cmp eqP (e2 (rd2 gcdP) (eV 1) (eV 0)) (eC (.int 1))) (eV 1)))))
def f_motions_of : Fn := fnV 2 5 (
  (sq (sSet 2 (eDic false [((eC (.str [114, 97, 105, 115, 101])), (eLst [(eC (.int 1))])), ((eC (.str [116, 117, 114, 110])), (eLst [(eC (.int 1)), (e2 (rd2 subP) (eV 0) (eC (.int 1)))])), ((eC (.str [117, 110, 105, 116])), (call f_units_of [(eV 0)]))]))
  (sR (eLc (lc2 [3, 4] [4] (itE (e2 (rd2 ixP) (eV 2) (eV 1))) (tN 3) cYes (itR1 (eV 0)) (tN 4) cYes (eTup [(eV 3), (eV 4)]))))))
def f_led_tone : Fn := fnV 3 3 (
  (sR (e2 (rd2 modP) (e2 (rd2 addP) (e2 (rd2 mulP) (e2 (rd2 ixP) (eV 2) (eC (.int 0))) (eV 1)) (e2 (rd2 ixP) (eV 2) (eC (.int 1)))) (eV 0))))
def f_check_ring : Fn := fnV 1 1 (
  (sIf (cNot (cT (call f_is_ring [(eV 0)])))
  sNo
  sPass))
def f_does_turn_rows : Fn := fnV 2 5 (
  (sq (sSet 2 (eLc (lc [4] (itR1 (eV 0)) (tN 4) (cmp eqP (call f_led_tone [(eV 0), (eV 4), (eV 1)]) (eV 4)) (eV 4))))
  (sq (sSet 3 (eLc (lc [4] (itR1 (eV 0)) (tN 4) (cmp eqP (call f_led_tone [(eV 0), (call f_led_tone [(eV 0), (eV 4), (eV 1)]), (eV 1)]) (eV 4)) (eV 4))))
  (sR (eB (cAnd (cmp eqP (e1 (rd1 lenP) (eV 2)) (e2 (rd2 modP) (eV 0) (eC (.int 2)))) (cmp eqP (e1 (rd1 lenP) (eV 3)) (eV 0))))))))
def f_row_form_count_of : Fn := fnV 1 6 (
  (sq (sPar [1, 2] [(e2 (rd2 divP) (eV 0) (eC (.int 2))), (call f_motions_of [(eV 0), (eC (.str [116, 117, 114, 110]))])])
  (sq (sSet 3 (e1 (rd1 lenP) (eLc (lc [5] (itE (eV 2)) (tN 5) (cT (call f_does_turn_rows [(eV 0), (eV 5)])) (eV 5)))))
  (sq (sSet 4 (e2 (rd2 addP) (call f_factorial_of [(eV 0)]) (e2 (rd2 mulP) (e2 (rd2 mulP) (eV 3) (call f_factorial_of [(eV 1)])) (e2 (rd2 shlP) (eC (.int 1)) (eV 1)))))
  (sR (e2 (rd2 divP) (eV 4) (e2 (rd2 mulP) (eC (.int 2)) (e1 (rd1 lenP) (eV 2)))))))))
def f_row_form_count : Fn := fnV 1 1 (
  (sq (sE (call f_check_ring [(eV 0)]))
  (sR (call f_row_form_count_of [(eV 0)]))))
def g_well : Fn := fnR 2 5 (
  (sq (sSet 2 (eIf (cmp ltO (eV 1) (e1 (rd1 lenP) (eV 0))) (e1 (rd1 intP) (e2 (rd2 ixP) (eV 0) (eV 1))) (e2 (rd2 addP) (e2 (rd2 addP) (e2 (rd2 mulP) (eC (.int 9311)) (eV 1)) (e2 (rd2 modP) (e1 (rd1 intP) (e1 (rd1 sumP) (eSlice (eV 0) none (some (eC (.int 2)))))) (eC (.int 1000003)))) (eC (.int 71)))))
  (sq (sSet 3 (e2 (rd2 addP) (eC (.int 50021)) (e2 (rd2 mulP) (eC (.int 1013)) (eV 1))))
  (sq (sFor (itE (e2 (rd2 addP) (eSlice (eV 0) none (some (eC (.int 5)))) (eLst [(eV 2)]))) (tN 4)
  (sSet 3 (e2 (rd2 modP) (e1 (rd1 intP) (e2 (rd2 addP) (e2 (rd2 addP) (e2 (rd2 mulP) (eV 3) (eC (.int 45013))) (e2 (rd2 modP) (e1 (rd1 intP) (eV 4)) (eC (.int 2147483399)))) (eC (.int 37)))) (eC (.int 2147483563)))))
  (sR (eLstR [(eIf (cOr (cmp ltO (eV 2) (eC (.int 0))) (cmp geO (eV 2) (e2 (rd2 powP) (eC (.int 10)) (eC (.int 17))))) (e1 (rd1 absP) (eV 2)) (eC (.int 0))), (eV 3), (eC (.int 0))]))))))
def g_take : Fn := fnV 2 4 (
  (sq (sIf (cmp gtO (e2 (rd2 ixP) (eV 0) (eC (.int 0))) (eC (.int 0)))
  (sq (sAsg (tT [(tS (eV 0) (eC (.int 0))), (tN 3)]) (e2 (rd2 divmodP) (e2 (rd2 ixP) (eV 0) (eC (.int 0))) (eV 1)))
  (sR (eV 3)))
  sPass)
  (sq (sAsg (tS (eV 0) (eC (.int 2))) (e2 (rd2 addP) (e2 (rd2 ixP) (eV 0) (eC (.int 2))) (eC (.int 1))))
  (sq (sSet 2 (e2 (rd2 addP) (e2 (rd2 modP) (e1 (rd1 intP) (e2 (rd2 ixP) (eV 0) (eC (.int 1)))) (eC (.int 28657))) (eC (.int 40009))))
  (sq (sAsg (tS (eV 0) (eC (.int 1))) (e2 (rd2 modP) (e1 (rd1 intP) (e2 (rd2 addP) (e2 (rd2 addP) (e2 (rd2 mulP) (e2 (rd2 ixP) (eV 0) (eC (.int 1))) (eV 2)) (e2 (rd2 mulP) (eC (.int 50023)) (e2 (rd2 ixP) (eV 0) (eC (.int 2))))) (eC (.int 17)))) (eC (.int 2147483563))))
  (sR (e2 (rd2 modP) (e1 (rd1 intP) (e2 (rd2 divP) (e2 (rd2 ixP) (eV 0) (eC (.int 1))) (eC (.int 83)))) (eV 1))))))))
def g_same : Nat → Fn
  | 0 => never
  | n + 1 => fnV 2 3 (
  (sq (sIf (cOr (isI .tuple (eV 1)) (isI .list (eV 1)))
  (sq (sIf (cOr (cmp neP (eB (isI .tuple (eV 0))) (eB (isI .tuple (eV 1)))) (cmp neP (eB (isI .list (eV 0))) (eB (isI .list (eV 1)))))
  (sR (eC (.bl false)))
  sPass)
  (sR (eB (cAnd (cmp eqP (e1 (rd1 lenP) (eV 0)) (e1 (rd1 lenP) (eV 1))) (cE (e1 (rd1 allO) (eLc (lc [2] (itR1 (e1 (rd1 lenP) (eV 1))) (tN 2) cYes (call (g_same n) [(e2 (rd2 ixP) (eV 0) (eV 2)), (e2 (rd2 ixP) (eV 1) (eV 2))])))))))))
  sPass)
  (sq (sIf (cmp isO (eV 1) (eC .non))
  (sR (eB (cmp isO (eV 0) (eC .non))))
  sPass)
  (sq (sIf (isI .bool (eV 1))
  (sR (eB (cAnd (isI .bool (eV 0)) (cmp eqP (eV 0) (eV 1)))))
  sPass)
  (sq (sIf (isI .int (eV 1))
  (sR (eB (cAnd (isI .int (eV 0)) (cAnd (cNot (isI .bool (eV 0))) (cmp eqP (eV 0) (eV 1))))))
  sPass)
  (sR (eB (cAnd (isI .str (eV 0)) (cmp eqP (eV 0) (eV 1))))))))))
def g_moved : Fn := fnV 2 6 (
  (sq (sAsg (tT [(tN 2), (tT [(tN 3), (tN 4)])]) (eTup [(e2 (rd2 ixP) (eV 1) (eC (.int 0))), (e2 (rd2 ixP) (eV 1) (eC (.int 1)))]))
  (sR (e1 (rd1 tupleOf) (eLc (lc [5] (itE (eV 0)) (tN 5) cYes (e2 (rd2 modP) (e1 (rd1 intP) (e2 (rd2 addP) (e2 (rd2 mulP) (eV 3) (eV 5)) (eV 4))) (eV 2))))))))
def g_forms : Fn := fnV 1 6 (
  (sq (sPar [1, 2] [(e1 (rd1 lenP) (eV 0)), (eDicR true [])])
  (sq (sFor (itE (eLst [(eC (.int 1)), (e2 (rd2 subP) (eV 1) (eC (.int 1)))])) (tN 3)
  (sFor (itR1 (eV 1)) (tN 4)
  (sq (sSet 5 (call g_moved [(eV 0), (eTup [(eV 1), (eTup [(eV 3), (eV 4)])])]))
  (sq (sAsg (tS (eV 2) (eV 5)) (eC (.bl true)))
  (sAsg (tS (eV 2) (e1 (rd1 revP) (eV 5))) (eC (.bl true)))))))
  (sR (e1 (rd1 tupleOf) (e1 (rd1 sortedV) (e1 (rd1 listOf) (eV 2))))))))
def g_all_rows : Fn := fnV 1 6 (
  (sq (sSet 1 (eLst [(eTup [])]))
  (sq (sFor (itR1 (eV 0)) (tN 2)
  (sq (sSet 3 (eLstR []))
  (sq (sFor (itE (eV 1)) (tN 4)
  (sE (eM .l mExtend (eV 3) (eLc (lc [5] (itR1 (eV 0)) (tN 5) (cmp notInO (eV 5) (eV 4)) (e2 (rd2 addP) (eV 4) (eTup [(eV 5)])))))))
  (sSet 1 (eV 3)))))
  (sR (eV 1)))))
def g_factorial : Fn := fnV 1 3 (
  (sq (sSet 1 (eC (.int 1)))
  (sq (sFor (itR2 (eC (.int 2)) (e2 (rd2 addP) (eV 0) (eC (.int 1)))) (tN 2)
  (sSet 1 (e2 (rd2 mulP) (eV 1) (eV 2))))
  (sR (eV 1)))))
def g_by_mean : Fn := fnV 1 5 (
  (sq (sPar [1, 2] [(e2 (rd2 divP) (eV 0) (eC (.int 2))), (eC (.int 1))])
  (sq (sFor (itR2 (eC (.int 1)) (e2 (rd2 addP) (eV 1) (eC (.int 1)))) (tN 3)
  (sSet 2 (e2 (rd2 mulP) (e2 (rd2 mulP) (eV 2) (eC (.int 2))) (eV 3))))
  (sq (sSet 4 (eIf (cmp eqP (e2 (rd2 modP) (e1 (rd1 intP) (eV 0)) (eC (.int 2))) (eC (.int 0))) (e2 (rd2 addP) (eC (.int 1)) (eV 1)) (eV 0)))
  (sR (e2 (rd2 divP) (e2 (rd2 addP) (call g_factorial [(eV 0)]) (e2 (rd2 mulP) (eV 4) (eV 2))) (e2 (rd2 mulP) (eC (.int 4)) (eV 0))))))))
def g_by_parts : Fn := fnV 1 5 (
  (sq (sPar [1, 2] [(eDicR true []), (eC (.int 0))])
  (sq (sFor (itE (call g_all_rows [(eV 0)])) (tN 3)
  (sIf (cmp notInO (eV 3) (eV 1))
  (sq (sSet 2 (e2 (rd2 addP) (eV 2) (eC (.int 1))))
  (sFor (itE (call g_forms [(eV 3)])) (tN 4)
  (sAsg (tS (eV 1) (eV 4)) (eC (.bl true)))))
  sPass))
  (sR (eV 2)))))
def f_law : Fn := fnV 1 7 (
  (sq (sSet 1 (e1 (rd1 (dictOf false)) (eLc (lc [2] (itR2 (eC (.int 3)) (eC (.int 7))) (tN 2) cYes (eTup [(eV 2), (call g_by_parts [(eV 2)])])))))
  (sq (sFor (itE (eV 1)) (tN 2)
  (sIf (cmp neP (e2 (rd2 ixP) (eV 1) (eV 2)) (call g_by_mean [(eV 2)]))
  (sR (eC (.bl false)))
  sPass))
  (sq (sFor (itR1 (e2 (rd2 max2P) (eC (.int 2)) (e2 (rd2 min2P) (e1 (rd1 lenP) (eV 0)) (eC (.int 4))))) (tN 3)
  (sq (sSet 4 (call g_well [(eV 0), (eV 3)]))
  (sFor (itR1 (eC (.int 6))) (tN 5)
  (sq (sSet 2 (e2 (rd2 addP) (eC (.int 3)) (call g_take [(eV 4), (eC (.int 10))])))
  (sq (sSet 6 (eIf (cmp eqP (call g_take [(eV 4), (eC (.int 2))]) (eC (.int 0))) (call f_row_form_count [(eV 2)]) (callK f_row_form_count [0] [] [(eV 2)])))
  (sIf (cNot (cT (call (g_same 20) [(eV 6), (eM3 .d getD2 (eV 1) (eV 2) (call g_by_mean [(eV 2)]))])))
  (sR (eC (.bl false)))
  sPass))))))
  (sR (eB (cAnd (cE (call (g_same 20) [(eLc (lc [2] (itR2 (eC (.int 3)) (eC (.int 13))) (tN 2) cYes (call f_row_form_count [(eV 2)]))), (eLc (lc [2] (itR2 (eC (.int 3)) (eC (.int 13))) (tN 2) cYes (call g_by_mean [(eV 2)])))])) (cmp eqP (call f_row_form_count [(eC (.int 12))]) (eC (.int 9985920))))))))))
/-! ### the code does so -/
def top (i : Nat) : Stmt := PySem.Challenge.pw_ringtones_k51_row_form_counts.main.body.getD i (.Pass ⟨0, 0, 0, 0⟩)
def g0 : Gc := ⟨fun _ => 0, fun _ => ""⟩
end Lw
set_option linter.all false
set_option maxRecDepth 100000
set_option autoImplicit false
set_option maxHeartbeats 4000000

namespace Kw
open Lw
open Rt
theorem take_ok {st : Sto} {n : Nat} {a b c m : Int} (h : lookC st n = some (.l [.int a, .int b, .int c])) (h1 : 0 < m) (h2 : m < 1073741824) :
    ∃ a' b' c' r, 0 ≤ r ∧ r < m ∧ g_take [.r n, .v (.int m)] st = .ok (.v (.int r)) (putC st n (.l [.int a', .int b', .int c'])) := by
  have hp : ∀ d, lookC (putC st n d) n = some d := fun d => lookC_put h
  by_cases ha : 0 < a
  · refine ⟨a / m, b, c, a % m, Int.emod_nonneg _ (by omega), Int.emod_lt_of_pos _ h1, ?_⟩
    simp [g_take, fnV, start, sq, sIf, sAsg, sSet, sR, fl, Rt.bind, cmp, rdB, now, eV, Rt.get, eC, Rt.ret, e1, e2, rd1, rd2, Rt.opt, ix30, ix31, ix32, set30 h, gtO, tT, tS, tN, toV, unpack, Rt.put, h, ha, h1, h2, divmodP, tupP, putC_take, putC_put]
  · have e1 : mulOk b (b % 28657 + 40009) = true := mulOk_r (by omega) (by omega)
    have e2 : mulOk 50023 (c + 1) = true := mulOk_l (by decide) (by decide)
    refine ⟨a, (b * (b % 28657 + 40009) + 50023 * (c + 1) + 17) % 2147483563, c + 1, ((b * (b % 28657 + 40009) + 50023 * (c + 1) + 17) % 2147483563 / 83) % m, Int.emod_nonneg _ (by omega), Int.emod_lt_of_pos _ h1, ?_⟩
    simp [g_take, fnV, start, sq, sIf, sAsg, sSet, sR, fl, Rt.bind, cmp, rdB, now, eV, Rt.get, eC, Rt.ret, Rt.e1, Rt.e2, rd1, rd2, Rt.opt, ix30, ix31, ix32, gtO, tT, tS, tN, toV, unpack, Rt.put, h, hp, ha, h1, h2, addP, modP, mulP, e1, e2, intP, divP, set32 h, set31 (hp _), sPass, putC_take, putC_put]
def wellB : Sx := (sSet 3 (e2 (rd2 modP) (e1 (rd1 intP) (e2 (rd2 addP) (e2 (rd2 addP) (e2 (rd2 mulP) (eV 3) (eC (.int 45013))) (e2 (rd2 modP) (e1 (rd1 intP) (eV 4)) (eC (.int 2147483399)))) (eC (.int 37)))) (eC (.int 2147483563))))
theorem well_loop {s0 s1 s2 : Option A} {st : Sto} : ∀ (L : List Int) (stir : Int) (c : Option A), ∃ stir' c', forL (tN 4) wellB (il L) [s0, s1, s2, some (.v (.int stir)), c] st = .nx [s0, s1, s2, some (.v (.int stir')), c'] st
  | [], stir, c => ⟨stir, c, rfl⟩
  | x :: r, stir, c => by
    have e1 : mulOk stir 45013 = true := mulOk_r (by decide) (by decide)
    obtain ⟨s', c', e⟩ := well_loop (s0 := s0) (s1 := s1) (s2 := s2) (st := st) r ((stir * 45013 + x % 2147483399 + 37) % 2147483563) (some (.v (.int x)))
    refine ⟨s', c', ?_⟩
    rw [← e]
    simp [il_cons, forL, tN, fl, Rt.ret, Rt.put, wellB, sSet, Rt.e1, Rt.e2, rd1, rd2, Rt.bind, eV, eC, Rt.get, Rt.opt, now, modP, intP, addP, mulP, e1]
theorem well_ok (S : List Int) (t : Nat) : ∃ a b, g_well [.v (.lst (il S)), .v (.int t)] [] = .ok (.r 0) [.l [.int a, .int b, .int 0]] := by
  have hl : (S.take 5).length ≤ 1000 := by rw [List.length_take]; omega
  have e3 : mulOk 9311 t = true := mulOk_l (by decide) (by decide)
  have e4 : mulOk 1013 t = true := mulOk_l (by decide) (by decide)
  have own : ∃ o : Int, (eIf (cmp ltO (eV 1) (e1 (rd1 lenP) (eV 0))) (e1 (rd1 intP) (e2 (rd2 ixP) (eV 0) (eV 1))) (e2 (rd2 addP) (e2 (rd2 addP) (e2 (rd2 mulP) (eC (.int 9311)) (eV 1)) (e2 (rd2 modP) (e1 (rd1 intP) (e1 (rd1 sumP) (eSlice (eV 0) none (some (eC (.int 2)))))) (eC (.int 1000003)))) (eC (.int 71)))) [some (.v (.lst (il S))), some (.v (.int t)), none, none, none] [] = .ok (.v (.int o)) [] := by
    have c2 := il_cut (S := S) (k := 2)
    by_cases h : t < S.length
    · refine ⟨S[t], ?_⟩
      have h' : (t : Int) < S.length := by omega
      simp [eIf, cmp, Rt.bind, eV, Rt.get, Rt.opt, Rt.ret, Rt.e1, Rt.e2, rd1, rd2, rdB, now, il_len, ltO, h', h, il_at h, intP]
    · refine ⟨9311 * t + (S.take 2).sum % 1000003 + 71, ?_⟩
      · have h' : ¬ (t : Int) < S.length := by omega
        simp [eIf, cmp, Rt.bind, eV, Rt.get, Rt.opt, Rt.ret, Rt.e1, Rt.e2, rd1, rd2, rdB, now, il_len, ltO, h', h, intP, eC, eSlice, evO, mulP, e3, addP, modP, show slP (P.lst (il S)) none (some 2) = _ from c2, il_sumP]
  obtain ⟨o, ho⟩ := own
  obtain ⟨st', c', hw⟩ := well_loop (s0 := some (.v (.lst (il S)))) (s1 := some (.v (.int t))) (s2 := some (.v (.int o))) (st := []) (S.take 5 ++ [o]) (50021 + 1013 * t) none
  have c5 := il_cut (S := S) (k := 5)
  have a5 := il_add1 (S := S.take 5) (x := o) hl
  refine ⟨if o < 0 ∨ 100000000000000000 ≤ o then (if o < 0 then -o else o) else 0, st', ?_⟩
  have hw' : forL (tN 4) wellB (il (List.take 5 S ++ [o])) [some (.v (.lst (il S))), some (.v (.int t)), some (.v (.int o)), some (.v (.int (50021 + 1013 * t))), none] [] = .nx [some (.v (.lst (il S))), some (.v (.int t)), some (.v (.int o)), some (.v (.int st')), c'] [] := hw
  unfold wellB at hw'
  have eB : ∀ x : Bool × Bool, True := fun _ => trivial
  have c5' : slP (P.lst (il S)) none (some 5) = some (.lst (il (List.take 5 S))) := c5
  unfold g_well fnR
  simp only [start, List.map, List.length_cons, List.length_nil, beq_self_eq_true, if_true, List.replicate, List.cons_append, List.nil_append, sq, sSet, ho, fl, Rt.put]
  simp only [Rt.e2, rd2, Rt.bind, eC, eV, now, mulP, e4, show addP (.int 50021) (.int (1013 * t)) = some (.int (50021 + 1013 * t)) from rfl, Rt.get, Rt.opt, Rt.ret, if_true, Option.map, sFor, itE, eSlice, evO, rd1, c5', eLst, evs, toVs, toV, itemsP, fl, a5]
  rw [hw']
  by_cases h1 : o < 0
  · simp [sR, eLstR, evs, eIf, cOr, cmp, Rt.bind, eV, eC, Rt.get, Rt.opt, Rt.ret, rdB, now, ltO, h1, fl, toVs, toV, fresh, Rt.e1, rd1, absP, lookC]
  · by_cases h2 : 100000000000000000 ≤ o
    · simp [sR, eLstR, evs, eIf, cOr, cmp, Rt.bind, eV, eC, Rt.get, Rt.opt, Rt.ret, rdB, now, ltO, geO, h1, h2, fl, toVs, toV, fresh, Rt.e1, Rt.e2, rd1, rd2, powP, big, absP, lookC]
    · simp [sR, eLstR, evs, eIf, cOr, cmp, Rt.bind, eV, eC, Rt.get, Rt.opt, Rt.ret, rdB, now, ltO, geO, h1, h2, fl, toVs, toV, fresh, Rt.e1, Rt.e2, rd1, rd2, powP, big, absP, lookC]
end Kw

set_option linter.all false
set_option maxRecDepth 100000
set_option autoImplicit false
set_option maxHeartbeats 4000000
namespace Kw
open Lw
open Rt
def V (i : Nat) : Int := [1, 3, 8, 38, 192, 1320, 10176, 91296, 908160, 9985920].getD i 0
theorem rfAll : (List.range 10).all (fun i => okI (f_row_form_count [.v (.int (3 + (i : Int)))] []) (V i)) = true := by decide +kernel
theorem bmAll : (List.range 10).all (fun i => okI (g_by_mean [.v (.int (3 + (i : Int)))] []) (V i)) = true := by decide +kernel
theorem rf_at {i : Nat} (h : i < 10) : f_row_form_count [.v (.int (3 + (i : Int)))] [] = .ok (.v (.int (V i))) [] := okI_eq (List.all_eq_true.mp rfAll i (List.mem_range.mpr h))
theorem bm_at {i : Nat} (h : i < 10) : g_by_mean [.v (.int (3 + (i : Int)))] [] = .ok (.v (.int (V i))) [] := okI_eq (List.all_eq_true.mp bmAll i (List.mem_range.mpr h))
theorem same_int (v : Int) : g_same 20 [.v (.int v), .v (.int v)] [] = .ok (.v (.bl true)) [] := by
  simp [g_same, fnV, start, sq, sIf, cOr, isI, Rt.bind, eV, Rt.get, Rt.opt, Rt.ret, now, isTy, fl, cmp, rdB, isO, isNon, eC, sR, eB, cAnd, cNot, eqP, sPass, toV]
def KN : P := .dic false [(.int 3, .int 1), (.int 4, .int 3), (.int 5, .int 8), (.int 6, .int 38)]
theorem get_at {i : Nat} (h : i < 10) (st : Sto) : getD2 (.v KN) (.v (.int (3 + (i : Int)))) (.v (.int (V i))) st = .ok (.v (.int (V i))) st := by
  match i, h with
  | 0, _ | 1, _ | 2, _ | 3, _ | 4, _ | 5, _ | 6, _ | 7, _ | 8, _ | 9, _ => rfl
def Bin : Sx := (sq (sSet 2 (e2 (rd2 addP) (eC (.int 3)) (call g_take [(eV 4), (eC (.int 10))])))
  (sq (sSet 6 (eIf (cmp eqP (call g_take [(eV 4), (eC (.int 2))]) (eC (.int 0))) (call f_row_form_count [(eV 2)]) (callK f_row_form_count [0] [] [(eV 2)])))
  (sIf (cNot (cT (call (g_same 20) [(eV 6), (eM3 .d getD2 (eV 1) (eV 2) (call g_by_mean [(eV 2)]))])))
  (sR (eC (.bl false)))
  sPass)))
end Kw

set_option linter.all false
set_option maxRecDepth 100000
set_option autoImplicit false
set_option maxHeartbeats 4000000
namespace Kw
open Lw
open Rt Pu
theorem in_step {s0 s2 s3 s5 s6 : Option A} {n : Nat} {st : Sto} {a b c : Int} (h : lookC st n = some (.l [.int a, .int b, .int c])) : ∃ s2' s6' a' b' c' st', Bin [s0, some (.v KN), s2, s3, some (.r n), s5, s6] st = .nx [s0, some (.v KN), s2', s3, some (.r n), s5, s6'] st' ∧ lookC st' n = some (.l [.int a', .int b', .int c']) := by
  obtain ⟨a1, b1, c1, r, r0, r1, h2⟩ := take_ok h (m := 10) (by decide) (by decide)
  have h1 := lookC_put (d := .l [.int a1, .int b1, .int c1]) h
  obtain ⟨a2, b2, c2, q, q0, q1, h3⟩ := take_ok h1 (m := 2) (by decide) (by decide)
  obtain ⟨i, rfl⟩ := Int.eq_ofNat_of_zero_le r0
  have hi : i < 10 := by omega
  generalize hs1 : putC st n (.l [.int a1, .int b1, .int c1]) = st1 at *
  generalize hs2 : putC st1 n (.l [.int a2, .int b2, .int c2]) = st2 at *
  have h4 : lookC st2 n = some (.l [.int a2, .int b2, .int c2]) := by rw [← hs2]; exact lookC_put h1
  refine ⟨some (.v (.int (3 + (i : Int)))), some (.v (.int (V i))), a2, b2, c2, st2, ?_, h4⟩
  have hb := bm_at hi
  have hg := get_at hi
  have hr := rf_at hi
  have hm := same_int (V i)
  generalize V i = v at *
  have hadd : rd2 addP (.v (.int 3)) (.v (.int (i : Int))) st1 = .ok (.v (.int (3 + (i : Int)))) st1 := rfl
  generalize (3 + (i : Int)) = w at *
  unfold Bin
  refine (sq_nx (sSet_ok (e2_ok rfl (call_ok (evs_cons rfl (evs_cons rfl evs_nil)) ((lone_m rfl).trans h2)) hadd))).trans ?_
  show sq _ _ [s0, some (.v KN), some (.v (.int w)), s3, some (.r n), s5, s6] st1 = _
  have hq : cmp eqP (call g_take [(eV 4), (eC (.int 2))]) (eC (.int 0)) [s0, some (.v KN), some (.v (.int w)), s3, some (.r n), s5, s6] st1 = .ok (q == 0) st2 := cmp_ok (call_ok (evs_cons rfl (evs_cons rfl evs_nil)) ((lone_m rfl).trans h3)) rfl rfl
  have hc : (eIf (cmp eqP (call g_take [(eV 4), (eC (.int 2))]) (eC (.int 0))) (call f_row_form_count [(eV 2)]) (callK f_row_form_count [0] [] [(eV 2)])) [s0, some (.v KN), some (.v (.int w)), s3, some (.r n), s5, s6] st1 = .ok (.v (.int v)) st2 := by
    cases hb2 : (q == 0) with
    | true => exact eIf_t (by rw [hq, hb2]) (call_ok (evs_cons rfl evs_nil) (lone_v rfl hr))
    | false => exact eIf_f (by rw [hq, hb2]) (callK_ok evs_nil (evs_cons rfl evs_nil) rfl (lone_v rfl hr))
  refine (sq_nx (sSet_ok hc)).trans ?_
  show sIf _ _ _ [s0, some (.v KN), some (.v (.int w)), s3, some (.r n), s5, some (.v (.int v))] st2 = _
  refine (sIf_f (s := st2) ?_).trans rfl
  refine cNot_ok (k := true) (cT_ok (x := .v (.bl true)) (s := st2) ?_ rfl)
  exact call_ok (evs_cons rfl (evs_cons (eM3_ok rfl rfl rfl (call_ok (evs_cons rfl evs_nil) (lone_v rfl hb)) (hg st2)) evs_nil)) (lone_v rfl hm)
end Kw

set_option linter.all false
set_option maxRecDepth 100000
set_option autoImplicit false
set_option maxHeartbeats 4000000
namespace Kw
open Lw
open Rt Pu
theorem inner_loop {n : Nat} : ∀ (xs : List P) {s0 s2 s3 s5 s6 : Option A} {st : Sto} {a b c : Int}, lookC st n = some (.l [.int a, .int b, .int c]) → ∃ s2' s5' s6' st', forL (tN 5) Bin xs [s0, some (.v KN), s2, s3, some (.r n), s5, s6] st = .nx [s0, some (.v KN), s2', s3, some (.r n), s5', s6'] st'
  | [], s0, s2, s3, s5, s6, st, a, b, c, h => ⟨s2, s5, s6, st, rfl⟩
  | x :: r, s0, s2, s3, s5, s6, st, a, b, c, h => by
    obtain ⟨s2', s6', a', b', c', st', e, h'⟩ := in_step (s0 := s0) (s2 := s2) (s3 := s3) (s5 := some (.v x)) (s6 := s6) h
    obtain ⟨u2, u5, u6, ut, e'⟩ := inner_loop r (s0 := s0) (s2 := s2') (s3 := s3) (s5 := some (.v x)) (s6 := s6') h'
    refine ⟨u2, u5, u6, ut, ?_⟩
    rw [← e']
    show (match Bin [s0, some (.v KN), s2, s3, some (.r n), some (.v x), s6] st with | .nx e' s' => forL (tN 5) Bin r e' s' | .ct e' s' => forL (tN 5) Bin r e' s' | .bk e' s' => .nx e' s' | .rt a s' => .rt a s' | .ex c p e' s' => .ex c p e' s' | .no => .no) = _
    rw [e]
def Bout : Sx := (sq (sSet 4 (call g_well [(eV 0), (eV 3)])) (sFor (itR1 (eC (.int 6))) (tN 5) Bin))
theorem out_step {S : List Int} {t : Nat} {s2 s4 s5 s6 : Option A} {st : Sto} : ∃ s2' s4' s5' s6' st', Bout [some (.v (.lst (il S))), some (.v KN), s2, some (.v (.int t)), s4, s5, s6] st = .nx [some (.v (.lst (il S))), some (.v KN), s2', some (.v (.int t)), s4', s5', s6'] st' := by
  obtain ⟨a, b, hw⟩ := well_ok S t
  have hl := lone_r (st := st) (as := [.v (.lst (il S)), .v (.int t)]) rfl hw
  obtain ⟨u2, u5, u6, ut, e⟩ := inner_loop (rangeL 0 6) (s0 := some (.v (.lst (il S)))) (s2 := s2) (s3 := some (.v (.int t))) (s5 := s5) (s6 := s6) (lookC_app (st := st) (c := .l [.int a, .int b, .int 0]))
  refine ⟨u2, some (.r st.length), u5, u6, ut, ?_⟩
  unfold Bout
  refine (sq_nx (sSet_ok (call_ok (evs_cons rfl (evs_cons rfl evs_nil)) hl))).trans ?_
  refine (sFor_ok (xs := rangeL 0 6) (s := st ++ [.l [.int a, .int b, .int 0]]) rfl).trans ?_
  exact e
theorem out_loop {S : List Int} : ∀ (k lo : Nat) {s2 s3 s4 s5 s6 : Option A} {st : Sto}, ∃ s2' s3' s4' s5' s6' st', forL (tN 3) Bout (rangeL lo k) [some (.v (.lst (il S))), some (.v KN), s2, s3, s4, s5, s6] st = .nx [some (.v (.lst (il S))), some (.v KN), s2', s3', s4', s5', s6'] st'
  | 0, lo, s2, s3, s4, s5, s6, st => ⟨s2, s3, s4, s5, s6, st, rfl⟩
  | k + 1, lo, s2, s3, s4, s5, s6, st => by
    obtain ⟨u2, u4, u5, u6, ut, e⟩ := out_step (S := S) (t := lo) (s2 := s2) (s4 := s4) (s5 := s5) (s6 := s6) (st := st)
    obtain ⟨v2, v3, v4, v5, v6, vt, e'⟩ := out_loop (S := S) k (lo + 1) (s2 := u2) (s3 := some (.v (.int lo))) (s4 := u4) (s5 := u5) (s6 := u6) (st := ut)
    refine ⟨v2, v3, v4, v5, v6, vt, ?_⟩
    rw [← e']
    show (match Bout [some (.v (.lst (il S))), some (.v KN), s2, some (.v (.int (lo : Nat))), s4, s5, s6] st with | .nx e' s' => forL (tN 3) Bout (rangeL ((lo : Int) + 1) k) e' s' | .ct e' s' => forL (tN 3) Bout (rangeL ((lo : Int) + 1) k) e' s' | .bk e' s' => .nx e' s' | .rt a s' => .rt a s' | .ex c p e' s' => .ex c p e' s' | .no => .no) = _
    rw [e]
    rfl
def known : Ex := (e1 (rd1 (dictOf false)) (eLc (lc [2] (itR2 (eC (.int 3)) (eC (.int 7))) (tN 2) cYes (eTup [(eV 2), (call g_by_parts [(eV 2)])]))))
theorem mem_range {lo : Int} : ∀ {k : Nat} {x : P}, x ∈ rangeL lo k → ∃ i : Nat, i < k ∧ x = .int (lo + i)
  | 0, x, h => by cases h
  | k + 1, x, h => by
    rcases List.mem_cons.mp h with rfl | h
    · exact ⟨0, by omega, by simp⟩
    · obtain ⟨i, hi, rfl⟩ := mem_range (lo := lo + 1) h
      exact ⟨i + 1, by omega, by congr 1; omega⟩
def Vp (x : P) : P := match x with
  | .int i => .int (V (i - 3).toNat)
  | _ => .non
theorem Vp_at (i : Nat) : Vp (.int (3 + (i : Int))) = .int (V i) := by
  show P.int (V (3 + (i : Int) - 3).toNat) = _
  congr 2; omega
theorem known_ok (hp : ∀ i : Nat, i < 4 → g_by_parts [.v (.int (3 + (i : Int)))] [] = .ok (.v (.int (V i))) []) (S : P) : known [some (.v S), none, none, none, none, none, none] [] = .ok (.v KN) [] := by
  have h : ∀ x ∈ rangeL 3 4, (eTup [(eV 2), (call g_by_parts [(eV 2)])]) (put [some (.v S), none, none, none, none, none, none] 2 (some (.v x))) [] = .ok (.v (.tup [x, Vp x])) [] := by
    intro x hx
    obtain ⟨i, hi, rfl⟩ := mem_range hx
    refine (Pu.bind_ok (evs_cons rfl (evs_cons (call_ok (evs_cons rfl evs_nil) (lone_v rfl (hp i hi))) evs_nil))).trans ?_
    rw [Vp_at]; rfl
  unfold known
  refine e1_ok (eLc_ok (lc_ok (xs := rangeL 3 4) rfl (turns_all (f := fun x => .tup [x, Vp x]) h) (by decide))) ?_
  rfl
def Bkn : Sx := (sIf (cmp neP (e2 (rd2 ixP) (eV 1) (eV 2)) (call g_by_mean [(eV 2)])) (sR (eC (.bl false))) sPass)
theorem kn_all : (List.range 4).all (fun i => okI (rd2 ixP (.v KN) (.v (.int (3 + (i : Int)))) []) (V i)) = true := by decide +kernel
theorem kn_at {i : Nat} (h : i < 4) : rd2 ixP (.v KN) (.v (.int (3 + (i : Int)))) [] = .ok (.v (.int (V i))) [] := okI_eq (List.all_eq_true.mp kn_all i (List.mem_range.mpr h))
theorem kn_step {S : P} {i : Nat} (h : i < 4) : Bkn [some (.v S), some (.v KN), some (.v (.int (3 + (i : Int)))), none, none, none, none] [] = .nx [some (.v S), some (.v KN), some (.v (.int (3 + (i : Int)))), none, none, none, none] [] := by
  have hb := bm_at (i := i) (by omega)
  have hx := kn_at h
  unfold Bkn
  refine (sIf_f (s := []) (cmp_ok (e2_ok rfl rfl hx) (call_ok (evs_cons rfl evs_nil) (lone_v rfl hb)) ?_)).trans rfl
  show opt (neP (.int (V i)) (.int (V i))) [] = _
  unfold neP eqP
  simp [opt, ret]
theorem kn_loop {S : P} : ∀ {xs : List P}, (∀ x ∈ xs, ∃ i : Nat, i < 4 ∧ x = .int (3 + i)) → ∀ {s2 : Option A}, ∃ s2', forL (tN 2) Bkn xs [some (.v S), some (.v KN), s2, none, none, none, none] [] = .nx [some (.v S), some (.v KN), s2', none, none, none, none] []
  | [], _, s2 => ⟨s2, rfl⟩
  | x :: r, h, s2 => by
    obtain ⟨i, hi, rfl⟩ := h x (List.mem_cons_self ..)
    obtain ⟨s2', e⟩ := kn_loop (S := S) (xs := r) (fun y hy => h y (List.mem_cons_of_mem _ hy)) (s2 := some (.v (.int (3 + (i : Int)))))
    refine ⟨s2', ?_⟩
    rw [← e]
    show (match Bkn [some (.v S), some (.v KN), some (.v (.int (3 + (i : Int)))), none, none, none, none] [] with | .nx e' s' => forL (tN 2) Bkn r e' s' | .ct e' s' => forL (tN 2) Bkn r e' s' | .bk e' s' => .nx e' s' | .rt a s' => .rt a s' | .ex c p e' s' => .ex c p e' s' | .no => .no) = _
    rw [kn_step hi]
def Bend : Sx := (sR (eB (cAnd (cE (call (g_same 20) [(eLc (lc [2] (itR2 (eC (.int 3)) (eC (.int 13))) (tN 2) cYes (call f_row_form_count [(eV 2)]))), (eLc (lc [2] (itR2 (eC (.int 3)) (eC (.int 13))) (tN 2) cYes (call g_by_mean [(eV 2)])))])) (cmp eqP (call f_row_form_count [(eC (.int 12))]) (eC (.int 9985920))))))
def okT (r : R A) : Bool := match r with
  | .ok (.v (.bl true)) [] => true
  | _ => false
theorem okT_eq {r : R A} (h : okT r = true) : r = .ok (.v (.bl true)) [] := by
  unfold okT at h
  split at h
  · rfl
  · cases h
theorem same_tab : g_same 20 [.v (.lst ((rangeL 3 10).map Vp)), .v (.lst ((rangeL 3 10).map Vp))] [] = .ok (.v (.bl true)) [] := okT_eq (by decide +kernel)
theorem end_ok {s0 s1 s2 s3 s4 s5 s6 : Option A} {st : Sto} : Bend [s0, s1, s2, s3, s4, s5, s6] st = .rt (.v (.bl true)) st := by
  have h1 : ∀ x ∈ rangeL 3 10, call f_row_form_count [(eV 2)] (put (wipe [s0, s1, s2, s3, s4, s5, s6] [2]) 2 (some (.v x))) st = .ok (.v (Vp x)) st := by
    intro x hx
    obtain ⟨i, hi, rfl⟩ := mem_range hx
    refine call_ok (evs_cons rfl evs_nil) ?_
    rw [Vp_at]
    exact lone_v rfl (rf_at hi)
  have h2 : ∀ x ∈ rangeL 3 10, call g_by_mean [(eV 2)] (put (wipe [s0, s1, s2, s3, s4, s5, s6] [2]) 2 (some (.v x))) st = .ok (.v (Vp x)) st := by
    intro x hx
    obtain ⟨i, hi, rfl⟩ := mem_range hx
    refine call_ok (evs_cons rfl evs_nil) ?_
    rw [Vp_at]
    exact lone_v rfl (bm_at hi)
  have h3 := rf_at (i := 9) (by omega)
  unfold Bend
  refine sR_ok ?_
  refine (Pu.bind_ok (a := true) (s := st) ?_).trans rfl
  refine (Pu.bind_ok (a := true) (s := st) ?_).trans ?_
  · refine cE_ok (x := .v (.bl true)) (s := st) ?_ rfl
    refine call_ok (evs_cons (eLc_ok (lc_ok (xs := rangeL 3 10) rfl (turns_all h1) (by simp [rangeL]; decide))) (evs_cons (eLc_ok (lc_ok (xs := rangeL 3 10) rfl (turns_all h2) (by simp [rangeL]; decide))) evs_nil)) ?_
    exact lone_v rfl same_tab
  · refine cmp_ok (call_ok (evs_cons rfl evs_nil) (lone_v rfl h3)) rfl rfl
def Rng : It := (itR1 (e2 (rd2 max2P) (eC (.int 2)) (e2 (rd2 min2P) (e1 (rd1 lenP) (eV 0)) (eC (.int 4)))))
def Blaw : Sx := (sq (sSet 1 known) (sq (sFor (itE (eV 1)) (tN 2) Bkn) (sq (sFor Rng (tN 3) Bout) Bend)))
theorem law_eq : f_law = fnV 1 7 Blaw := by
  unfold f_law Blaw known Bkn Rng Bout Bin Bend
  rfl
theorem rng_ok {S : List Int} {s1 s2 s3 s4 s5 s6 : Option A} {st : Sto} : ∃ k : Nat, Rng [some (.v (.lst (il S))), s1, s2, s3, s4, s5, s6] st = .ok (rangeL 0 k) st := by
  have hm : ∃ m : Int, min2P (.int S.length) (.int 4) = some (.int m) ∧ 0 ≤ m ∧ m ≤ 4 := by
    by_cases h : (4 : Int) < S.length
    · exact ⟨4, by simp [min2P]; omega, by omega, by omega⟩
    · exact ⟨S.length, by simp [min2P]; omega, by omega, by omega⟩
  obtain ⟨m, hm, m0, m4⟩ := hm
  have hx : ∃ x : Int, max2P (.int 2) (.int m) = some (.int x) ∧ 0 ≤ x ∧ x ≤ 4 := by
    by_cases h : 2 < m
    · exact ⟨m, by simp [max2P]; omega, by omega, by omega⟩
    · exact ⟨2, by simp [max2P]; omega, by omega, by omega⟩
  obtain ⟨x, hx, x0, x4⟩ := hx
  refine ⟨x.toNat, ?_⟩
  unfold Rng
  refine (Pu.bind_ok (a := .v (.int x)) (s := st) ?_).trans ?_
  · refine e2_ok rfl (e2_ok (e1_ok (x := .v (.lst (il S))) rfl (r := .ok (.v (.int S.length)) st) ?_) rfl (r := .ok (.v (.int m)) st) ?_) ?_
    · show opt ((lenP (.lst (il S))).map A.v) st = _
      rw [il_len]; rfl
    · show opt ((min2P (.int S.length) (.int 4)).map A.v) st = _
      rw [hm]; rfl
    · show opt ((max2P (.int 2) (.int m)).map A.v) st = _
      rw [hx]; rfl
  · show (if wide62 x then ret (rangeL 0 x.toNat) else no) st = _
    rw [if_pos]; rfl
    simp [wide62]; omega
theorem fnV_rt {ar n : Nat} {B : Sx} {as : List A} {p : P} {st vt : Sto} (ha : (as.length == ar) = true) (h : B (start n as) st = .rt (.v p) vt) : fnV ar n B as st = .ok (.v p) (vt.take st.length) := by
  unfold fnV
  rw [if_pos ha, h]
  rfl
theorem keeps_of (hp : ∀ i : Nat, i < 4 → g_by_parts [.v (.int (3 + (i : Int)))] [] = .ok (.v (.int (V i))) []) : Good63 f_law := by
  intro S _
  obtain ⟨u2, q2⟩ := kn_loop (S := .lst (il S)) (xs := rangeL 3 4) (fun x hx => mem_range hx) (s2 := none)
  obtain ⟨k, hn⟩ := rng_ok (S := S) (s1 := some (.v KN)) (s2 := u2) (s3 := none) (s4 := none) (s5 := none) (s6 := none) (st := [])
  obtain ⟨v2, v3, v4, v5, v6, vt, q3⟩ := out_loop (S := S) k 0 (s2 := u2) (s3 := none) (s4 := none) (s5 := none) (s6 := none) (st := [])
  have g1 : sSet 1 known [some (.v (.lst (il S))), none, none, none, none, none, none] [] = .nx [some (.v (.lst (il S))), some (.v KN), none, none, none, none, none] [] := sSet_ok (known_ok hp (.lst (il S)))
  have gi : itE (eV 1) [some (.v (.lst (il S))), some (.v KN), none, none, none, none, none] [] = .ok (rangeL 3 4) [] := itE_ok (p := KN) (x := .v KN) (s := []) rfl rfl rfl
  have g2 : sFor (itE (eV 1)) (tN 2) Bkn [some (.v (.lst (il S))), some (.v KN), none, none, none, none, none] [] = .nx [some (.v (.lst (il S))), some (.v KN), u2, none, none, none, none] [] := (sFor_ok gi).trans q2
  have g3 : sFor Rng (tN 3) Bout [some (.v (.lst (il S))), some (.v KN), u2, none, none, none, none] [] = .nx [some (.v (.lst (il S))), some (.v KN), v2, v3, v4, v5, v6] vt := (sFor_ok hn).trans q3
  have hb : Blaw [some (.v (.lst (il S))), none, none, none, none, none, none] [] = .rt (.v (.bl true)) vt := by
    unfold Blaw
    rw [sq_nx g1, sq_nx g2, sq_nx g3]
    exact end_ok
  exact ⟨vt.take 0, by rw [law_eq]; exact fnV_rt (n := 7) (as := [.v (.lst (il S))]) rfl hb⟩
end Kw

set_option linter.all false
set_option maxRecDepth 100000
set_option autoImplicit false
set_option maxHeartbeats 4000000
namespace Kw
open Lw
open Rt Pu
def tn (l : List Nat) : P := .tup (l.map fun i => .int (Int.ofNat i))
theorem eqN_int {n i j : Nat} : eqN (n + 1) (.int (Int.ofNat i)) (.int (Int.ofNat j)) = decide (i = j) := by
  show (Int.ofNat i == Int.ofNat j) = _
  by_cases h : i = j
  · subst h; simp
  · rw [decide_eq_false h]
    exact beq_false_of_ne (fun e => h (Int.ofNat.inj e))
theorem eqL_tn {n : Nat} : ∀ {a b : List Nat}, eqL (eqN (n + 1)) (a.map fun i => P.int (Int.ofNat i)) (b.map fun i => P.int (Int.ofNat i)) = decide (a = b)
  | [], [] => by simp [eqL]
  | [], _ :: _ => by simp [eqL]
  | _ :: _, [] => by simp [eqL]
  | x :: xs, y :: ys => by
    show (eqN (n + 1) (.int (Int.ofNat x)) (.int (Int.ofNat y)) && eqL (eqN (n + 1)) _ _) = _
    rw [eqN_int, eqL_tn]
    by_cases h : x = y <;> by_cases h' : xs = ys <;> simp [h, h']
theorem eqN_tn {a b : List Nat} : eqN deep (tn a) (tn b) = decide (a = b) := eqL_tn (n := 58)
/-- digits below six, so many -/
def okR (n : Nat) (l : List Nat) : Bool := Nat.beq l.length n && l.all (fun d => Nat.blt d 6)
def code : List Nat → Nat
  | [] => 0
  | d :: r => d + 6 * code r
theorem code_inj : ∀ {a b : List Nat}, a.length = b.length → (∀ d ∈ a, d < 6) → (∀ d ∈ b, d < 6) → code a = code b → a = b
  | [], [], _, _, _, _ => rfl
  | [], _ :: _, h, _, _, _ => by cases h
  | _ :: _, [], h, _, _, _ => by cases h
  | x :: xs, y :: ys, h, ha, hb, e => by
    have hx := ha x (List.mem_cons_self ..)
    have hy := hb y (List.mem_cons_self ..)
    have e' : x + 6 * code xs = y + 6 * code ys := e
    have := code_inj (a := xs) (b := ys) (by simpa using h) (fun d hd => ha d (List.mem_cons_of_mem _ hd)) (fun d hd => hb d (List.mem_cons_of_mem _ hd)) (by omega)
    subst this
    congr 1
    omega
theorem okR_iff {n : Nat} {l : List Nat} : okR n l = true ↔ l.length = n ∧ ∀ d ∈ l, d < 6 := by
  unfold okR
  rw [Bool.and_eq_true, Nat.beq_eq, List.all_eq_true]
  constructor
  · rintro ⟨h, h'⟩; exact ⟨h, fun d hd => by simpa [Nat.blt_eq] using h' d hd⟩
  · rintro ⟨h, h'⟩; exact ⟨h, fun d hd => by simpa [Nat.blt_eq] using h' d hd⟩
theorem code_ok {n : Nat} {a b : List Nat} (ha : okR n a = true) (hb : okR n b = true) : decide (a = b) = decide (code a = code b) := by
  have ⟨a1, a2⟩ := okR_iff.mp ha
  have ⟨b1, b2⟩ := okR_iff.mp hb
  by_cases h : a = b
  · subst h; simp
  · rw [decide_eq_false h, decide_eq_false (fun e => h (code_inj (a1.trans b1.symm) a2 b2 e))]
/-- what is held: the valid rows among the keys are the bits -/
def Held (n : Nat) (kvs : List (P × P)) (m : Nat) : Prop := ∀ r, okR n r = true → anyD (tn r) kvs = m.testBit (code r)
theorem anyD_app {x k v : P} : ∀ {kvs : List (P × P)}, anyD x (kvs ++ [(k, v)]) = (anyD x kvs || eqN deep k x)
  | [] => by simp [anyD]
  | (a, b) :: r => by simp [anyD, anyD_app (kvs := r), Bool.or_assoc]
theorem anyD_repl {x k v : P} : ∀ {kvs : List (P × P)}, anyD x (replD k v kvs) = anyD x kvs
  | [] => rfl
  | (a, b) :: r => by
    show (eqN deep a x || anyD x (replD k v r)) = (eqN deep a x || anyD x r)
    rw [anyD_repl]
theorem held_put {n m : Nat} {kvs : List (P × P)} {f : List Nat} {v : P} (h : Held n kvs m) (hf : okR n f = true) : Held n (putD (tn f) v kvs) (m ||| 2 ^ code f) := by
  intro r hr
  rw [Nat.testBit_or, Nat.testBit_two_pow, ← h r hr]
  have e : decide (code f = code r) = eqN deep (tn f) (tn r) := by rw [eqN_tn, code_ok hf hr]
  rw [e]
  unfold putD
  by_cases hk : anyD (tn f) kvs = true
  · rw [if_pos hk, anyD_repl]
    cases hq : eqN deep (tn f) (tn r) with
    | false => rw [Bool.or_false]
    | true =>
      rw [eqN_tn] at hq
      have := of_decide_eq_true hq
      subst this
      rw [hk]; rfl
  · rw [if_neg hk, anyD_app]
theorem look_any {x : P} : ∀ {kvs : List (P × P)}, (lookD x kvs).isSome = anyD x kvs
  | [] => rfl
  | (a, b) :: r => by
    show (if eqN deep a x then some b else lookD x r).isSome = (eqN deep a x || anyD x r)
    cases eqN deep a x with
    | true => rfl
    | false => exact look_any (kvs := r)
theorem repl_len {k v : P} : ∀ {kvs : List (P × P)}, (replD k v kvs).length = kvs.length
  | [] => rfl
  | (a, b) :: r => by
    show (replD k v r).length + 1 = r.length + 1
    rw [repl_len]
theorem put_len {k v : P} {kvs : List (P × P)} : (putD k v kvs).length ≤ kvs.length + 1 := by
  unfold putD
  split
  · rw [repl_len]; omega
  · rw [List.length_append]; exact Nat.le_refl _
theorem atoms {l : List Nat} : allP keyAtom (l.map fun i => P.int (Int.ofNat i)) = true := by
  induction l with
  | nil => rfl
  | cons x r ih => exact ih
theorem key_tn {l : List Nat} : keyOk true (tn l) = true := by
  show (true && allP keyAtom _) = true
  rw [atoms]; rfl
end Kw

set_option linter.all false
set_option maxRecDepth 100000
set_option autoImplicit false
set_option maxHeartbeats 4000000
namespace Kw
open Lw
open Rt Pu
def decN (p : P) : Option Nat := match p with
  | .int (.ofNat i) => some i
  | _ => none
def decs : List P → Option (List Nat)
  | [] => some []
  | p :: r => match decN p, decs r with
    | some i, some l => some (i :: l)
    | _, _ => none
def decT (p : P) : Option (List Nat) := match p with
  | .tup xs => decs xs
  | _ => none
def decL (n : Nat) : List P → Option (List (List Nat))
  | [] => some []
  | p :: r => match decT p, decL n r with
    | some l, some ls => if okR n l then some (l :: ls) else none
    | _, _ => none
theorem decs_ok : ∀ {xs : List P} {l : List Nat}, decs xs = some l → xs = l.map fun i => P.int (Int.ofNat i)
  | [], l, h => by cases h; rfl
  | p :: r, l, h => by
    unfold decs at h
    split at h
    · rename_i i l' e1 e2
      cases h
      rw [decs_ok e2]
      unfold decN at e1
      split at e1
      · cases e1; rfl
      · cases e1
    · cases h
theorem decL_ok {n : Nat} : ∀ {xs : List P} {ls : List (List Nat)}, decL n xs = some ls → xs = ls.map tn ∧ ∀ l ∈ ls, okR n l = true
  | [], ls, h => by cases h; exact ⟨rfl, fun _ h => by cases h⟩
  | p :: r, ls, h => by
    unfold decL at h
    split at h
    · rename_i l ls' e1 e2
      split at h
      · rename_i hk
        cases h
        obtain ⟨i1, i2⟩ := decL_ok e2
        refine ⟨?_, ?_⟩
        · rw [i1]
          unfold decT at e1
          split at e1
          · rw [decs_ok e1]; rfl
          · cases e1
        · intro l' hl
          rcases List.mem_cons.mp hl with rfl | hl
          · exact hk
          · exact i2 _ hl
      · cases h
    · cases h
def ofR (n : Nat) (r : R A) : Option (List (List Nat)) := match r with
  | .ok (.v (.tup ps)) [] => decL n ps
  | _ => none
theorem ofR_ok {n : Nat} {r : R A} {fs : List (List Nat)} (h : ofR n r = some fs) : r = .ok (.v (.tup (fs.map tn))) [] ∧ ∀ l ∈ fs, okR n l = true := by
  unfold ofR at h
  split at h
  · obtain ⟨i1, i2⟩ := decL_ok h
    rw [i1]
    exact ⟨rfl, i2⟩
  · cases h
def formsM (n : Nat) (r : List Nat) : Option (List (List Nat)) := ofR n (g_forms [.v (tn r)] [])
theorem formsM_ok {n : Nat} {r : List Nat} {fs : List (List Nat)} (h : formsM n r = some fs) : g_forms [.v (tn r)] [] = .ok (.v (.tup (fs.map tn))) [] ∧ ∀ l ∈ fs, okR n l = true := ofR_ok h
def marks (m : Nat) : List (List Nat) → Nat
  | [] => m
  | f :: r => marks (m ||| 2 ^ code f) r
def Bmark : Sx := (sAsg (tS (eV 1) (eV 4)) (eC (.bl true)))
theorem mark_loop {n : Nat} {s0 s2 s3 : Option A} : ∀ {fs : List (List Nat)} {b m : Nat} {kvs : List (P × P)} {s4 : Option A}, (∀ l ∈ fs, okR n l = true) → Held n kvs m → kvs.length + fs.length + b ≤ 16000000 → ∃ s4' kvs', forL (tN 4) Bmark (fs.map tn) [s0, some (.r 0), s2, s3, s4] [.d true kvs] = .nx [s0, some (.r 0), s2, s3, s4'] [.d true kvs'] ∧ Held n kvs' (marks m fs) ∧ kvs'.length + b ≤ 16000000
  | [], b, m, kvs, s4, _, hh, hb => ⟨s4, kvs, rfl, hh, by simpa using hb⟩
  | f :: r, b, m, kvs, s4, ho, hh, hb => by
    have hf := ho f (List.mem_cons_self ..)
    have hl := put_len (k := tn f) (v := .bl true) (kvs := kvs)
    have hc : (f :: r).length = r.length + 1 := rfl
    obtain ⟨s4', kvs', e, h1, h2⟩ := mark_loop (s0 := s0) (s2 := s2) (s3 := s3) (fs := r) (b := b) (s4 := some (.v (tn f))) (fun l hl => ho l (List.mem_cons_of_mem _ hl)) (held_put (v := .bl true) hh hf) (by omega)
    refine ⟨s4', kvs', ?_, h1, h2⟩
    rw [← e]
    have hs : Bmark [s0, some (.r 0), s2, s3, some (.v (tn f))] [.d true kvs] = .nx [s0, some (.r 0), s2, s3, some (.v (tn f))] [.d true (putD (tn f) (.bl true) kvs)] := by
      have hset : setAt (.r 0) (.v (tn f)) (.bl true) [.d true kvs] = .ok () [.d true (putD (tn f) (.bl true) kvs)] := by
        show (if (keyOk true (tn f) && Nat.blt kvs.length line) = true then R.ok () (putC [.d true kvs] 0 (.d true (putD (tn f) (.bl true) kvs))) else .no) = _
        rw [if_pos]; rfl
        rw [key_tn, Bool.true_and, Nat.blt_eq]
        exact Nat.lt_of_le_of_lt (by omega : kvs.length ≤ 16000000) (by decide)
      have hts : (tS (eV 1) (eV 4)) (.v (.bl true)) [s0, some (.r 0), s2, s3, some (.v (tn f))] [.d true kvs] = .ok [s0, some (.r 0), s2, s3, some (.v (tn f))] [.d true (putD (tn f) (.bl true) kvs)] :=
        (Pu.bind_ok (a := A.r 0) (s := [.d true kvs]) rfl).trans ((Pu.bind_ok (a := A.v (tn f)) (s := [.d true kvs]) rfl).trans ((Pu.bind_ok (a := P.bl true) (s := [.d true kvs]) rfl).trans (Pu.bind_ok hset)))
      unfold Bmark sAsg
      show fl ((tS (eV 1) (eV 4)) (.v (.bl true)) [s0, some (.r 0), s2, s3, some (.v (tn f))] [.d true kvs]) _ _ = _
      rw [hts]
      rfl
    show (match Bmark [s0, some (.r 0), s2, s3, some (.v (tn f))] [.d true kvs] with | .nx e' s' => forL (tN 4) Bmark (r.map tn) e' s' | .ct e' s' => forL (tN 4) Bmark (r.map tn) e' s' | .bk e' s' => .nx e' s' | .rt a s' => .rt a s' | .ex c p e' s' => .ex c p e' s' | .no => .no) = _
    rw [hs]
end Kw

set_option linter.all false
set_option maxRecDepth 100000
set_option autoImplicit false
set_option maxHeartbeats 4000000
namespace Kw
open Lw
open Rt Pu
def Bparts : Sx := (sIf (cmp notInO (eV 3) (eV 1))
  (sq (sSet 2 (e2 (rd2 addP) (eV 2) (eC (.int 1))))
  (sFor (itE (call g_forms [(eV 3)])) (tN 4) Bmark))
  sPass)
theorem parts_step {n : Nat} {s0 s4 : Option A} {r : List Nat} {b m c : Nat} {kvs : List (P × P)} (hr : okR n r = true) (hh : Held n kvs m) (hb : kvs.length + b ≤ 16000000) :
    (m.testBit (code r) = true → Bparts [s0, some (.r 0), some (.v (.int c)), some (.v (tn r)), s4] [.d true kvs] = .nx [s0, some (.r 0), some (.v (.int c)), some (.v (tn r)), s4] [.d true kvs]) ∧
    (m.testBit (code r) = false → ∀ fs, formsM n r = some fs → fs.length ≤ b → ∃ s4' kvs', Bparts [s0, some (.r 0), some (.v (.int c)), some (.v (tn r)), s4] [.d true kvs] = .nx [s0, some (.r 0), some (.v (.int (c + 1 : Nat))), some (.v (tn r)), s4'] [.d true kvs'] ∧ Held n kvs' (marks m fs) ∧ kvs'.length + (b - fs.length) ≤ 16000000) := by
  have hc : cmp notInO (eV 3) (eV 1) [s0, some (.r 0), some (.v (.int c)), some (.v (tn r)), s4] [.d true kvs] = .ok (!m.testBit (code r)) [.d true kvs] := by
    refine cmp_ok (x := .v (tn r)) (y := .r 0) (s := [.d true kvs]) (s' := [.d true kvs]) rfl rfl ?_
    show opt ((if keyOk true (tn r) = true then some (lookD (tn r) kvs).isSome else none).map (!·)) [.d true kvs] = _
    rw [if_pos key_tn, look_any, hh r hr]
    rfl
  refine ⟨fun h => ?_, fun h fs hf hl => ?_⟩
  · rw [h] at hc
    unfold Bparts
    exact sIf_f hc
  · rw [h] at hc
    obtain ⟨i1, i2⟩ := formsM_ok hf
    obtain ⟨s4', kvs', e, h1, h2⟩ := mark_loop (n := n) (s0 := s0) (s2 := some (.v (.int (c + 1 : Nat)))) (s3 := some (.v (tn r))) (fs := fs) (b := b - fs.length) (m := m) (kvs := kvs) (s4 := s4) i2 hh (by omega)
    refine ⟨s4', kvs', ?_, h1, h2⟩
    rw [← e]
    have g1 : sSet 2 (e2 (rd2 addP) (eV 2) (eC (.int 1))) [s0, some (.r 0), some (.v (.int c)), some (.v (tn r)), s4] [.d true kvs] = .nx [s0, some (.r 0), some (.v (.int (c + 1 : Nat))), some (.v (tn r)), s4] [.d true kvs] := rfl
    have g2 : itE (call g_forms [(eV 3)]) [s0, some (.r 0), some (.v (.int (c + 1 : Nat))), some (.v (tn r)), s4] [.d true kvs] = .ok (fs.map tn) [.d true kvs] := itE_ok (call_ok (evs_cons (x := .v (tn r)) (s := [.d true kvs]) rfl evs_nil) (lone_v rfl i1)) rfl rfl
    unfold Bparts
    exact (sIf_t hc).trans ((sq_nx g1).trans (sFor_ok g2))
def goOn (o : Option (List (List Nat))) (b : Nat) (k : List (List Nat) → Option Nat) : Option Nat := match o with
  | some fs => if Nat.ble fs.length b then k fs else none
  | none => none
theorem goOn_ok {o : Option (List (List Nat))} {b res : Nat} {k : List (List Nat) → Option Nat} (h : goOn o b k = some res) : ∃ fs, o = some fs ∧ fs.length ≤ b ∧ k fs = some res := by
  cases o with
  | none => cases h
  | some fs =>
    have h' : (if Nat.ble fs.length b = true then k fs else none) = some res := h
    by_cases hb : Nat.ble fs.length b = true
    · rw [if_pos hb] at h'
      exact ⟨fs, rfl, Nat.le_of_ble_eq_true hb, h'⟩
    · rw [if_neg hb] at h'
      cases h'
def runM (fm : List Nat → Option (List (List Nat))) : List (List Nat) → Nat → Nat → Nat → Option Nat
  | [], _, _, c => some c
  | r :: rs, b, m, c => if m.testBit (code r) = true then runM fm rs b m c else goOn (fm r) b (fun fs => runM fm rs (b - fs.length) (marks m fs) (c + 1))
theorem runM_cons {fm : List Nat → Option (List (List Nat))} {b m c : Nat} {r : List Nat} {rs : List (List Nat)} : runM fm (r :: rs) b m c = if m.testBit (code r) = true then runM fm rs b m c else goOn (fm r) b (fun fs => runM fm rs (b - fs.length) (marks m fs) (c + 1)) := rfl
theorem parts_loop {n : Nat} {s0 : Option A} : ∀ {rs : List (List Nat)} {b m c res : Nat} {kvs : List (P × P)} {s3 s4 : Option A}, (∀ r ∈ rs, okR n r = true) → Held n kvs m → kvs.length + b ≤ 16000000 → runM (formsM n) rs b m c = some res → ∃ s3' s4' st', forL (tN 3) Bparts (rs.map tn) [s0, some (.r 0), some (.v (.int c)), s3, s4] [.d true kvs] = .nx [s0, some (.r 0), some (.v (.int res)), s3', s4'] st'
  | [], b, m, c, res, kvs, s3, s4, _, _, _, e => by
    have : c = res := Option.some.inj e
    subst this
    exact ⟨s3, s4, [.d true kvs], rfl⟩
  | r :: rs, b, m, c, res, kvs, s3, s4, ho, hh, hb, e => by
    have hs := parts_step (n := n) (s0 := s0) (s4 := s4) (c := c) (ho r (List.mem_cons_self ..)) hh hb
    have ho' : ∀ x ∈ rs, okR n x = true := fun x hx => ho x (List.mem_cons_of_mem _ hx)
    have key : ∀ e' s', Bparts [s0, some (.r 0), some (.v (.int c)), some (.v (tn r)), s4] [.d true kvs] = .nx e' s' → forL (tN 3) Bparts ((r :: rs).map tn) [s0, some (.r 0), some (.v (.int c)), s3, s4] [.d true kvs] = forL (tN 3) Bparts (rs.map tn) e' s' := by
      intro e' s' h
      show (match Bparts [s0, some (.r 0), some (.v (.int c)), some (.v (tn r)), s4] [.d true kvs] with | .nx e' s' => forL (tN 3) Bparts (rs.map tn) e' s' | .ct e' s' => forL (tN 3) Bparts (rs.map tn) e' s' | .bk e' s' => .nx e' s' | .rt a s' => .rt a s' | .ex c p e' s' => .ex c p e' s' | .no => .no) = _
      rw [h]
    rw [runM_cons] at e
    cases ht : m.testBit (code r) with
    | true =>
      rw [ht, if_pos rfl] at e
      obtain ⟨a1, a2, a3, h⟩ := parts_loop (s0 := s0) (s3 := some (.v (tn r))) (s4 := s4) ho' hh hb e
      exact ⟨a1, a2, a3, (key _ _ (hs.1 ht)).trans h⟩
    | false =>
      rw [ht, if_neg Bool.false_ne_true] at e
      obtain ⟨fs, hf, hl, e⟩ := goOn_ok e
      obtain ⟨s4', kvs', q, q1, q2⟩ := hs.2 ht fs hf hl
      obtain ⟨a1, a2, a3, h⟩ := parts_loop (s0 := s0) (s3 := some (.v (tn r))) (s4 := s4') ho' q1 q2 e
      exact ⟨a1, a2, a3, (key _ _ q).trans h⟩
theorem parts_ok {n res : Nat} {rs : List (List Nat)} (h : g_all_rows [.v (.int n)] [] = .ok (.v (.lst (rs.map tn))) []) (ho : rs.all (okR n) = true) (e : runM (formsM n) rs 16000000 0 0 = some res) : g_by_parts [.v (.int n)] [] = .ok (.v (.int res)) [] := by
  have hh : Held n [] 0 := fun r _ => by rw [Nat.zero_testBit]; rfl
  obtain ⟨a1, a2, a3, hl⟩ := parts_loop (n := n) (s0 := some (.v (.int n))) (s3 := none) (s4 := none) (kvs := []) (List.all_eq_true.mp ho) hh (Nat.le_refl _) e
  have g1 : sPar [1, 2] [(eDicR true []), (eC (.int 0))] [some (.v (.int n)), none, none, none, none] [] = .nx [some (.v (.int n)), some (.r 0), some (.v (.int (0 : Nat))), none, none] [.d true []] := rfl
  have gi : itE (call g_all_rows [(eV 0)]) [some (.v (.int n)), some (.r 0), some (.v (.int (0 : Nat))), none, none] [.d true []] = .ok (rs.map tn) [.d true []] := itE_ok (call_ok (evs_cons (x := .v (.int n)) (s := [.d true []]) rfl evs_nil) (lone_v rfl h)) rfl rfl
  have g2 : sFor (itE (call g_all_rows [(eV 0)])) (tN 3) Bparts [some (.v (.int n)), some (.r 0), some (.v (.int (0 : Nat))), none, none] [.d true []] = .nx [some (.v (.int n)), some (.r 0), some (.v (.int res)), a1, a2] a3 := (sFor_ok gi).trans hl
  have g3 : sR (eV 2) [some (.v (.int n)), some (.r 0), some (.v (.int res)), a1, a2] a3 = .rt (.v (.int res)) a3 := rfl
  have ge : g_by_parts = fnV 1 5 (sq (sPar [1, 2] [(eDicR true []), (eC (.int 0))]) (sq (sFor (itE (call g_all_rows [(eV 0)])) (tN 3) Bparts) (sR (eV 2)))) := by
    unfold g_by_parts Bparts Bmark
    rfl
  rw [ge]
  exact fnV_rt (n := 5) (as := [.v (.int n)]) rfl ((sq_nx g1).trans ((sq_nx g2).trans g3))
end Kw

set_option linter.all false
set_option maxRecDepth 100000
set_option autoImplicit false
set_option maxHeartbeats 4000000
namespace Kw
open Lw
open Rt Pu
theorem thou_line : 1000 ≤ line := by unfold line; omega
theorem mil_line : 1000000 ≤ line := by unfold line; omega
theorem tho_line {n : Nat} (h : n ≤ 1000) : n + 1 ≤ line := by unfold line; omega
def memN (t : Nat) : List Nat → Bool
  | [] => false
  | x :: r => Nat.beq x t || memN t r
def extM (n : Nat) (l : List Nat) : List (List Nat) := ((List.range n).filter fun t => !memN t l).map fun t => l ++ [t]
def rowsM (n : Nat) : Nat → List (List Nat)
  | 0 => [[]]
  | k + 1 => (rowsM n k).flatMap (extM n)
def small (n : Nat) : Bool := Nat.ble n 1000 && (List.range (n + 1)).all fun k => Nat.ble (rowsM n k).length 1000000 && (rowsM n k).all fun l => Nat.ble l.length 1000
theorem range_nat : ∀ {n lo : Nat}, rangeL (Int.ofNat lo) n = (List.range' lo n).map fun i => P.int (Int.ofNat i)
  | 0, lo => rfl
  | n + 1, lo => by
    show P.int (Int.ofNat lo) :: rangeL (Int.ofNat (lo + 1)) n = _
    rw [range_nat, List.range'_succ, List.map_cons]
theorem range_zero {n : Nat} : rangeL 0 n = (List.range n).map fun i => P.int (Int.ofNat i) := by
  rw [List.range_eq_range']
  exact range_nat (lo := 0)
theorem mem_any {t : Nat} : ∀ {l : List Nat}, anyP (fun z => eqN deep z (.int (Int.ofNat t))) (l.map fun i => P.int (Int.ofNat i)) = memN t l
  | [] => rfl
  | x :: r => by
    show (eqN deep (.int (Int.ofNat x)) (.int (Int.ofNat t)) || anyP _ (r.map _)) = (Nat.beq x t || memN t r)
    rw [mem_any, show eqN deep (.int (Int.ofNat x)) (.int (Int.ofNat t)) = decide (x = t) from eqN_int (n := 59)]
    congr 1
    cases h : Nat.beq x t with
    | true => exact decide_eq_true (Nat.eq_of_beq_eq_true h)
    | false => exact decide_eq_false (Nat.ne_of_beq_eq_false h)
theorem datas {l : List Nat} : allP isData (l.map fun i => P.int (Int.ofNat i)) = true := by
  induction l with
  | nil => rfl
  | cons x r ih => exact ih
theorem notIn_tn {t : Nat} {l : List Nat} : notInO (.int (Int.ofNat t)) (tn l) = some (!memN t l) := by
  show (if (isData (.int (Int.ofNat t)) && allP isData (l.map fun i => P.int (Int.ofNat i))) = true then some (anyP (fun z => eqN deep z (.int (Int.ofNat t))) (l.map fun i => P.int (Int.ofNat i))) else none).map (!·) = _
  have e : isData (.int (Int.ofNat t)) = true := rfl
  rw [datas, e, mem_any]
  rfl
theorem add_tn {t : Nat} {l : List Nat} (h : l.length ≤ 1000) : addP (tn l) (.tup [.int (Int.ofNat t)]) = some (tn (l ++ [t])) := by
  show (if Nat.ble ((l.map fun i => P.int (Int.ofNat i)).length + 1) line = true then some (P.tup ((l.map fun i => P.int (Int.ofNat i)) ++ [.int (Int.ofNat t)])) else none) = _
  rw [if_pos]
  · unfold tn; rw [List.map_append]; rfl
  · rw [List.length_map]
    exact Nat.ble_eq_true_of_le (Nat.le_trans (Nat.succ_le_succ h) (by decide))
def qM (l : List Nat) : P → Bool
  | .int (.ofNat t) => !memN t l
  | _ => false
def fM (l : List Nat) : P → P
  | .int (.ofNat t) => tn (l ++ [t])
  | _ => .non
theorem ext_list {n : Nat} {l : List Nat} : ((rangeL 0 n).filter (qM l)).map (fM l) = (extM n l).map tn := by
  rw [range_zero, List.filter_map, List.map_map]
  unfold extM
  rw [List.map_map]
  rfl
theorem extM_len {n : Nat} {l : List Nat} : (extM n l).length ≤ n := by
  unfold extM
  rw [List.length_map]
  exact Nat.le_trans (List.length_filter_le ..) (Nat.le_of_eq List.length_range)
def Lext : Ex := (eLc (lc [5] (itR1 (eV 0)) (tN 5) (cmp notInO (eV 5) (eV 4)) (e2 (rd2 addP) (eV 4) (eTup [(eV 5)]))))
theorem lext_ok {n : Nat} {l : List Nat} {s1 s2 s3 s5 : Option A} {st : Sto} (hn : n ≤ 1000) (hl : l.length ≤ 1000) : Lext [some (.v (.int (Int.ofNat n))), s1, s2, s3, some (.v (tn l)), s5] st = .ok (.v (.lst ((extM n l).map tn))) st := by
  have hr : itR1 (eV 0) [some (.v (.int (Int.ofNat n))), s1, s2, s3, some (.v (tn l)), s5] st = .ok (rangeL 0 n) st := by
    refine (Pu.bind_ok (a := A.v (.int (Int.ofNat n))) (s := st) rfl).trans ?_
    show (if wide62 (Int.ofNat n) = true then ret (rangeL 0 n) else no) st = _
    rw [if_pos]; rfl
    have : (Int.ofNat n) = (n : Int) := rfl
    simp [wide62]; omega
  have ht : turns (tN 5) (cmp notInO (eV 5) (eV 4)) (e2 (rd2 addP) (eV 4) (eTup [(eV 5)])) (wipe [some (.v (.int (Int.ofNat n))), s1, s2, s3, some (.v (tn l)), s5] [5]) (rangeL 0 n) st = .ok (((rangeL 0 n).filter (qM l)).map (fM l)) st := by
    refine turns_fil ?_ ?_
    · intro x hx
      rw [range_zero] at hx
      obtain ⟨t, _, rfl⟩ := List.mem_map.mp hx
      refine cmp_ok (x := .v (.int (Int.ofNat t))) (y := .v (tn l)) (s := st) (s' := st) rfl rfl ?_
      show opt (notInO (.int (Int.ofNat t)) (tn l)) st = _
      rw [notIn_tn]
      rfl
    · intro x hx _
      rw [range_zero] at hx
      obtain ⟨t, _, rfl⟩ := List.mem_map.mp hx
      refine e2_ok (x := .v (tn l)) (y := .v (.tup [.int (Int.ofNat t)])) (s := st) (s' := st) rfl rfl ?_
      show opt ((addP (tn l) (.tup [.int (Int.ofNat t)])).map A.v) st = _
      rw [add_tn hl]
      rfl
  rw [ext_list] at ht
  exact eLc_ok (lc_ok hr ht (by rw [List.length_map]; exact Nat.le_trans extM_len (Nat.le_trans hn thou_line)))
theorem putC_app {st : Sto} {c d : Cell} : putC (st ++ [c]) st.length d = st ++ [d] := by
  induction st with
  | nil => rfl
  | cons b r ih => show b :: putC (r ++ [c]) r.length d = _; rw [ih]; rfl
theorem eM_ok {k : Kd} {g : A → A → M A} {o e : Ex} {env : En} {st s0 s1 : Sto} {w y : A} {r : R A} (h : o env st = .ok w s0) (hk : kdC k w s0 = .ok () s0) (h1 : e env s0 = .ok y s1) (h2 : g w y s1 = r) : eM k g o e env st = r :=
  (Pu.bind_ok h).trans ((Pu.bind_ok hk).trans ((Pu.bind_ok h1).trans h2))
def Bext : Sx := (sE (eM .l mExtend (eV 3) Lext))
theorem ext_step {n : Nat} {l : List Nat} {acc : List P} {s1 s2 s5 : Option A} {st : Sto} (hn : n ≤ 1000) (hl : l.length ≤ 1000) (hb : acc.length + (extM n l).length ≤ 1000000) : Bext [some (.v (.int (Int.ofNat n))), s1, s2, some (.r st.length), some (.v (tn l)), s5] (st ++ [.l acc]) = .nx [some (.v (.int (Int.ofNat n))), s1, s2, some (.r st.length), some (.v (tn l)), s5] (st ++ [.l (acc ++ (extM n l).map tn)]) := by
  have hk : kdC .l (.r st.length) (st ++ [.l acc]) = .ok () (st ++ [.l acc]) := by
    unfold kdC now
    dsimp only
    rw [lookC_app]
    rfl
  have hx := lext_ok (s1 := s1) (s2 := s2) (s3 := some (.r st.length)) (s5 := s5) (st := st ++ [.l acc]) hn hl
  have hm : mExtend (.r st.length) (.v (.lst ((extM n l).map tn))) (st ++ [.l acc]) = .ok (.v .non) (st ++ [.l (acc ++ (extM n l).map tn)]) := by
    refine (Pu.bind_ok (a := P.lst ((extM n l).map tn)) (s := st ++ [.l acc]) rfl).trans ?_
    dsimp only
    rw [lookC_app]
    dsimp only
    rw [if_pos, putC_app]
    rw [List.length_map]
    exact Nat.ble_eq_true_of_le (Nat.le_trans hb mil_line)
  unfold Bext sE
  have h0 : eV 3 [some (.v (.int (Int.ofNat n))), s1, s2, some (.r st.length), some (.v (tn l)), s5] (st ++ [.l acc]) = .ok (.r st.length) (st ++ [.l acc]) := rfl
  have hE := eM_ok (k := .l) (g := mExtend) (o := eV 3) (e := Lext) (env := [some (.v (.int (Int.ofNat n))), s1, s2, some (.r st.length), some (.v (tn l)), s5]) (st := st ++ [.l acc]) h0 hk hx hm
  exact (congrArg (fun r => fl r [some (.v (.int (Int.ofNat n))), s1, s2, some (.r st.length), some (.v (tn l)), s5] (fun _ s => F.nx [some (.v (.int (Int.ofNat n))), s1, s2, some (.r st.length), some (.v (tn l)), s5] s)) hE)
theorem forL_nx {t : Tg} {b : Sx} {x : P} {xs : List P} {env e1 e2 : En} {st s1 s2 : Sto} (h : t (.v x) env st = .ok e1 s1) (h2 : b e1 s1 = .nx e2 s2) : forL t b (x :: xs) env st = forL t b xs e2 s2 := by
  show fl (t (.v x) env st) env (fun e s => match b e s with | .nx e' s' => forL t b xs e' s' | .ct e' s' => forL t b xs e' s' | .bk e' s' => .nx e' s' | .rt a s' => .rt a s' | .ex c p e' s' => .ex c p e' s' | .no => .no) = _
  rw [h]
  show (match b e1 s1 with | .nx e' s' => forL t b xs e' s' | .ct e' s' => forL t b xs e' s' | .bk e' s' => .nx e' s' | .rt a s' => .rt a s' | .ex c p e' s' => .ex c p e' s' | .no => .no) = _
  rw [h2]
theorem ext_loop {n : Nat} {s1 s2 : Option A} {st : Sto} (hn : n ≤ 1000) : ∀ {ls : List (List Nat)} {acc : List P} {s4 s5 : Option A}, (∀ l ∈ ls, l.length ≤ 1000) → acc.length + (ls.flatMap (extM n)).length ≤ 1000000 → ∃ s4', forL (tN 4) Bext (ls.map tn) [some (.v (.int (Int.ofNat n))), s1, s2, some (.r st.length), s4, s5] (st ++ [.l acc]) = .nx [some (.v (.int (Int.ofNat n))), s1, s2, some (.r st.length), s4', s5] (st ++ [.l (acc ++ (ls.flatMap (extM n)).map tn)])
  | [], acc, s4, s5, _, _ => ⟨s4, by simp [forL]⟩
  | l :: r, acc, s4, s5, h, hb => by
    rw [List.flatMap_cons, List.length_append] at hb
    obtain ⟨s4', e⟩ := ext_loop hn (s1 := s1) (s2 := s2) (st := st) (ls := r) (acc := acc ++ (extM n l).map tn) (s4 := some (.v (tn l))) (s5 := s5) (fun x hx => h x (List.mem_cons_of_mem _ hx)) (by rw [List.length_append, List.length_map]; omega)
    refine ⟨s4', ?_⟩
    rw [List.map_cons, forL_nx (e1 := [some (.v (.int (Int.ofNat n))), s1, s2, some (.r st.length), some (.v (tn l)), s5]) (s1 := st ++ [.l acc]) rfl (ext_step hn (h l (List.mem_cons_self ..)) (by omega)), e, List.flatMap_cons, List.map_append, List.append_assoc]
def Bturn : Sx := (sq (sSet 3 (eLstR []))
  (sq (sFor (itE (eV 1)) (tN 4) Bext)
  (sSet 1 (eV 3))))
theorem lookC_mid {pre : Sto} {c d : Cell} : lookC (pre ++ [c] ++ [d]) pre.length = some c := by
  induction pre with
  | nil => rfl
  | cons b r ih => exact ih
theorem putC_mid {pre : Sto} {c d e : Cell} : putC (pre ++ [c] ++ [d]) pre.length e = pre ++ [e] ++ [d] := by
  induction pre with
  | nil => rfl
  | cons b r ih => show b :: putC (r ++ [c] ++ [d]) r.length e = _; rw [ih]; rfl
def Rows (a : A) (st : Sto) (X : List P) : Prop := a = .v (.lst X) ∨ ∃ pre, st = pre ++ [.l X] ∧ a = .r pre.length
theorem rows_toV {a : A} {st : Sto} {X : List P} (h : Rows a st X) : ∃ st1 : Sto, st1.length = st.length ∧ toV a (st ++ [.l []]) = .ok (.lst X) (st1 ++ [.l []]) := by
  rcases h with rfl | ⟨pre, rfl, rfl⟩
  · exact ⟨st, rfl, rfl⟩
  · refine ⟨pre ++ [.f X], by simp, ?_⟩
    unfold toV
    dsimp only
    rw [lookC_mid]
    dsimp only
    rw [putC_mid]
theorem turn_step {n : Nat} {ls : List (List Nat)} {a : A} {s2 s3 s4 s5 : Option A} {st : Sto} (hn : n ≤ 1000) (hr : Rows a st (ls.map tn)) (h : ∀ l ∈ ls, l.length ≤ 1000) (hb : (ls.flatMap (extM n)).length ≤ 1000000) : ∃ a' s3' s4' st', Bturn [some (.v (.int (Int.ofNat n))), some a, s2, s3, s4, s5] st = .nx [some (.v (.int (Int.ofNat n))), some a', s2, s3', s4', s5] st' ∧ Rows a' st' ((ls.flatMap (extM n)).map tn) := by
  obtain ⟨st1, hl, ht⟩ := rows_toV hr
  have g1 : sSet 3 (eLstR []) [some (.v (.int (Int.ofNat n))), some a, s2, s3, s4, s5] st = .nx [some (.v (.int (Int.ofNat n))), some a, s2, some (.r st1.length), s4, s5] (st ++ [.l []]) := by
    rw [hl]; rfl
  have gi : itE (eV 1) [some (.v (.int (Int.ofNat n))), some a, s2, some (.r st1.length), s4, s5] (st ++ [.l []]) = .ok (ls.map tn) (st1 ++ [.l []]) := itE_ok (x := a) (s := st ++ [.l []]) rfl ht rfl
  obtain ⟨s4', g2⟩ := ext_loop hn (s1 := some a) (s2 := s2) (st := st1) (ls := ls) (acc := []) (s4 := s4) (s5 := s5) h (by simpa using hb)
  refine ⟨.r st1.length, some (.r st1.length), s4', _, ?_, .inr ⟨st1, rfl, rfl⟩⟩
  unfold Bturn
  refine (sq_nx g1).trans ((sq_nx ((sFor_ok gi).trans g2)).trans ?_)
  rfl
theorem turn_loop {n : Nat} {s3 s4 s5 : Option A} (hn : n ≤ 1000) : ∀ (k lo : Nat) {a : A} {s2 s3 s4 : Option A} {st : Sto}, (∀ j, lo ≤ j → j < lo + k → (∀ l ∈ rowsM n j, l.length ≤ 1000) ∧ (rowsM n (j + 1)).length ≤ 1000000) → Rows a st ((rowsM n lo).map tn) → ∃ a' s2' s3' s4' st', forL (tN 2) Bturn (rangeL (lo : Nat) k) [some (.v (.int (Int.ofNat n))), some a, s2, s3, s4, s5] st = .nx [some (.v (.int (Int.ofNat n))), some a', s2', s3', s4', s5] st' ∧ Rows a' st' ((rowsM n (lo + k)).map tn)
  | 0, lo, a, s2, s3, s4, st, _, hr => ⟨a, s2, s3, s4, st, rfl, hr⟩
  | k + 1, lo, a, s2, s3, s4, st, hs, hr => by
    obtain ⟨h1, h2⟩ := hs lo (Nat.le_refl _) (by omega)
    obtain ⟨a', u3, u4, ut, e, hr'⟩ := turn_step (s2 := some (.v (.int (lo : Nat)))) (s3 := s3) (s4 := s4) (s5 := s5) hn hr h1 h2
    obtain ⟨b', v2, v3, v4, vt, e', hr''⟩ := turn_loop hn k (lo + 1) (a := a') (s2 := some (.v (.int (lo : Nat)))) (s3 := u3) (s4 := u4) (st := ut) (fun j h h' => hs j (by omega) (by omega)) hr'
    refine ⟨b', v2, v3, v4, vt, ?_, by rw [show lo + (k + 1) = lo + 1 + k by omega]; exact hr''⟩
    show forL (tN 2) Bturn (P.int (lo : Nat) :: rangeL ((lo : Int) + 1) k) _ st = _
    rw [forL_nx (e1 := [some (.v (.int (Int.ofNat n))), some a, some (.v (.int (lo : Nat))), s3, s4, s5]) (s1 := st) rfl e]
    exact e'
theorem small_ok {n : Nat} (h : small n = true) : n ≤ 1000 ∧ ∀ j, j < n → (∀ l ∈ rowsM n j, l.length ≤ 1000) ∧ (rowsM n (j + 1)).length ≤ 1000000 := by
  unfold small at h
  rw [Bool.and_eq_true, List.all_eq_true] at h
  refine ⟨Nat.le_of_ble_eq_true h.1, fun j hj => ?_⟩
  have a := h.2 j (List.mem_range.mpr (by omega))
  have b := h.2 (j + 1) (List.mem_range.mpr (by omega))
  rw [Bool.and_eq_true, List.all_eq_true] at a b
  exact ⟨fun l hl => Nat.le_of_ble_eq_true (a.2 l hl), Nat.le_of_ble_eq_true b.1⟩
theorem fnV_rtA {ar n : Nat} {B : Sx} {as : List A} {a : A} {p : P} {st vt wt : Sto} (ha : (as.length == ar) = true) (h : B (start n as) st = .rt a vt) (ht : toV a vt = .ok p wt) : fnV ar n B as st = .ok (.v p) (wt.take st.length) := by
  unfold fnV
  rw [if_pos ha, h]
  dsimp only
  rw [ht]
theorem all_rows_ok {n : Nat} (h : small n = true) : g_all_rows [.v (.int (Int.ofNat n))] [] = .ok (.v (.lst ((rowsM n n).map tn))) [] := by
  obtain ⟨hn, hs⟩ := small_ok h
  have g1 : sSet 1 (eLst [(eTup [])]) [some (.v (.int (Int.ofNat n))), none, none, none, none, none] [] = .nx [some (.v (.int (Int.ofNat n))), some (.v (.lst ((rowsM n 0).map tn))), none, none, none, none] [] := rfl
  obtain ⟨a', v2, v3, v4, vt, e, hr⟩ := turn_loop (s5 := none) hn n 0 (a := .v (.lst ((rowsM n 0).map tn))) (s2 := none) (s3 := none) (s4 := none) (st := []) (fun j _ h' => hs j (by omega)) (.inl rfl)
  rw [Nat.zero_add] at hr
  have gi : itR1 (eV 0) [some (.v (.int (Int.ofNat n))), some (.v (.lst ((rowsM n 0).map tn))), none, none, none, none] [] = .ok (rangeL (0 : Nat) n) [] := by
    refine (Pu.bind_ok (a := A.v (.int (Int.ofNat n))) (s := []) rfl).trans ?_
    show (if wide62 (Int.ofNat n) = true then ret (rangeL 0 n) else no) [] = _
    rw [if_pos]; rfl
    have : (Int.ofNat n) = (n : Int) := rfl
    simp [wide62]; omega
  have ge : g_all_rows = fnV 1 6 (sq (sSet 1 (eLst [(eTup [])])) (sq (sFor (itR1 (eV 0)) (tN 2) Bturn) (sR (eV 1)))) := by
    unfold g_all_rows Bturn Bext Lext
    rfl
  have hb : (sq (sSet 1 (eLst [(eTup [])])) (sq (sFor (itR1 (eV 0)) (tN 2) Bturn) (sR (eV 1)))) [some (.v (.int (Int.ofNat n))), none, none, none, none, none] [] = .rt a' vt :=
    (sq_nx g1).trans ((sq_nx ((sFor_ok gi).trans e)).trans rfl)
  rw [ge]
  rcases hr with rfl | ⟨pre, rfl, rfl⟩
  · exact fnV_rt (n := 6) (as := [.v (.int (Int.ofNat n))]) rfl hb
  · have ht : toV (.r pre.length) (pre ++ [.l ((rowsM n n).map tn)]) = .ok (.lst ((rowsM n n).map tn)) (putC (pre ++ [.l ((rowsM n n).map tn)]) pre.length (.f ((rowsM n n).map tn))) := by
      unfold toV
      dsimp only
      rw [lookC_app]
    exact fnV_rtA (n := 6) (as := [.v (.int (Int.ofNat n))]) rfl hb ht
def chk (n : Nat) (v : Nat) : Bool := small n && (rowsM n n).all (okR n) && (match runM (formsM n) (rowsM n n) 16000000 0 0 with | some r => Nat.beq r v | none => false)
theorem chk_ok {n v : Nat} (h : chk n v = true) : g_by_parts [.v (.int (Int.ofNat n))] [] = .ok (.v (.int (Int.ofNat v))) [] := by
  unfold chk at h
  rw [Bool.and_eq_true, Bool.and_eq_true] at h
  obtain ⟨⟨h1, h2⟩, h3⟩ := h
  refine parts_ok (all_rows_ok h1) h2 ?_
  split at h3
  · rename_i r e
    rw [e, Nat.eq_of_beq_eq_true h3]
  · cases h3
theorem chk3 : chk 3 1 = true := by decide +kernel
theorem chk4 : chk 4 3 = true := by decide +kernel
theorem chk5 : chk 5 8 = true := by decide +kernel
end Kw

set_option linter.all false
set_option maxRecDepth 100000
set_option autoImplicit false
set_option maxHeartbeats 4000000
namespace Kw
open Lw
open Rt Pu
theorem chk6 : chk 6 38 = true := by decide +kernel
theorem keeps : Good63 f_law := by
  refine keeps_of fun i hi => ?_
  match i, hi with
  | 0, _ => exact chk_ok chk3
  | 1, _ => exact chk_ok chk4
  | 2, _ => exact chk_ok chk5
  | 3, _ => exact chk_ok chk6
end Kw

namespace Lw
open PySem PySem.Spec PyProof.Rows L2 Rt

section
variable {P : Program} {w : World} {K : PySem.W.Frag} {mg : PySem.Str → Option Value} {base : Heap} {f : Addr} {fd : FuncData} {g : Gc}
theorem sc_is_whole : FnScope ["value"] ["value"] (defScope (top 5)) := ⟨rfl, rfl, rfl, by decide +kernel, rfl, by decide +kernel, by decide +kernel⟩
theorem ok_is_whole (F : FnP K "is_whole" (top 5) f fd) (b_isinstance_ : mg "isinstance" = none) (b_int_ : mg "int" = none) (b_bool_ : mg "bool" = none) : FnOk P w K mg base CX0 1 f fd ["value"] (spOf g f_is_whole) :=
  def_V F sc_is_whole rfl rfl (by decide) fun cdv A outer s H E hr => (have hN : (["value"] : List PySem.Str).Nodup := sc_is_whole.nd; have hu := hu65 hr;
  (sss_one (ss_ret (SB.se (sb_and (b_isi .int (vr 0) b_isinstance_ b_int_) (sb_one (sb_not (b_isi .bool (vr 0) b_isinstance_ b_bool_))))))))
theorem sc_is_between : FnScope ["value", "low", "high"] ["value", "low", "high"] (defScope (top 6)) := ⟨rfl, rfl, rfl, by decide +kernel, rfl, by decide +kernel, by decide +kernel⟩
theorem ok_is_between (F : FnP K "is_between" (top 6) f fd) {f_is_whole_ : Addr} {fd_is_whole_ : FuncData} (k_is_whole : Kn P w K mg base CX0 g 1 "is_whole" f_is_whole_ fd_is_whole_ ["value"] f_is_whole) : FnOk P w K mg base CX0 2 f fd ["value", "low", "high"] (spOf g f_is_between) :=
  def_V F sc_is_between rfl rfl (by decide) fun cdv A outer s H E hr => (have hN : (["value", "low", "high"] : List PySem.Str).Nodup := sc_is_between.nd; have hu := hu65 hr;
  (sss_one (ss_ret (SB.se (sb_and (SE.sb (se_call k_is_whole (hr.mono (by decide)) pass0 rfl (sa_cons (vr 0) sa_nil))) (sb_one (b_c2 (o_le hu) (o_le hu) (vr 1) (vr 0) (vr 2))))))))
theorem sc_factorial_of : FnScope ["number", "found", "each"] ["number"] (defScope (top 7)) := ⟨rfl, rfl, rfl, by decide +kernel, rfl, by decide +kernel, by decide +kernel⟩
theorem ok_factorial_of (F : FnP K "factorial_of" (top 7) f fd) (b_range_ : mg "range" = none) : FnOk P w K mg base CX0 1 f fd ["number"] (spOf g f_factorial_of) :=
  def_V F sc_factorial_of rfl rfl (by decide) fun cdv A outer s H E hr => (have hN : (["number", "found", "each"] : List PySem.Str).Nodup := sc_factorial_of.nd; have hu := hu65 hr;
  (sss_cons (ss_set hN rfl (.inl rfl) kI)
  (sss_cons (ss_for own_cx rfl (si_range2 rfl b_range_ kI (r_add (vr 0) kI)) (t_n 2 hN)
  (sss_one (ss_set hN rfl (.inl rfl) (r_mul (vr 1) (vr 2)))))
  (sss_one (ss_ret (vr 1))))))
theorem sc_is_ring : FnScope ["value"] ["value"] (defScope (top 14)) := ⟨rfl, rfl, rfl, by decide +kernel, rfl, by decide +kernel, by decide +kernel⟩
theorem ok_is_ring (F : FnP K "is_ring" (top 14) f fd) (c_FEWEST : ∃ t, mg "FEWEST" = some (.int 3 t)) (c_MOST : ∃ t, mg "MOST" = some (.int 12 t)) {f_is_between_ : Addr} {fd_is_between_ : FuncData} (k_is_between : Kn P w K mg base CX0 g 2 "is_between" f_is_between_ fd_is_between_ ["value", "low", "high"] f_is_between) : FnOk P w K mg base CX0 3 f fd ["value"] (spOf g f_is_ring) :=
  def_V F sc_is_ring rfl rfl (by decide) fun cdv A outer s H E hr => (have hN : (["value"] : List PySem.Str).Nodup := sc_is_ring.nd; have hu := hu65 hr;
  (sss_one (ss_ret (se_call k_is_between (hr.mono (by decide)) pass0 rfl (sa_cons (vr 0) (sa_cons (gI c_FEWEST) (sa_cons (gI c_MOST) sa_nil)))))))
theorem sc_units_of : FnScope ["ring", "unit"] ["ring"] (defScope (top 15)) := ⟨rfl, rfl, rfl, by decide +kernel, rfl, by decide +kernel, by decide +kernel⟩
theorem ok_units_of (F : FnP K "units_of" (top 15) f fd) (b_range_ : mg "range" = none) (m_gcd : mg "gcd" = some (.builtin "math.gcd")) : FnOk P w K mg base CX0 1 f fd ["ring"] (spOf g f_units_of) :=
  def_V F sc_units_of rfl rfl (by decide) fun cdv A outer s H E hr => (have hN : (["ring", "unit"] : List PySem.Str).Nodup := sc_units_of.nd; have hu := hu65 hr;
  (sss_one (ss_ret (se_ofL (sl_lc rfl hN (own := [("unit", 1)]) (si_range2 rfl b_range_ kI (vr 0)) (blkOk_by (N := ["ring", "unit"]) (sc := defScope (top 15)) (by decide +kernel)) (fun _ => (t_n 1 hN)) (fun _ => (sts_one (c_c (o_eq hu) (b_gcd (vr 1) (vr 0) m_gcd) kI))) (fun _ => (vr 1)))))))
theorem sc_motions_of : FnScope ["ring", "kind", "some", "unit", "tone"] ["ring", "kind"] (defScope (top 16)) := ⟨rfl, rfl, rfl, by decide +kernel, rfl, by decide +kernel, by decide +kernel⟩
theorem ok_motions_of (F : FnP K "motions_of" (top 16) f fd) (b_range_ : mg "range" = none) (c_RAISE : ∃ t, mg "RAISE" = some (.str "raise" t)) (c_TURN : ∃ t, mg "TURN" = some (.str "turn" t)) (c_UNIT : ∃ t, mg "UNIT" = some (.str "unit" t)) {f_units_of_ : Addr} {fd_units_of_ : FuncData} (k_units_of : Kn P w K mg base CX0 g 1 "units_of" f_units_of_ fd_units_of_ ["ring"] f_units_of) : FnOk P w K mg base CX0 2 f fd ["ring", "kind"] (spOf g f_motions_of) :=
  def_V F sc_motions_of rfl rfl (by decide) fun cdv A outer s H E hr => (have hN : (["ring", "kind", "some", "unit", "tone"] : List PySem.Str).Nodup := sc_motions_of.nd; have hu := hu65 hr;
  (sss_cons (ss_set hN rfl (.inl rfl) (se_dic (sp_cons (gS c_RAISE) (se_lst (sa_cons kI sa_nil)) (sp_cons (gS c_TURN) (se_lst (sa_cons kI (sa_cons (r_sub (vr 0) kI) sa_nil))) (sp_cons (gS c_UNIT) (se_call k_units_of (hr.mono (by decide)) pass0 rfl (sa_cons (vr 0) sa_nil)) sp_nil)))))
  (sss_one (ss_ret (se_ofL (sl_lc2 rfl hN (own := [("unit", 3), ("tone", 4)]) (vs1 := [4]) (si_val (r_ix hu (vr 2) (vr 1))) (blkOk_by (N := ["ring", "kind", "some", "unit", "tone"]) (sc := defScope (top 16)) (by decide +kernel)) (fun _ => (t_n 3 hN)) (fun _ => sts_nil) (fun _ => (si_range1 rfl b_range_ (vr 0))) (fun _ => (t_n 4 hN)) (fun _ => sts_nil) (fun _ => (se_tup (sa_cons (vr 3) (sa_cons (vr 4) sa_nil))))))))))
theorem sc_led_tone : FnScope ["ring", "tone", "motion"] ["ring", "tone", "motion"] (defScope (top 17)) := ⟨rfl, rfl, rfl, by decide +kernel, rfl, by decide +kernel, by decide +kernel⟩
theorem ok_led_tone (F : FnP K "led_tone" (top 17) f fd)  : FnOk P w K mg base CX0 1 f fd ["ring", "tone", "motion"] (spOf g f_led_tone) :=
  def_V F sc_led_tone rfl rfl (by decide) fun cdv A outer s H E hr => (have hN : (["ring", "tone", "motion"] : List PySem.Str).Nodup := sc_led_tone.nd; have hu := hu65 hr;
  (sss_one (ss_ret (r_mod (r_add (r_mul (r_ix hu (vr 2) kI) (vr 1)) (r_ix hu (vr 2) kI)) (vr 0)))))
theorem sc_check_ring : FnScope ["number"] ["number"] (defScope (top 19)) := ⟨rfl, rfl, rfl, by decide +kernel, rfl, by decide +kernel, by decide +kernel⟩
theorem ok_check_ring (F : FnP K "check_ring" (top 19) f fd) {f_is_ring_ : Addr} {fd_is_ring_ : FuncData} (k_is_ring : Kn P w K mg base CX0 g 3 "is_ring" f_is_ring_ fd_is_ring_ ["value"] f_is_ring) : FnOk P w K mg base CX0 4 f fd ["number"] (spOf g f_check_ring) :=
  def_V F sc_check_ring rfl rfl (by decide) fun cdv A outer s H E hr => (have hN : (["number"] : List PySem.Str).Nodup := sc_check_ring.nd; have hu := hu65 hr;
  (sss_one (ss_if (sc_not (sc_tru (se_call k_is_ring (hr.mono (by decide)) pass0 rfl (sa_cons (vr 0) sa_nil))))
  (sss_one ss_never)
  sss_nil)))
theorem sc_does_turn_rows : FnScope ["ring", "motion", "still", "twice", "tone"] ["ring", "motion"] (defScope (top 21)) := ⟨rfl, rfl, rfl, by decide +kernel, rfl, by decide +kernel, by decide +kernel⟩
theorem ok_does_turn_rows (F : FnP K "does_turn_rows" (top 21) f fd) (b_range_ : mg "range" = none) (b_len_ : mg "len" = none) {f_led_tone_ : Addr} {fd_led_tone_ : FuncData} (k_led_tone : Kn P w K mg base CX0 g 1 "led_tone" f_led_tone_ fd_led_tone_ ["ring", "tone", "motion"] f_led_tone) : FnOk P w K mg base CX0 2 f fd ["ring", "motion"] (spOf g f_does_turn_rows) :=
  def_V F sc_does_turn_rows rfl rfl (by decide) fun cdv A outer s H E hr => (have hN : (["ring", "motion", "still", "twice", "tone"] : List PySem.Str).Nodup := sc_does_turn_rows.nd; have hu := hu65 hr;
  (sss_cons (ss_lcV rfl hN (own := [("tone", 4)]) (si_range1 rfl b_range_ (vr 0)) (blkOk_by (N := ["ring", "motion", "still", "twice", "tone"]) (sc := defScope (top 21)) (by decide +kernel)) (fun _ => (t_n 4 hN)) (fun _ => (sts_one (c_c (o_eq hu) (se_call k_led_tone (hr.mono (by decide)) pass0 rfl (sa_cons (vr 0) (sa_cons (vr 4) (sa_cons (vr 1) sa_nil)))) (vr 4)))) (fun _ => (vr 4)))
  (sss_cons (ss_lcV rfl hN (own := [("tone", 4)]) (si_range1 rfl b_range_ (vr 0)) (blkOk_by (N := ["ring", "motion", "still", "twice", "tone"]) (sc := defScope (top 21)) (by decide +kernel)) (fun _ => (t_n 4 hN)) (fun _ => (sts_one (c_c (o_eq hu) (se_call k_led_tone (hr.mono (by decide)) pass0 rfl (sa_cons (vr 0) (sa_cons (se_call k_led_tone (hr.mono (by decide)) pass0 rfl (sa_cons (vr 0) (sa_cons (vr 4) (sa_cons (vr 1) sa_nil)))) (sa_cons (vr 1) sa_nil)))) (vr 4)))) (fun _ => (vr 4)))
  (sss_one (ss_ret (SB.se (sb_and (b_c (o_eq hu) (b_len (vr 2) b_len_) (r_mod (vr 0) kI)) (sb_one (b_c (o_eq hu) (b_len (vr 3) b_len_) (vr 0))))))))))
theorem sc_row_form_count_of : FnScope ["ring", "half", "motions", "turning", "left", "motion"] ["ring"] (defScope (top 22)) := ⟨rfl, rfl, rfl, by decide +kernel, rfl, by decide +kernel, by decide +kernel⟩
theorem ok_row_form_count_of (F : FnP K "row_form_count_of" (top 22) f fd) (b_len_ : mg "len" = none) (c_TURN : ∃ t, mg "TURN" = some (.str "turn" t)) {f_motions_of_ : Addr} {fd_motions_of_ : FuncData} (k_motions_of : Kn P w K mg base CX0 g 2 "motions_of" f_motions_of_ fd_motions_of_ ["ring", "kind"] f_motions_of) {f_does_turn_rows_ : Addr} {fd_does_turn_rows_ : FuncData} (k_does_turn_rows : Kn P w K mg base CX0 g 2 "does_turn_rows" f_does_turn_rows_ fd_does_turn_rows_ ["ring", "motion"] f_does_turn_rows) {f_factorial_of_ : Addr} {fd_factorial_of_ : FuncData} (k_factorial_of : Kn P w K mg base CX0 g 1 "factorial_of" f_factorial_of_ fd_factorial_of_ ["number"] f_factorial_of) : FnOk P w K mg base CX0 3 f fd ["ring"] (spOf g f_row_form_count_of) :=
  def_V F sc_row_form_count_of rfl rfl (by decide) fun cdv A outer s H E hr => (have hN : (["ring", "half", "motions", "turning", "left", "motion"] : List PySem.Str).Nodup := sc_row_form_count_of.nd; have hu := hu65 hr;
  (sss_cons (ss_par rfl hN rfl rfl (by decide) rfl rfl (sa_cons (r_div (vr 0) kI) (sa_cons (se_call k_motions_of (hr.mono (by decide)) pass0 rfl (sa_cons (vr 0) (sa_cons (gS c_TURN) sa_nil))) sa_nil)))
  (sss_cons (ss_set hN rfl (.inl rfl) (b_len (se_ofL (sl_lc rfl hN (own := [("motion", 5)]) (si_val (vr 2)) (blkOk_by (N := ["ring", "half", "motions", "turning", "left", "motion"]) (sc := defScope (top 22)) (by decide +kernel)) (fun _ => (t_n 5 hN)) (fun _ => (sts_one (sc_tru (se_call k_does_turn_rows (hr.mono (by decide)) pass0 rfl (sa_cons (vr 0) (sa_cons (vr 5) sa_nil)))))) (fun _ => (vr 5)))) b_len_))
  (sss_cons (ss_set hN rfl (.inl rfl) (r_add (se_call k_factorial_of (hr.mono (by decide)) pass0 rfl (sa_cons (vr 0) sa_nil)) (r_mul (r_mul (vr 3) (se_call k_factorial_of (hr.mono (by decide)) pass0 rfl (sa_cons (vr 1) sa_nil))) (r_shl kI (vr 1)))))
  (sss_one (ss_ret (r_div (vr 4) (r_mul kI (b_len (vr 2) b_len_)))))))))
theorem sc_row_form_count : FnScope ["number"] ["number"] (defScope (top 24)) := ⟨rfl, rfl, rfl, by decide +kernel, rfl, by decide +kernel, by decide +kernel⟩
theorem ok_row_form_count (F : FnP K "row_form_count" (top 24) f fd) {f_check_ring_ : Addr} {fd_check_ring_ : FuncData} (k_check_ring : Kn P w K mg base CX0 g 4 "check_ring" f_check_ring_ fd_check_ring_ ["number"] f_check_ring) {f_row_form_count_of_ : Addr} {fd_row_form_count_of_ : FuncData} (k_row_form_count_of : Kn P w K mg base CX0 g 3 "row_form_count_of" f_row_form_count_of_ fd_row_form_count_of_ ["ring"] f_row_form_count_of) : FnOk P w K mg base CX0 5 f fd ["number"] (spOf g f_row_form_count) :=
  def_V F sc_row_form_count rfl rfl (by decide) fun cdv A outer s H E hr => (have hN : (["number"] : List PySem.Str).Nodup := sc_row_form_count.nd; have hu := hu65 hr;
  (sss_cons (ss_expr (se_call k_check_ring (hr.mono (by decide)) pass0 rfl (sa_cons (vr 0) sa_nil)))
  (sss_one (ss_ret (se_call k_row_form_count_of (hr.mono (by decide)) pass0 rfl (sa_cons (vr 0) sa_nil))))))
theorem sc__law_well : FnScope ["script", "turn", "own", "stir", "cell"] ["script", "turn"] (defScope (top 26)) := ⟨rfl, rfl, rfl, by decide +kernel, rfl, by decide +kernel, by decide +kernel⟩
theorem ok__law_well (F : FnP K "_law_well" (top 26) f fd) (b_len_ : mg "len" = none) (b_int_ : mg "int" = none) (b_sum_ : mg "sum" = none) (b_abs_ : mg "abs" = none) : FnOk P w K mg base CX0 1 f fd ["script", "turn"] (spOf g g_well) :=
  def_R F sc__law_well rfl rfl (by decide) fun cdv A outer s H E hr => (have hN : (["script", "turn", "own", "stir", "cell"] : List PySem.Str).Nodup := sc__law_well.nd; have hu := hu65 hr;
  (sss_cons (ss_set hN rfl (.inl rfl) (se_if (c_c (o_lt hu) (vr 1) (b_len (vr 0) b_len_)) (b_int (r_ix hu (vr 0) (vr 1)) b_int_) (r_add (r_add (r_mul kI (vr 1)) (r_mod (b_int (b_sum rfl (se_slice (vr 0) so_none (so_some kI)) b_sum_) b_int_) kI)) kI)))
  (sss_cons (ss_set hN rfl (.inl rfl) (r_add kI (r_mul kI (vr 1))))
  (sss_cons (ss_for own_cx rfl (si_val (r_add (se_slice (vr 0) so_none (so_some kI)) (se_lst (sa_cons (vr 2) sa_nil)))) (t_n 4 hN)
  (sss_one (ss_set hN rfl (.inl rfl) (r_mod (b_int (r_add (r_add (r_mul (vr 3) kI) (r_mod (b_int (vr 4) b_int_) kI)) kI) b_int_) kI))))
  (sss_one (ss_ret (se_lstR (sa_cons (se_if (SW.sc (sw_or (c_c (o_lt hu) (vr 2) kI) (sw_or1 (c_c (o_ge hu) (vr 2) (r_pow kI kI))))) (b_abs (vr 2) b_abs_) kI) (sa_cons (vr 3) (sa_cons kI sa_nil))))))))))
theorem sc__law_take : FnScope ["well", "many", "by", "figure"] ["well", "many"] (defScope (top 27)) := ⟨rfl, rfl, rfl, by decide +kernel, rfl, by decide +kernel, by decide +kernel⟩
theorem ok__law_take (F : FnP K "_law_take" (top 27) f fd) (b_divmod_ : mg "divmod" = none) (b_int_ : mg "int" = none) : FnOk P w K mg base CX0 1 f fd ["well", "many"] (spOf g g_take) :=
  def_V F sc__law_take rfl rfl (by decide) fun cdv A outer s H E hr => (have hN : (["well", "many", "by", "figure"] : List PySem.Str).Nodup := sc__law_take.nd; have hu := hu65 hr;
  (sss_cons (ss_if (c_c (o_gt hu) (r_ix hu (vr 0) kI) kI)
  (sss_cons (ss_asg (b_divmod (r_ix hu (vr 0) kI) (vr 1) b_divmod_) (sg_tup rfl (sgs_cons (t_s hu (vr 0) kI) (sgs_cons (t_n 3 hN) sgs_nil))))
  (sss_one (ss_ret (vr 3))))
  sss_nil)
  (sss_cons (ss_asg (r_add (r_ix hu (vr 0) kI) kI) (t_s hu (vr 0) kI))
  (sss_cons (ss_set hN rfl (.inl rfl) (r_add (r_mod (b_int (r_ix hu (vr 0) kI) b_int_) kI) kI))
  (sss_cons (ss_asg (r_mod (b_int (r_add (r_add (r_mul (r_ix hu (vr 0) kI) (vr 2)) (r_mul kI (r_ix hu (vr 0) kI))) kI) b_int_) kI) (t_s hu (vr 0) kI))
  (sss_one (ss_ret (r_mod (b_int (r_div (r_ix hu (vr 0) kI) kI) b_int_) (vr 1)))))))))
theorem sc__law_same : FnScope ["told", "due", "at"] ["told", "due"] (defScope (top 28)) := ⟨rfl, rfl, rfl, by decide +kernel, rfl, by decide +kernel, by decide +kernel⟩
theorem ok__law_same (n : Nat) (F : FnP K "_law_same" (top 28) f fd) (hm : mg "_law_same" = some (.ref f)) (b : Binds K fd ["told", "due"] []) (b_isinstance_ : mg "isinstance" = none) (b_tuple_ : mg "tuple" = none) (b_list_ : mg "list" = none) (b_len_ : mg "len" = none) (b_range_ : mg "range" = none) (b_all_ : mg "all" = none) (b_bool_ : mg "bool" = none) (b_int_ : mg "int" = none) (b_str_ : mg "str" = none) : FnOk P w K mg base CX0 (0 + n) f fd ["told", "due"] (spOf g (g_same n)) := by
  induction n with
  | zero => exact def_never
  | succ n ih =>
    have k__law_same : Kn P w K mg base CX0 g (0 + n) "_law_same" f fd ["told", "due"] (g_same n) := ⟨ih, hm, F.kp, b⟩
    exact def_V (k := 0 + n) F sc__law_same rfl rfl (by decide) fun cdv A outer s H E hr => (have hN : (["told", "due", "at"] : List PySem.Str).Nodup := sc__law_same.nd; have hu := hu65 hr;
      (sss_cons (ss_if (SW.sc (sw_or (SB.sc (b_isi .tuple (vr 1) b_isinstance_ b_tuple_)) (sw_or1 (SB.sc (b_isi .list (vr 1) b_isinstance_ b_list_)))))
      (sss_cons (ss_if (SW.sc (sw_or (c_c (o_ne hu) (SB.se (b_isi .tuple (vr 0) b_isinstance_ b_tuple_)) (SB.se (b_isi .tuple (vr 1) b_isinstance_ b_tuple_))) (sw_or1 (c_c (o_ne hu) (SB.se (b_isi .list (vr 0) b_isinstance_ b_list_)) (SB.se (b_isi .list (vr 1) b_isinstance_ b_list_))))))
      (sss_one (ss_ret kB))
      sss_nil)
      (sss_one (ss_ret (SB.se (sb_and (b_c (o_eq hu) (b_len (vr 0) b_len_) (b_len (vr 1) b_len_)) (sb_one (SE.sb (b_all rfl (se_ofL (sl_lc rfl hN (own := [("at", 2)]) (si_range1 rfl b_range_ (b_len (vr 1) b_len_)) (blkOk_by (N := ["told", "due", "at"]) (sc := defScope (top 28)) (by decide +kernel)) (fun _ => (t_n 2 hN)) (fun _ => sts_nil) (fun _ => (se_call k__law_same (hr.mono (by omega)) pass0 rfl (sa_cons (r_ix hu (vr 0) (vr 2)) (sa_cons (r_ix hu (vr 1) (vr 2)) sa_nil)))))) b_all_))))))))
      sss_nil)
      (sss_cons (ss_if (c_c (o_is hu) (vr 1) kN)
      (sss_one (ss_ret (SB.se (b_c (o_is hu) (vr 0) kN))))
      sss_nil)
      (sss_cons (ss_if (SB.sc (b_isi .bool (vr 1) b_isinstance_ b_bool_))
      (sss_one (ss_ret (SB.se (sb_and (b_isi .bool (vr 0) b_isinstance_ b_bool_) (sb_one (b_c (o_eq hu) (vr 0) (vr 1)))))))
      sss_nil)
      (sss_cons (ss_if (SB.sc (b_isi .int (vr 1) b_isinstance_ b_int_))
      (sss_one (ss_ret (SB.se (sb_and (b_isi .int (vr 0) b_isinstance_ b_int_) (sb_and (sb_not (b_isi .bool (vr 0) b_isinstance_ b_bool_)) (sb_one (b_c (o_eq hu) (vr 0) (vr 1))))))))
      sss_nil)
      (sss_one (ss_ret (SB.se (sb_and (b_isi .str (vr 0) b_isinstance_ b_str_) (sb_one (b_c (o_eq hu) (vr 0) (vr 1))))))))))))
theorem sc__law_moved : FnScope ["row", "motion", "many", "unit", "tone", "each"] ["row", "motion"] (defScope (top 29)) := ⟨rfl, rfl, rfl, by decide +kernel, rfl, by decide +kernel, by decide +kernel⟩
theorem ok__law_moved (F : FnP K "_law_moved" (top 29) f fd) (b_int_ : mg "int" = none) (b_tuple_ : mg "tuple" = none) : FnOk P w K mg base CX0 1 f fd ["row", "motion"] (spOf g g_moved) :=
  def_V F sc__law_moved rfl rfl (by decide) fun cdv A outer s H E hr => (have hN : (["row", "motion", "many", "unit", "tone", "each"] : List PySem.Str).Nodup := sc__law_moved.nd; have hu := hu65 hr;
  (sss_cons (ss_asg (se_tup (sa_cons (r_ix hu (vr 1) kI) (sa_cons (r_ix hu (vr 1) kI) sa_nil))) (sg_tup rfl (sgs_cons (t_n 2 hN) (sgs_cons (sg_tup rfl (sgs_cons (t_n 3 hN) (sgs_cons (t_n 4 hN) sgs_nil))) sgs_nil))))
  (sss_one (ss_ret (b_tuple (se_ofL (sl_lc rfl hN (own := [("each", 5)]) (si_val (vr 0)) (blkOk_by (N := ["row", "motion", "many", "unit", "tone", "each"]) (sc := defScope (top 29)) (by decide +kernel)) (fun _ => (t_n 5 hN)) (fun _ => sts_nil) (fun _ => (r_mod (b_int (r_add (r_mul (vr 3) (vr 5)) (vr 4)) b_int_) (vr 2))))) b_tuple_)))))
theorem sc__law_forms : FnScope ["row", "many", "found", "unit", "tone", "moved"] ["row"] (defScope (top 30)) := ⟨rfl, rfl, rfl, by decide +kernel, rfl, by decide +kernel, by decide +kernel⟩
theorem ok__law_forms (F : FnP K "_law_forms" (top 30) f fd) (b_len_ : mg "len" = none) (b_range_ : mg "range" = none) (b_list_ : mg "list" = none) (b_sorted_ : mg "sorted" = none) (b_tuple_ : mg "tuple" = none) {f__law_moved_ : Addr} {fd__law_moved_ : FuncData} (k__law_moved : Kn P w K mg base CX0 g 1 "_law_moved" f__law_moved_ fd__law_moved_ ["row", "motion"] g_moved) : FnOk P w K mg base CX0 2 f fd ["row"] (spOf g g_forms) :=
  def_V F sc__law_forms rfl rfl (by decide) fun cdv A outer s H E hr => (have hN : (["row", "many", "found", "unit", "tone", "moved"] : List PySem.Str).Nodup := sc__law_forms.nd; have hu := hu65 hr;
  (sss_cons (ss_par rfl hN rfl rfl (by decide) rfl rfl (sa_cons (b_len (vr 0) b_len_) (sa_cons (se_dic0R true) sa_nil)))
  (sss_cons (ss_for own_cx rfl (si_val (se_lst (sa_cons kI (sa_cons (r_sub (vr 1) kI) sa_nil)))) (t_n 3 hN)
  (sss_one (ss_for own_cx rfl (si_range1 rfl b_range_ (vr 1)) (t_n 4 hN)
  (sss_cons (ss_set hN rfl (.inl rfl) (se_call k__law_moved (hr.mono (by decide)) pass0 rfl (sa_cons (vr 0) (sa_cons (se_tup (sa_cons (vr 1) (sa_cons (se_tup (sa_cons (vr 3) (sa_cons (vr 4) sa_nil))) sa_nil))) sa_nil))))
  (sss_cons (ss_asg kB (t_s hu (vr 2) (vr 5)))
  (sss_one (ss_asg kB (t_s hu (vr 2) (se_back (vr 5))))))))))
  (sss_one (ss_ret (b_tuple (b_sorted (b_list rfl (vr 2) b_list_) b_sorted_) b_tuple_))))))
theorem sc__law_all_rows : FnScope ["many", "rows", "turn", "longer", "row", "tone"] ["many"] (defScope (top 31)) := ⟨rfl, rfl, rfl, by decide +kernel, rfl, by decide +kernel, by decide +kernel⟩
theorem ok__law_all_rows (F : FnP K "_law_all_rows" (top 31) f fd) (b_range_ : mg "range" = none) : FnOk P w K mg base CX0 1 f fd ["many"] (spOf g g_all_rows) :=
  def_V F sc__law_all_rows rfl rfl (by decide) fun cdv A outer s H E hr => (have hN : (["many", "rows", "turn", "longer", "row", "tone"] : List PySem.Str).Nodup := sc__law_all_rows.nd; have hu := hu65 hr;
  (sss_cons (ss_set hN rfl (.inl rfl) (se_lst (sa_cons (se_tup sa_nil) sa_nil)))
  (sss_cons (ss_for own_cx rfl (si_range1 rfl b_range_ (vr 0)) (t_n 2 hN)
  (sss_cons (ss_set hN rfl (.inl rfl) (se_lstR sa_nil))
  (sss_cons (ss_for own_cx rfl (si_val (vr 1)) (t_n 4 hN)
  (sss_one (ss_expr (m_ext (vr 3) (se_ofL (sl_lc rfl hN (own := [("tone", 5)]) (si_range1 rfl b_range_ (vr 0)) (blkOk_by (N := ["many", "rows", "turn", "longer", "row", "tone"]) (sc := defScope (top 31)) (by decide +kernel)) (fun _ => (t_n 5 hN)) (fun _ => (sts_one (c_c (o_ni hu) (vr 5) (vr 4)))) (fun _ => (r_add (vr 4) (se_tup (sa_cons (vr 5) sa_nil))))))))))
  (sss_one (ss_set hN rfl (.inl rfl) (vr 3))))))
  (sss_one (ss_ret (vr 1))))))
theorem sc__law_factorial : FnScope ["many", "found", "each"] ["many"] (defScope (top 32)) := ⟨rfl, rfl, rfl, by decide +kernel, rfl, by decide +kernel, by decide +kernel⟩
theorem ok__law_factorial (F : FnP K "_law_factorial" (top 32) f fd) (b_range_ : mg "range" = none) : FnOk P w K mg base CX0 1 f fd ["many"] (spOf g g_factorial) :=
  def_V F sc__law_factorial rfl rfl (by decide) fun cdv A outer s H E hr => (have hN : (["many", "found", "each"] : List PySem.Str).Nodup := sc__law_factorial.nd; have hu := hu65 hr;
  (sss_cons (ss_set hN rfl (.inl rfl) kI)
  (sss_cons (ss_for own_cx rfl (si_range2 rfl b_range_ kI (r_add (vr 0) kI)) (t_n 2 hN)
  (sss_one (ss_set hN rfl (.inl rfl) (r_mul (vr 1) (vr 2)))))
  (sss_one (ss_ret (vr 1))))))
theorem sc__law_by_mean : FnScope ["many", "half", "pairs", "each", "ways"] ["many"] (defScope (top 33)) := ⟨rfl, rfl, rfl, by decide +kernel, rfl, by decide +kernel, by decide +kernel⟩
theorem ok__law_by_mean (F : FnP K "_law_by_mean" (top 33) f fd) (b_range_ : mg "range" = none) (b_int_ : mg "int" = none) {f__law_factorial_ : Addr} {fd__law_factorial_ : FuncData} (k__law_factorial : Kn P w K mg base CX0 g 1 "_law_factorial" f__law_factorial_ fd__law_factorial_ ["many"] g_factorial) : FnOk P w K mg base CX0 2 f fd ["many"] (spOf g g_by_mean) :=
  def_V F sc__law_by_mean rfl rfl (by decide) fun cdv A outer s H E hr => (have hN : (["many", "half", "pairs", "each", "ways"] : List PySem.Str).Nodup := sc__law_by_mean.nd; have hu := hu65 hr;
  (sss_cons (ss_par rfl hN rfl rfl (by decide) rfl rfl (sa_cons (r_div (vr 0) kI) (sa_cons kI sa_nil)))
  (sss_cons (ss_for own_cx rfl (si_range2 rfl b_range_ kI (r_add (vr 1) kI)) (t_n 3 hN)
  (sss_one (ss_set hN rfl (.inl rfl) (r_mul (r_mul (vr 2) kI) (vr 3)))))
  (sss_cons (ss_set hN rfl (.inl rfl) (se_if (c_c (o_eq hu) (r_mod (b_int (vr 0) b_int_) kI) kI) (r_add kI (vr 1)) (vr 0)))
  (sss_one (ss_ret (r_div (r_add (se_call k__law_factorial (hr.mono (by decide)) pass0 rfl (sa_cons (vr 0) sa_nil)) (r_mul (vr 4) (vr 2))) (r_mul kI (vr 0)))))))))
theorem sc__law_by_parts : FnScope ["many", "left", "found", "row", "form"] ["many"] (defScope (top 34)) := ⟨rfl, rfl, rfl, by decide +kernel, rfl, by decide +kernel, by decide +kernel⟩
theorem ok__law_by_parts (F : FnP K "_law_by_parts" (top 34) f fd) {f__law_all_rows_ : Addr} {fd__law_all_rows_ : FuncData} (k__law_all_rows : Kn P w K mg base CX0 g 1 "_law_all_rows" f__law_all_rows_ fd__law_all_rows_ ["many"] g_all_rows) {f__law_forms_ : Addr} {fd__law_forms_ : FuncData} (k__law_forms : Kn P w K mg base CX0 g 2 "_law_forms" f__law_forms_ fd__law_forms_ ["row"] g_forms) : FnOk P w K mg base CX0 3 f fd ["many"] (spOf g g_by_parts) :=
  def_V F sc__law_by_parts rfl rfl (by decide) fun cdv A outer s H E hr => (have hN : (["many", "left", "found", "row", "form"] : List PySem.Str).Nodup := sc__law_by_parts.nd; have hu := hu65 hr;
  (sss_cons (ss_par rfl hN rfl rfl (by decide) rfl rfl (sa_cons (se_dic0R true) (sa_cons kI sa_nil)))
  (sss_cons (ss_for own_cx rfl (si_val (se_call k__law_all_rows (hr.mono (by decide)) pass0 rfl (sa_cons (vr 0) sa_nil))) (t_n 3 hN)
  (sss_one (ss_if (c_c (o_ni hu) (vr 3) (vr 1))
  (sss_cons (ss_set hN rfl (.inl rfl) (r_add (vr 2) kI))
  (sss_one (ss_for own_cx rfl (si_val (se_call k__law_forms (hr.mono (by decide)) pass0 rfl (sa_cons (vr 3) sa_nil))) (t_n 4 hN)
  (sss_one (ss_asg kB (t_s hu (vr 1) (vr 4)))))))
  sss_nil)))
  (sss_one (ss_ret (vr 2))))))
theorem sc_law : FnScope ["script", "known", "many", "turn", "well", "again", "told"] ["script"] (defScope (top 35)) := ⟨rfl, rfl, rfl, by decide +kernel, rfl, by decide +kernel, by decide +kernel⟩
theorem ok_law (F : FnP K "law" (top 35) f fd) (b_range_ : mg "range" = none) (b_dict_ : mg "dict" = none) (b_len_ : mg "len" = none) (b_min_ : mg "min" = none) (b_max_ : mg "max" = none) {f__law_by_parts_ : Addr} {fd__law_by_parts_ : FuncData} (k__law_by_parts : Kn P w K mg base CX0 g 3 "_law_by_parts" f__law_by_parts_ fd__law_by_parts_ ["many"] g_by_parts) {f__law_by_mean_ : Addr} {fd__law_by_mean_ : FuncData} (k__law_by_mean : Kn P w K mg base CX0 g 2 "_law_by_mean" f__law_by_mean_ fd__law_by_mean_ ["many"] g_by_mean) {f__law_well_ : Addr} {fd__law_well_ : FuncData} (k__law_well : Kn P w K mg base CX0 g 1 "_law_well" f__law_well_ fd__law_well_ ["script", "turn"] g_well) {f__law_take_ : Addr} {fd__law_take_ : FuncData} (k__law_take : Kn P w K mg base CX0 g 1 "_law_take" f__law_take_ fd__law_take_ ["well", "many"] g_take) {f_row_form_count_ : Addr} {fd_row_form_count_ : FuncData} (k_row_form_count : Kn P w K mg base CX0 g 5 "row_form_count" f_row_form_count_ fd_row_form_count_ ["number"] f_row_form_count) {f__law_same_ : Addr} {fd__law_same_ : FuncData} (k__law_same : Kn P w K mg base CX0 g 20 "_law_same" f__law_same_ fd__law_same_ ["told", "due"] (g_same 20)) (q_row_form_count_0_number : KBn K fd_row_form_count_ ["number"] 0 ["number"] (gsel Value.none [0]) (gsel V.non [0])) : FnOk P w K mg base CX0 21 f fd ["script"] (spOf g f_law) :=
  def_V F sc_law rfl rfl (by decide) fun cdv A outer s H E hr => (have hN : (["script", "known", "many", "turn", "well", "again", "told"] : List PySem.Str).Nodup := sc_law.nd; have hu := hu65 hr;
  (sss_cons (ss_set hN rfl (.inl rfl) (b_dict rfl (se_ofL (sl_lc rfl hN (own := [("many", 2)]) (si_range2 rfl b_range_ kI kI) (blkOk_by (N := ["script", "known", "many", "turn", "well", "again", "told"]) (sc := defScope (top 35)) (by decide +kernel)) (fun _ => (t_n 2 hN)) (fun _ => sts_nil) (fun _ => (se_tup (sa_cons (vr 2) (sa_cons (se_call k__law_by_parts (hr.mono (by decide)) pass0 rfl (sa_cons (vr 2) sa_nil)) sa_nil)))))) b_dict_))
  (sss_cons (ss_for own_cx rfl (si_val (vr 1)) (t_n 2 hN)
  (sss_one (ss_if (c_c (o_ne hu) (r_ix hu (vr 1) (vr 2)) (se_call k__law_by_mean (hr.mono (by decide)) pass0 rfl (sa_cons (vr 2) sa_nil)))
  (sss_one (ss_ret kB))
  sss_nil)))
  (sss_cons (ss_for own_cx rfl (si_range1 rfl b_range_ (b_max2 rfl kI (b_min2 rfl (b_len (vr 0) b_len_) kI b_min_) b_max_)) (t_n 3 hN)
  (sss_cons (ss_set hN rfl (.inl rfl) (se_call k__law_well (hr.mono (by decide)) pass0 rfl (sa_cons (vr 0) (sa_cons (vr 3) sa_nil))))
  (sss_one (ss_for own_cx rfl (si_range1 rfl b_range_ kI) (t_n 5 hN)
  (sss_cons (ss_set hN rfl (.inl rfl) (r_add kI (se_call k__law_take (hr.mono (by decide)) pass0 rfl (sa_cons (vr 4) (sa_cons kI sa_nil)))))
  (sss_cons (ss_set hN rfl (.inl rfl) (se_if (c_c (o_eq hu) (se_call k__law_take (hr.mono (by decide)) pass0 rfl (sa_cons (vr 4) (sa_cons kI sa_nil))) kI) (se_call k_row_form_count (hr.mono (by decide)) pass0 rfl (sa_cons (vr 2) sa_nil)) (se_callK0 k_row_form_count (hr.mono (by decide)) pass0 rfl q_row_form_count_0_number rfl (sk_cons (vr 2) sk_nil))))
  (sss_one (ss_if (sc_not (sc_tru (se_call k__law_same (hr.mono (by decide)) pass0 rfl (sa_cons (vr 6) (sa_cons (m_get2 hu (vr 1) (vr 2) (se_call k__law_by_mean (hr.mono (by decide)) pass0 rfl (sa_cons (vr 2) sa_nil))) sa_nil)))))
  (sss_one (ss_ret kB))
  sss_nil))))))))
  (sss_one (ss_ret (SB.se (sb_and (SE.sb (se_call k__law_same (hr.mono (by decide)) pass0 rfl (sa_cons (se_ofL (sl_lc rfl hN (own := [("many", 2)]) (si_range2 rfl b_range_ kI kI) (blkOk_by (N := ["script", "known", "many", "turn", "well", "again", "told"]) (sc := defScope (top 35)) (by decide +kernel)) (fun _ => (t_n 2 hN)) (fun _ => sts_nil) (fun _ => (se_call k_row_form_count (hr.mono (by decide)) pass0 rfl (sa_cons (vr 2) sa_nil))))) (sa_cons (se_ofL (sl_lc rfl hN (own := [("many", 2)]) (si_range2 rfl b_range_ kI kI) (blkOk_by (N := ["script", "known", "many", "turn", "well", "again", "told"]) (sc := defScope (top 35)) (by decide +kernel)) (fun _ => (t_n 2 hN)) (fun _ => sts_nil) (fun _ => (se_call k__law_by_mean (hr.mono (by decide)) pass0 rfl (sa_cons (vr 2) sa_nil))))) sa_nil)))) (sb_one (b_c (o_eq hu) (se_call k_row_form_count (hr.mono (by decide)) pass0 rfl (sa_cons kI sa_nil)) kI))))))))))
end
/-! ### the head -/
def d_is_whole : He.DefD := ⟨("is_whole", none), "is_whole", "is_whole", defArgs (top 5), defBody (top 5), defScope (top 5), [], []⟩
def d_is_between : He.DefD := ⟨("is_between", none), "is_between", "is_between", defArgs (top 6), defBody (top 6), defScope (top 6), [], []⟩
def d_factorial_of : He.DefD := ⟨("factorial_of", none), "factorial_of", "factorial_of", defArgs (top 7), defBody (top 7), defScope (top 7), [], []⟩
def d_is_ring : He.DefD := ⟨("is_ring", none), "is_ring", "is_ring", defArgs (top 14), defBody (top 14), defScope (top 14), [], []⟩
def d_units_of : He.DefD := ⟨("units_of", none), "units_of", "units_of", defArgs (top 15), defBody (top 15), defScope (top 15), [], []⟩
def d_motions_of : He.DefD := ⟨("motions_of", none), "motions_of", "motions_of", defArgs (top 16), defBody (top 16), defScope (top 16), [], []⟩
def d_led_tone : He.DefD := ⟨("led_tone", none), "led_tone", "led_tone", defArgs (top 17), defBody (top 17), defScope (top 17), [], []⟩
def d_check_ring : He.DefD := ⟨("check_ring", none), "check_ring", "check_ring", defArgs (top 19), defBody (top 19), defScope (top 19), [], []⟩
def d_does_turn_rows : He.DefD := ⟨("does_turn_rows", none), "does_turn_rows", "does_turn_rows", defArgs (top 21), defBody (top 21), defScope (top 21), [], []⟩
def d_row_form_count_of : He.DefD := ⟨("row_form_count_of", none), "row_form_count_of", "row_form_count_of", defArgs (top 22), defBody (top 22), defScope (top 22), [], []⟩
def d_row_form_count : He.DefD := ⟨("row_form_count", none), "row_form_count", "row_form_count", defArgs (top 24), defBody (top 24), defScope (top 24), [], []⟩
def d__law_well : He.DefD := ⟨("_law_well", none), "_law_well", "_law_well", defArgs (top 26), defBody (top 26), defScope (top 26), [], []⟩
def d__law_take : He.DefD := ⟨("_law_take", none), "_law_take", "_law_take", defArgs (top 27), defBody (top 27), defScope (top 27), [], []⟩
def d__law_same : He.DefD := ⟨("_law_same", none), "_law_same", "_law_same", defArgs (top 28), defBody (top 28), defScope (top 28), [], []⟩
def d__law_moved : He.DefD := ⟨("_law_moved", none), "_law_moved", "_law_moved", defArgs (top 29), defBody (top 29), defScope (top 29), [], []⟩
def d__law_forms : He.DefD := ⟨("_law_forms", none), "_law_forms", "_law_forms", defArgs (top 30), defBody (top 30), defScope (top 30), [], []⟩
def d__law_all_rows : He.DefD := ⟨("_law_all_rows", none), "_law_all_rows", "_law_all_rows", defArgs (top 31), defBody (top 31), defScope (top 31), [], []⟩
def d__law_factorial : He.DefD := ⟨("_law_factorial", none), "_law_factorial", "_law_factorial", defArgs (top 32), defBody (top 32), defScope (top 32), [], []⟩
def d__law_by_mean : He.DefD := ⟨("_law_by_mean", none), "_law_by_mean", "_law_by_mean", defArgs (top 33), defBody (top 33), defScope (top 33), [], []⟩
def d__law_by_parts : He.DefD := ⟨("_law_by_parts", none), "_law_by_parts", "_law_by_parts", defArgs (top 34), defBody (top 34), defScope (top 34), [], []⟩
def d_law : He.DefD := ⟨("law", none), "law", "law", defArgs (top 35), defBody (top 35), defScope (top 35), [], []⟩
def fn : List He.DefD := [d_is_whole, d_is_between, d_factorial_of, d_is_ring, d_units_of, d_motions_of, d_led_tone, d_check_ring, d_does_turn_rows, d_row_form_count_of, d_row_form_count, d__law_well, d__law_take, d__law_same, d__law_moved, d__law_forms, d__law_all_rows, d__law_factorial, d__law_by_mean, d__law_by_parts, d_law]
def fa : List He.Fa := [.glo "is_whole", .glo "is_between", .glo "factorial_of", .glo "is_ring", .glo "units_of", .glo "motions_of", .glo "led_tone", .glo "check_ring", .glo "does_turn_rows", .glo "row_form_count_of", .glo "row_form_count", .glo "_law_well", .glo "_law_take", .glo "_law_same", .glo "_law_moved", .glo "_law_forms", .glo "_law_all_rows", .glo "_law_factorial", .glo "_law_by_mean", .glo "_law_by_parts", .glo "law", .free "isinstance", .free "int", .free "bool", .free "range", .free "len", .free "sum", .free "abs", .free "divmod", .free "tuple", .free "list", .free "all", .free "str", .free "sorted", .free "dict", .free "min", .free "max", .int "FEWEST" 3, .int "MOST" 12, .str "RAISE" "raise", .str "TURN" "turn", .str "UNIT" "unit"]
def fb : List (PySem.Str × String) := [("gcd", "math.gcd")]
def Ll0 : List PySem.Str := ["ToneError", "InvalidNumber", "is_whole", "is_between", "factorial_of", "FEWEST", "MOST", "RAISE", "TURN", "UNIT", "is_ring", "units_of", "motions_of", "led_tone", "check_ring", "does_turn_rows", "row_form_count_of", "row_form_count", "_law_well", "_law_take", "_law_same", "_law_moved", "_law_forms", "_law_all_rows", "_law_factorial", "_law_by_mean", "_law_by_parts"]
abbrev R : PySem.W.OpenRow := PySem.W.OpenLaw.row PySem.Challenge.rw_ringtones_k51_row_form_counts
abbrev hk : PySem.W.Hook := hookL 5 fa fn fb
def ob (s : PySem.W.SharedT) : AlL := obsLG 5 fa fn fb (HandSHeadRun.getT s)
theorem ob_eq (s : PySem.W.SharedT) : ob s = hk.obs s.abs := obsLG_eq (HandSHeadRun.getT_eq s)
theorem run (w : World) : HandSHeadRun.RunEqI R (PySem.W.view R.prog [0, 35]) hk ob 20000 (Ll0) w := by
  unfold HandSHeadRun.RunEqI
  kernel_rfl
theorem facts {P : Program} {w : World} {K : PySem.W.Frag} {h : Heap} {mg : PySem.Str → Option Value} {f : Addr} (X : K.In h) (G : h.Ns mainGlobals mg) (hfa : mg ("law" : PySem.Str) = some (.ref f)) (c : He.SaysD fa fn K) (cb : bfOk fb K = true) :
    ∃ fd : FuncData, (∀ (s : Shared) (v : Value), BindsTo s fd ⟨[v], []⟩ [("script", v)]) ∧ ∀ base : Heap, K.In base → base.Ns mainGlobals mg → FnOk P w K mg base CX0 21 f fd ["script"] (spOf g0 f_law) := by
  obtain ⟨fd_is_whole_, F_is_whole⟩ := c.def_ 0 (d := d_is_whole) rfl
  obtain ⟨fd_is_between_, F_is_between⟩ := c.def_ 1 (d := d_is_between) rfl
  obtain ⟨fd_factorial_of_, F_factorial_of⟩ := c.def_ 2 (d := d_factorial_of) rfl
  obtain ⟨fd_is_ring_, F_is_ring⟩ := c.def_ 3 (d := d_is_ring) rfl
  obtain ⟨fd_units_of_, F_units_of⟩ := c.def_ 4 (d := d_units_of) rfl
  obtain ⟨fd_motions_of_, F_motions_of⟩ := c.def_ 5 (d := d_motions_of) rfl
  obtain ⟨fd_led_tone_, F_led_tone⟩ := c.def_ 6 (d := d_led_tone) rfl
  obtain ⟨fd_check_ring_, F_check_ring⟩ := c.def_ 7 (d := d_check_ring) rfl
  obtain ⟨fd_does_turn_rows_, F_does_turn_rows⟩ := c.def_ 8 (d := d_does_turn_rows) rfl
  obtain ⟨fd_row_form_count_of_, F_row_form_count_of⟩ := c.def_ 9 (d := d_row_form_count_of) rfl
  obtain ⟨fd_row_form_count_, F_row_form_count⟩ := c.def_ 10 (d := d_row_form_count) rfl
  obtain ⟨fd__law_well_, F__law_well⟩ := c.def_ 11 (d := d__law_well) rfl
  obtain ⟨fd__law_take_, F__law_take⟩ := c.def_ 12 (d := d__law_take) rfl
  obtain ⟨fd__law_same_, F__law_same⟩ := c.def_ 13 (d := d__law_same) rfl
  obtain ⟨fd__law_moved_, F__law_moved⟩ := c.def_ 14 (d := d__law_moved) rfl
  obtain ⟨fd__law_forms_, F__law_forms⟩ := c.def_ 15 (d := d__law_forms) rfl
  obtain ⟨fd__law_all_rows_, F__law_all_rows⟩ := c.def_ 16 (d := d__law_all_rows) rfl
  obtain ⟨fd__law_factorial_, F__law_factorial⟩ := c.def_ 17 (d := d__law_factorial) rfl
  obtain ⟨fd__law_by_mean_, F__law_by_mean⟩ := c.def_ 18 (d := d__law_by_mean) rfl
  obtain ⟨fd__law_by_parts_, F__law_by_parts⟩ := c.def_ 19 (d := d__law_by_parts) rfl
  obtain ⟨fd_law_, F_law⟩ := c.def_ 20 (d := d_law) rfl
  have g_is_whole := He.glo_ok X G (c.fact 0 (f := .glo "is_whole") rfl)
  have g_is_between := He.glo_ok X G (c.fact 1 (f := .glo "is_between") rfl)
  have g_factorial_of := He.glo_ok X G (c.fact 2 (f := .glo "factorial_of") rfl)
  have g_is_ring := He.glo_ok X G (c.fact 3 (f := .glo "is_ring") rfl)
  have g_units_of := He.glo_ok X G (c.fact 4 (f := .glo "units_of") rfl)
  have g_motions_of := He.glo_ok X G (c.fact 5 (f := .glo "motions_of") rfl)
  have g_led_tone := He.glo_ok X G (c.fact 6 (f := .glo "led_tone") rfl)
  have g_check_ring := He.glo_ok X G (c.fact 7 (f := .glo "check_ring") rfl)
  have g_does_turn_rows := He.glo_ok X G (c.fact 8 (f := .glo "does_turn_rows") rfl)
  have g_row_form_count_of := He.glo_ok X G (c.fact 9 (f := .glo "row_form_count_of") rfl)
  have g_row_form_count := He.glo_ok X G (c.fact 10 (f := .glo "row_form_count") rfl)
  have g__law_well := He.glo_ok X G (c.fact 11 (f := .glo "_law_well") rfl)
  have g__law_take := He.glo_ok X G (c.fact 12 (f := .glo "_law_take") rfl)
  have g__law_same := He.glo_ok X G (c.fact 13 (f := .glo "_law_same") rfl)
  have g__law_moved := He.glo_ok X G (c.fact 14 (f := .glo "_law_moved") rfl)
  have g__law_forms := He.glo_ok X G (c.fact 15 (f := .glo "_law_forms") rfl)
  have g__law_all_rows := He.glo_ok X G (c.fact 16 (f := .glo "_law_all_rows") rfl)
  have g__law_factorial := He.glo_ok X G (c.fact 17 (f := .glo "_law_factorial") rfl)
  have g__law_by_mean := He.glo_ok X G (c.fact 18 (f := .glo "_law_by_mean") rfl)
  have g__law_by_parts := He.glo_ok X G (c.fact 19 (f := .glo "_law_by_parts") rfl)
  have g_law := He.glo_ok X G (c.fact 20 (f := .glo "law") rfl)
  have b_isinstance_ := He.free_ok X G (c.fact 21 (f := .free "isinstance") rfl)
  have b_int_ := He.free_ok X G (c.fact 22 (f := .free "int") rfl)
  have b_bool_ := He.free_ok X G (c.fact 23 (f := .free "bool") rfl)
  have b_range_ := He.free_ok X G (c.fact 24 (f := .free "range") rfl)
  have b_len_ := He.free_ok X G (c.fact 25 (f := .free "len") rfl)
  have b_sum_ := He.free_ok X G (c.fact 26 (f := .free "sum") rfl)
  have b_abs_ := He.free_ok X G (c.fact 27 (f := .free "abs") rfl)
  have b_divmod_ := He.free_ok X G (c.fact 28 (f := .free "divmod") rfl)
  have b_tuple_ := He.free_ok X G (c.fact 29 (f := .free "tuple") rfl)
  have b_list_ := He.free_ok X G (c.fact 30 (f := .free "list") rfl)
  have b_all_ := He.free_ok X G (c.fact 31 (f := .free "all") rfl)
  have b_str_ := He.free_ok X G (c.fact 32 (f := .free "str") rfl)
  have b_sorted_ := He.free_ok X G (c.fact 33 (f := .free "sorted") rfl)
  have b_dict_ := He.free_ok X G (c.fact 34 (f := .free "dict") rfl)
  have b_min_ := He.free_ok X G (c.fact 35 (f := .free "min") rfl)
  have b_max_ := He.free_ok X G (c.fact 36 (f := .free "max") rfl)
  have c_FEWEST := He.int_ok X G (c.fact 37 (f := .int "FEWEST" 3) rfl)
  have c_MOST := He.int_ok X G (c.fact 38 (f := .int "MOST" 12) rfl)
  have c_RAISE := He.str_ok X G (c.fact 39 (f := .str "RAISE" "raise") rfl)
  have c_TURN := He.str_ok X G (c.fact 40 (f := .str "TURN" "turn") rfl)
  have c_UNIT := He.str_ok X G (c.fact 41 (f := .str "UNIT" "unit") rfl)
  have m_gcd : mg "gcd" = some (.builtin "math.gcd") := bf_ok X G cb (by simp [fb])
  have e := hfa.symm.trans g_law
  cases e
  have n_is_whole : Binds K fd_is_whole_ ["value"] [] := FunD.bindsN F_is_whole fun _ _ _ _ _ _ us hl => match us, hl with | [_], _ => rfl
  have n_is_between : Binds K fd_is_between_ ["value", "low", "high"] [] := FunD.bindsN F_is_between fun _ _ _ _ _ _ us hl => match us, hl with | [_, _, _], _ => rfl
  have n_factorial_of : Binds K fd_factorial_of_ ["number"] [] := FunD.bindsN F_factorial_of fun _ _ _ _ _ _ us hl => match us, hl with | [_], _ => rfl
  have n_is_ring : Binds K fd_is_ring_ ["value"] [] := FunD.bindsN F_is_ring fun _ _ _ _ _ _ us hl => match us, hl with | [_], _ => rfl
  have n_units_of : Binds K fd_units_of_ ["ring"] [] := FunD.bindsN F_units_of fun _ _ _ _ _ _ us hl => match us, hl with | [_], _ => rfl
  have n_motions_of : Binds K fd_motions_of_ ["ring", "kind"] [] := FunD.bindsN F_motions_of fun _ _ _ _ _ _ us hl => match us, hl with | [_, _], _ => rfl
  have n_led_tone : Binds K fd_led_tone_ ["ring", "tone", "motion"] [] := FunD.bindsN F_led_tone fun _ _ _ _ _ _ us hl => match us, hl with | [_, _, _], _ => rfl
  have n_check_ring : Binds K fd_check_ring_ ["number"] [] := FunD.bindsN F_check_ring fun _ _ _ _ _ _ us hl => match us, hl with | [_], _ => rfl
  have n_does_turn_rows : Binds K fd_does_turn_rows_ ["ring", "motion"] [] := FunD.bindsN F_does_turn_rows fun _ _ _ _ _ _ us hl => match us, hl with | [_, _], _ => rfl
  have n_row_form_count_of : Binds K fd_row_form_count_of_ ["ring"] [] := FunD.bindsN F_row_form_count_of fun _ _ _ _ _ _ us hl => match us, hl with | [_], _ => rfl
  have n_row_form_count : Binds K fd_row_form_count_ ["number"] [] := FunD.bindsN F_row_form_count fun _ _ _ _ _ _ us hl => match us, hl with | [_], _ => rfl
  have n__law_well : Binds K fd__law_well_ ["script", "turn"] [] := FunD.bindsN F__law_well fun _ _ _ _ _ _ us hl => match us, hl with | [_, _], _ => rfl
  have n__law_take : Binds K fd__law_take_ ["well", "many"] [] := FunD.bindsN F__law_take fun _ _ _ _ _ _ us hl => match us, hl with | [_, _], _ => rfl
  have n__law_same : Binds K fd__law_same_ ["told", "due"] [] := FunD.bindsN F__law_same fun _ _ _ _ _ _ us hl => match us, hl with | [_, _], _ => rfl
  have n__law_moved : Binds K fd__law_moved_ ["row", "motion"] [] := FunD.bindsN F__law_moved fun _ _ _ _ _ _ us hl => match us, hl with | [_, _], _ => rfl
  have n__law_forms : Binds K fd__law_forms_ ["row"] [] := FunD.bindsN F__law_forms fun _ _ _ _ _ _ us hl => match us, hl with | [_], _ => rfl
  have n__law_all_rows : Binds K fd__law_all_rows_ ["many"] [] := FunD.bindsN F__law_all_rows fun _ _ _ _ _ _ us hl => match us, hl with | [_], _ => rfl
  have n__law_factorial : Binds K fd__law_factorial_ ["many"] [] := FunD.bindsN F__law_factorial fun _ _ _ _ _ _ us hl => match us, hl with | [_], _ => rfl
  have n__law_by_mean : Binds K fd__law_by_mean_ ["many"] [] := FunD.bindsN F__law_by_mean fun _ _ _ _ _ _ us hl => match us, hl with | [_], _ => rfl
  have n__law_by_parts : Binds K fd__law_by_parts_ ["many"] [] := FunD.bindsN F__law_by_parts fun _ _ _ _ _ _ us hl => match us, hl with | [_], _ => rfl
  have n_law : Binds K fd_law_ ["script"] [] := FunD.bindsN F_law fun _ _ _ _ _ _ us hl => match us, hl with | [_], _ => rfl
  have q_row_form_count_0_number : KBn K fd_row_form_count_ ["number"] 0 ["number"] (gsel Value.none [0]) (gsel V.non [0])   := kbn_of (x := "row_form_count") (st := top 24) F_row_form_count 0 ["number"] [0] fun _ _ _ _ _ _ us ws hl hm => match us, ws, hl, hm with | [], [_], _, _ => rfl
  have b := FunD.bindsA (ps := ["script"]) F_law fun _ _ _ _ _ _ us hl => match us, hl with | [_], _ => rfl
  refine ⟨fd_law_, fun s v => b s [v] rfl, fun base _ _ => ?_⟩
  have k_is_whole : Kn P w K mg base CX0 g0 1 "is_whole" _ fd_is_whole_ ["value"] f_is_whole := ⟨ok_is_whole F_is_whole b_isinstance_ b_int_ b_bool_, g_is_whole, F_is_whole.kp, n_is_whole⟩
  have k_is_between : Kn P w K mg base CX0 g0 2 "is_between" _ fd_is_between_ ["value", "low", "high"] f_is_between := ⟨ok_is_between F_is_between k_is_whole, g_is_between, F_is_between.kp, n_is_between⟩
  have k_factorial_of : Kn P w K mg base CX0 g0 1 "factorial_of" _ fd_factorial_of_ ["number"] f_factorial_of := ⟨ok_factorial_of F_factorial_of b_range_, g_factorial_of, F_factorial_of.kp, n_factorial_of⟩
  have k_is_ring : Kn P w K mg base CX0 g0 3 "is_ring" _ fd_is_ring_ ["value"] f_is_ring := ⟨ok_is_ring F_is_ring c_FEWEST c_MOST k_is_between, g_is_ring, F_is_ring.kp, n_is_ring⟩
  have k_units_of : Kn P w K mg base CX0 g0 1 "units_of" _ fd_units_of_ ["ring"] f_units_of := ⟨ok_units_of F_units_of b_range_ m_gcd, g_units_of, F_units_of.kp, n_units_of⟩
  have k_motions_of : Kn P w K mg base CX0 g0 2 "motions_of" _ fd_motions_of_ ["ring", "kind"] f_motions_of := ⟨ok_motions_of F_motions_of b_range_ c_RAISE c_TURN c_UNIT k_units_of, g_motions_of, F_motions_of.kp, n_motions_of⟩
  have k_led_tone : Kn P w K mg base CX0 g0 1 "led_tone" _ fd_led_tone_ ["ring", "tone", "motion"] f_led_tone := ⟨ok_led_tone F_led_tone , g_led_tone, F_led_tone.kp, n_led_tone⟩
  have k_check_ring : Kn P w K mg base CX0 g0 4 "check_ring" _ fd_check_ring_ ["number"] f_check_ring := ⟨ok_check_ring F_check_ring k_is_ring, g_check_ring, F_check_ring.kp, n_check_ring⟩
  have k_does_turn_rows : Kn P w K mg base CX0 g0 2 "does_turn_rows" _ fd_does_turn_rows_ ["ring", "motion"] f_does_turn_rows := ⟨ok_does_turn_rows F_does_turn_rows b_range_ b_len_ k_led_tone, g_does_turn_rows, F_does_turn_rows.kp, n_does_turn_rows⟩
  have k_row_form_count_of : Kn P w K mg base CX0 g0 3 "row_form_count_of" _ fd_row_form_count_of_ ["ring"] f_row_form_count_of := ⟨ok_row_form_count_of F_row_form_count_of b_len_ c_TURN k_motions_of k_does_turn_rows k_factorial_of, g_row_form_count_of, F_row_form_count_of.kp, n_row_form_count_of⟩
  have k_row_form_count : Kn P w K mg base CX0 g0 5 "row_form_count" _ fd_row_form_count_ ["number"] f_row_form_count := ⟨ok_row_form_count F_row_form_count k_check_ring k_row_form_count_of, g_row_form_count, F_row_form_count.kp, n_row_form_count⟩
  have k__law_well : Kn P w K mg base CX0 g0 1 "_law_well" _ fd__law_well_ ["script", "turn"] g_well := ⟨ok__law_well F__law_well b_len_ b_int_ b_sum_ b_abs_, g__law_well, F__law_well.kp, n__law_well⟩
  have k__law_take : Kn P w K mg base CX0 g0 1 "_law_take" _ fd__law_take_ ["well", "many"] g_take := ⟨ok__law_take F__law_take b_divmod_ b_int_, g__law_take, F__law_take.kp, n__law_take⟩
  have k__law_same : Kn P w K mg base CX0 g0 20 "_law_same" _ fd__law_same_ ["told", "due"] (g_same 20) := ⟨ok__law_same 20 F__law_same g__law_same n__law_same b_isinstance_ b_tuple_ b_list_ b_len_ b_range_ b_all_ b_bool_ b_int_ b_str_, g__law_same, F__law_same.kp, n__law_same⟩
  have k__law_moved : Kn P w K mg base CX0 g0 1 "_law_moved" _ fd__law_moved_ ["row", "motion"] g_moved := ⟨ok__law_moved F__law_moved b_int_ b_tuple_, g__law_moved, F__law_moved.kp, n__law_moved⟩
  have k__law_forms : Kn P w K mg base CX0 g0 2 "_law_forms" _ fd__law_forms_ ["row"] g_forms := ⟨ok__law_forms F__law_forms b_len_ b_range_ b_list_ b_sorted_ b_tuple_ k__law_moved, g__law_forms, F__law_forms.kp, n__law_forms⟩
  have k__law_all_rows : Kn P w K mg base CX0 g0 1 "_law_all_rows" _ fd__law_all_rows_ ["many"] g_all_rows := ⟨ok__law_all_rows F__law_all_rows b_range_, g__law_all_rows, F__law_all_rows.kp, n__law_all_rows⟩
  have k__law_factorial : Kn P w K mg base CX0 g0 1 "_law_factorial" _ fd__law_factorial_ ["many"] g_factorial := ⟨ok__law_factorial F__law_factorial b_range_, g__law_factorial, F__law_factorial.kp, n__law_factorial⟩
  have k__law_by_mean : Kn P w K mg base CX0 g0 2 "_law_by_mean" _ fd__law_by_mean_ ["many"] g_by_mean := ⟨ok__law_by_mean F__law_by_mean b_range_ b_int_ k__law_factorial, g__law_by_mean, F__law_by_mean.kp, n__law_by_mean⟩
  have k__law_by_parts : Kn P w K mg base CX0 g0 3 "_law_by_parts" _ fd__law_by_parts_ ["many"] g_by_parts := ⟨ok__law_by_parts F__law_by_parts k__law_all_rows k__law_forms, g__law_by_parts, F__law_by_parts.kp, n__law_by_parts⟩
  exact ok_law F_law b_range_ b_dict_ b_len_ b_min_ b_max_ k__law_by_parts k__law_by_mean k__law_well k__law_take k_row_form_count k__law_same q_row_form_count_0_number
/-! ### it holds -/
theorem keeps : Good63 f_law := Kw.keeps
end Lw
open PySem PySem.W PySem.Calls PyProof.Rows in
theorem PySem.Challenge.cw_ringtones_k51_row_form_counts_holds : PySem.Challenge.rw_ringtones_k51_row_form_counts.Holds := by
  w_on; o_law
  refine HandSHeadRun.head_imp (r := Lw.R) (q := view Lw.R.prog [0, 35]) (H := Lw.hk) (ob := Lw.ob) (M := 20000) (loose := Lw.Ll0) (d := HandSHeadRun.topDef Lw.R.prog 35) (kwd := []) Lw.ob_eq
    Lw.run (by kernel_rfl) (by kernel_rfl) (by kernel_rfl) (by rfl) (by first | assumption | decide +kernel) (by decide +kernel) ⟨rfl, rfl, rfl, rfl, rfl, by decide +kernel⟩ ?hw ?hc
  case hw => w_witness2
  case hc =>
    refine L2.walk_ofE (l := PySem.Challenge.rw_ringtones_k51_row_form_counts) (n := 63) (k := 21) (x := "script") (CX := L2.CX0) rfl (by decide) (by kernel_rfl) ⟨rfl, by decide, by decide⟩ ?F (fun _ _ _ _ z => z)
    intro w mg fa h Y G hmg0
    obtain ⟨K, KX, c, cb⟩ := Y
    obtain ⟨hk, cb⟩ := Bool.and_eq_true_iff.mp cb
    have hmg : mg ("law" : PySem.Str) = some (.ref fa) := by
      have e : (HandSHeadRun.topDef Lw.R.prog 35).name = ("law" : PySem.Str) := by kernel_rfl
      rw [← e]
      exact hmg0
    obtain ⟨fd, hb, hF⟩ := Lw.facts (P := (PySem.Challenge.rw_ringtones_k51_row_form_counts).prog) (w := w) KX G hmg c cb
    exact ⟨K, fd, Rt.spOf Lw.g0 Lw.f_law, KX, hb, fun H a ns hl hO hS => Rt.law_sp Lw.keeps hk H a ns hl hO hS, hF⟩
