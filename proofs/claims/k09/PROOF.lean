import PyProof.Rows.All
import Wide.All
import OpenK.AllK
import Wide.FinOn
import HandS.Base
import HandS.Call
import HandS.List
import HandS.Dict
import HandS.Exc
import HandS.ExcOwn
import HandS.Wide
import HandS.TupMul
import HandS.IsInst
import HandS.Comp
import PyProof.P3Eq
import HandS.TupAny
import HandS.Text
import KE.SortData
import HandS.WordsDict
import HandS.RaiseMore
import HandS.More
import HandS.ExcCtx
import HandS.Ends
import HandS.EndOwn
import HandS.ExcIs
import HandS.ExcField
import KE.KExcIs
import HandS.Deep
import HandS.Style
import HandS.Conv
import HandS.Iter
import KE.GoesEnum
import PyProof.ReprRoads
import PyProof.ReprLen
import PyProof.CallFns
import PyProof.Rows.RegStrFacts
import HandS.ExcInit
import KE.KExcSuper
import KE.KSuper
import HandS.Words
import PySem.Challenge.RW_wheelrace_k09_errors
section
/-! Mini: a small Python on plain data. Containers are values; a variable may own one; cells are shared.
    An evaluator by structural recursion over the syntax, the calls of defs given. -/
namespace Mp

inductive D where
  | non | bl (b : Bool) | int (i : Int) | str (s : List Nat)
  | tup (xs : List D) | lst (xs : List D) | dct (kvs : List (D × D)) | set (xs : List D)
  | obj (c : Nat) (fs : List (Nat × D)) | ref (n : Nat) | fn (f : Nat) | scr (xs : List Int) | bad
  deriving Inhabited

/-- a value: data; a container just made (or owned by its variable); one that is only looked at; a caught exception -/
inductive Val where
  | dat (d : D) | new (d : D) | bor (d : D) | xv (c : Nat) (fs : List (Nat × D))
  deriving Inhabited
abbrev Env := List (Option Val)
abbrev Sto := List D
structure Exc where
  c : Nat
  fs : List (Nat × D)

inductive ER (α : Type) where
  | ok (a : α) (st : Sto) | ex (x : Exc) (st : Sto) | bad
inductive SR where
  | nx (E : Env) (st : Sto) | rt (v : Val) (st : Sto) | bk (E : Env) (st : Sto) | ct (E : Env) (st : Sto) | ex (x : Exc) (E : Env) (st : Sto) | bad

def Val.d : Val → D | .dat d => d | .new d => d | .bor d => d | .xv _ _ => .bad
/-- as a result: what a variable owned is handed over -/
def Val.out : Val → Val | .bor d => .new d | .xv _ _ => .dat .bad | v => v
/-- as data that may be kept -/
def D.isSet : D → Bool | .set _ => true | _ => false
def Val.kp : Val → Option D | .dat d => some d | .new d => if d.isSet then none else some d | .bor _ => none | .xv _ _ => none

/-- what a walk goes over: kept (k), or looked at -/
def Val.it (k : Bool) (v : Val) : Option D := if k then v.kp else match v with | .xv _ _ => none | v => some v.d
def ER.bind {α β : Type} (r : ER α) (f : α → Sto → ER β) : ER β := match r with | .ok a st => f a st | .ex x st => .ex x st | .bad => .bad
/-- by a truth -/
def ifV {α : Type} (v : Val) (x y z : α) : α := match v with | .dat (.bl b) => if b then x else y | _ => z
def D.isNon : D → Option Bool | .non => some true | .bad => none | _ => some false
def SR.seq (r : SR) (k : Env → Sto → SR) : SR := match r with | .nx E st => k E st | r => r
/-- a turn's end -/
def SR.lp (r : SR) (k : Env → Sto → SR) : SR := match r with | .nx E st => k E st | .ct E st => k E st | .bk E st => .nx E st | r => r
def SR.try (r : SR) (k : Exc → Env → Sto → SR) : SR := match r with | .ex x E st => k x E st | r => r
/-- no error leaves -/
def ER.nox {α : Type} (r : ER α) : ER α := match r with | .ex _ _ => .bad | r => r
def SR.nox (r : SR) : SR := match r with | .ex _ _ _ => .bad | r => r
/-- a suite's end, its name let go -/
def SR.del (r : SR) (i : Nat) : SR := match r with | .nx E st => .nx (E.set i none) st | .bk E st => .bk (E.set i none) st | .ct E st => .ct (E.set i none) st | r => r
/-- a suite's end, the error raised again -/
def SR.rer (r : SR) (x : Exc) : SR := match r with | .nx E st => .ex x E st | _ => .bad
def ER.opt {α : Type} (o : Option α) (st : Sto) : ER α := match o with | some a => .ok a st | none => .bad

/-! ### comparisons -/
def b2i (b : Bool) : Int := if b then 1 else 0
mutual
/-- plain data of at most that depth -/
def pd : D → Nat → Bool
  | .non, _ => true
  | .bl _, _ => true
  | .int _, _ => true
  | .str _, _ => true
  | .tup xs, n => match n with | 0 => false | n + 1 => pdL xs n
  | .lst xs, n => match n with | 0 => false | n + 1 => pdL xs n
  | .dct _, _ => false
  | .set _, _ => false
  | .obj _ _, _ => false
  | .ref _, _ => false
  | .fn _, _ => false
  | .scr _, _ => false
  | .bad, _ => false
def pdL : List D → Nat → Bool
  | [], _ => true
  | x :: r, n => pd x n && pdL r n
end
def pdMax : Nat := 40
mutual
/-- == of plain data -/
def eqD : D → D → Bool
  | .non, d => match d with | .non => true | _ => false
  | .bl a, d => match d with | .bl b => a == b | .int i => b2i a == i | _ => false
  | .int i, d => match d with | .int j => i == j | .bl b => i == b2i b | _ => false
  | .str a, d => match d with | .str b => a == b | _ => false
  | .tup a, d => match d with | .tup b => eqL a b | _ => false
  | .lst a, d => match d with | .lst b => eqL a b | _ => false
  | .dct _, _ => false
  | .set _, _ => false
  | .obj _ _, _ => false
  | .ref _, _ => false
  | .fn _, _ => false
  | .scr _, _ => false
  | .bad, _ => false
def eqL : List D → List D → Bool
  | [], l => match l with | [] => true | _ => false
  | x :: xs, l => match l with | [] => false | y :: ys => eqD x y && eqL xs ys
end
def eqT (a b : D) : Option Bool := if pd a pdMax && pd b pdMax then some (eqD a b) else none

def ltS : List Nat → List Nat → Bool
  | [], [] => false
  | [], _ :: _ => true
  | _ :: _, [] => false
  | a :: as, b :: bs => if a < b then true else if a == b then ltS as bs else false
def numD : D → Option Int | .int i => some i | _ => none
mutual
/-- < of plain data, where there is one -/
def ltD : D → D → Option Bool
  | .int i, d => match d with | .int j => some (decide (i < j)) | _ => none
  | .str a, d => match d with | .str b => some (ltS a b) | _ => none
  | .tup a, d => match d with | .tup b => ltL a b | _ => none
  | .lst a, d => match d with | .lst b => ltL a b | _ => none
  | _, _ => none
def ltL : List D → List D → Option Bool
  | [], l => match l with | [] => some false | _ => some true
  | x :: xs, l => match l with | [] => some false | y :: ys => if eqD x y then ltL xs ys else ltD x y
end
def ltT (a b : D) : Option Bool := if pd a pdMax && pd b pdMax then ltD a b else none
mutual
/-- the same structure at every place (what repr tells) -/
def same : D → D → Bool
  | .non, .non => true
  | .bl a, .bl b => a == b
  | .int a, .int b => a == b
  | .str a, .str b => a == b
  | .tup a, .tup b => sameL a b
  | .lst a, .lst b => sameL a b
  | _, _ => false
def sameL : List D → List D → Bool
  | [], [] => true
  | x :: xs, y :: ys => same x y && sameL xs ys
  | _, _ => false
end

mutual
/-- how long it is, told -/
def wt : D → Nat
  | .int i => if i == 0 then 0 else i.natAbs.log2 + 1
  | .str s => s.length
  | .tup xs => wtL xs
  | .lst xs => wtL xs
  | _ => 0
def wtL : List D → Nat
  | [] => 0
  | x :: r => wt x + 1 + wtL r
end
mutual
/-- its ints are not great -/
def shO : D → Bool
  | .int i => decide (i.natAbs.log2 < 1920)
  | .tup xs => shOL xs
  | .lst xs => shOL xs
  | _ => true
def shOL : List D → Bool
  | [] => true
  | x :: r => shO x && shOL r
end
/-- may be told by repr -/
def repOk (d : D) : Bool := pd d pdMax && shO d && decide (wt d ≤ 8000)
/-! ### built-ins on data -/
def szMax : Nat := 5000000
def ltB (a b : D) : Bool := ltD a b == some true
mutual
/-- can be put in an order, place by place -/
def alD : D → D → Bool
  | .int _, d => match d with | .int _ => true | _ => false
  | .str _, d => match d with | .str _ => true | _ => false
  | .tup a, d => match d with | .tup b => alL a b | _ => false
  | .lst a, d => match d with | .lst b => alL a b | _ => false
  | _, _ => false
def alL : List D → List D → Bool
  | [], _ => true
  | x :: xs, l => match l with | [] => true | y :: ys => alD x y && alL xs ys
end
def tup1 : D → Bool | .tup (_ :: _) => true | _ => false
def noTup : D → Bool | .tup _ => false | .non => false | _ => true
/-- stable -/
def srt {α : Type} (lt : α → α → Bool) (xs : List α) : List α := xs.mergeSort fun a b => !lt b a
/-- all can be compared -/
def cmpOk (xs : List D) : Bool := (xs.all fun x => pd x pdMax && xs.all fun y => alD x y) && (xs.all tup1 || xs.all noTup)
/-- may be a key -/
def isKey : D → Bool
  | .int _ => true
  | .str _ => true
  | _ => false
def dGet (k : D) (kvs : List (D × D)) : Option D := (kvs.find? fun p => eqD p.1 k).map (·.2)
def dPut (k v : D) (l : List (D × D)) : List (D × D) := if (l.any fun p => eqD p.1 k) then l.map (fun p => if eqD p.1 k then (p.1, v) else p) else l ++ [(k, v)]
def pairOf : D → Option (D × D)
  | .tup [k, v] => if isKey k then some (k, v) else none
  | _ => none
def dOfL : List D → List (D × D) → Option (List (D × D))
  | [], acc => some acc
  | x :: r, acc => match pairOf x with | some (k, v) => dOfL r (dPut k v acc) | none => none
def allPd (xs : List D) : Bool := xs.all fun x => pd x pdMax
def memD (x : D) (ys : List D) : Option Bool := if pd x pdMax && allPd ys then some (ys.any fun y => eqD y x) else none
def uniqL (xs : List D) : List D := xs.foldl (fun acc x => if acc.any (fun y => eqD y x) then acc else acc ++ [x]) []
def uniq (xs : List D) : Option (List D) := if xs.all (fun x => match x with | .int _ => true | _ => false) || xs.all (fun x => match x with | .str _ => true | _ => false) then some (uniqL xs) else none
def idxAt (n : Nat) (i : Int) : Option Nat := if 0 ≤ i then (if i < n then some i.toNat else none) else if 0 ≤ i + n then some (i + n).toNat else none
def getAt {α : Type} (xs : List α) (i : Int) : Option α := match idxAt xs.length i with | some k => xs[k]? | none => none
def clampI (n : Nat) (i : Int) : Nat := if i < 0 then (i + n).toNat else min i.toNat n
def cut {α : Type} (xs : List α) (lo hi : Option Int) : List α :=
  let a := match lo with | some i => clampI xs.length i | none => 0
  let b := match hi with | some i => clampI xs.length i | none => xs.length
  (xs.take b).drop a
def digits (n : Nat) : List Nat := (Nat.toDigits 10 n).map Char.toNat
def strOfInt (i : Int) : List Nat := if i < 0 then 45 :: digits i.natAbs else digits i.natAbs
def joinS (sep : List Nat) : List (List Nat) → List Nat
  | [] => []
  | [x] => x
  | x :: r => x ++ sep ++ joinS sep r
def strs? : List D → Option (List (List Nat))
  | [] => some []
  | .str s :: r => (strs? r).map (s :: ·)
  | _ :: _ => none
def ints? : List D → Option (List Int)
  | [] => some []
  | .int i :: r => (ints? r).map (i :: ·)
  | _ :: _ => none
def bls? : List D → Option (List Bool)
  | [] => some []
  | .bl b :: r => (bls? r).map (b :: ·)
  | _ :: _ => none
def splitS (sep : Nat) : List Nat → List Nat → List (List Nat)
  | [], acc => [acc.reverse]
  | c :: r, acc => if c == sep then acc.reverse :: splitS sep r [] else splitS sep r (c :: acc)
/-- the first of the least, of the greatest -/
def minB : D → List D → D
  | x, [] => x
  | x, y :: r => if ltB y x then minB y r else minB x r
def maxB : D → List D → D
  | x, [] => x
  | x, y :: r => if ltB x y then maxB y r else maxB x r
def minD (x : D) (r : List D) : Option D := if cmpOk (x :: r) then some (minB x r) else none
def maxD (x : D) (r : List D) : Option D := if cmpOk (x :: r) then some (maxB x r) else none
def indexD (x : D) (ys : List D) : Option Nat := if pd x pdMax && allPd ys then ys.findIdx? (fun y => eqD y x) else none
def countD (x : D) (ys : List D) : Option Nat := if pd x pdMax && allPd ys then some (ys.countP fun y => eqD y x) else none
/-- the items that a walk over it yields -/
def itemsOf : D → Option (List D)
  | .lst xs => some xs
  | .tup xs => some xs
  | .str s => some (s.map fun c => .str [c])
  | _ => none
def seqOf : D → Option (List D)
  | .lst xs => some xs
  | .tup xs => some xs
  | _ => none

inductive Op where | add | sub | mul | fdiv | mod | pow
  deriving DecidableEq
inductive Cp where | eq | ne | lt | le | gt | ge | isin | notin
  deriving DecidableEq
inductive Ty where | int | bool | str | list | tuple | dict | cls (c : Nat) | verr | lerr | rerr
inductive BI where
  | list | len | abs | minA | maxA | minL | maxL | sum | sumS | all | any | sorted | set | tuple | dictP | str | int | index | count | get1 | get2 | join | split
  deriving DecidableEq

def big (i : Int) : Bool := decide (i.natAbs < 2 ^ 4000)
def repL {α : Type} (xs : List α) (n : Int) : Option (List α) := if xs.length * n.toNat ≤ szMax ∧ (-(2 ^ 63) ≤ n ∧ n < 2 ^ 63) ∧ True then some ((List.replicate n.toNat xs).flatten) else none
def binF : Op → D → D → Option Val
  | .add, .int a, .int b => some (.dat (.int (a + b)))
  | .add, .str a, .str b => if a.length + b.length ≤ szMax then some (.dat (.str (a ++ b))) else none
  | .add, .lst a, .lst b => if a.length + b.length ≤ szMax then some (.new (.lst (a ++ b))) else none
  | .add, .tup a, .tup b => if a.length + b.length ≤ szMax then some (.dat (.tup (a ++ b))) else none
  | .sub, .int a, .int b => some (.dat (.int (a - b)))
  | .mul, .int a, .int b => if big a && big b then some (.dat (.int (a * b))) else none
  | .mul, .lst a, .int n => (repL a n).map fun l => .new (.lst l)
  | .mul, .tup a, .int n => if a ≠ [] ∧ 1 ≤ n ∧ n ≤ 1000 ∧ a.length ≤ 1000 then some (.dat (.tup (List.replicate n.toNat a).flatten)) else none
  | .fdiv, .int a, .int b => if 0 < b ∧ big b = true then some (.dat (.int (a / b))) else none
  | .mod, .int a, .int b => if 0 < b then some (.dat (.int (a % b))) else none
  | .pow, .int a, .int b => if 0 ≤ b ∧ b ≤ 1000 ∧ a.natAbs < 2 ^ 64 then some (.dat (.int (a ^ b.toNat))) else none
  | _, _, _ => none
def augF : Op → D → D → Option D
  | .add, .int a, .int b => some (.int (a + b))
  | .sub, .int a, .int b => some (.int (a - b))
  | _, _, _ => none
def ordF (f : Int → Int → Bool) (g : Option Bool → Option Bool → Option Bool) (a b : D) : Option Bool := match numD a, numD b with
  | some i, some j => some (f i j)
  | _, _ => none
def cmpF : Cp → D → D → Option Bool
  | .eq, a, b => eqT a b
  | .ne, a, b => (eqT a b).map not
  | .lt, a, b => ordF (fun i j => decide (i < j)) (fun l _ => l) a b
  | .gt, a, b => ordF (fun i j => decide (j < i)) (fun _ g => g) a b
  | .le, a, b => ordF (fun i j => decide (i ≤ j)) (fun _ _ => none) a b
  | .ge, a, b => ordF (fun i j => decide (j ≤ i)) (fun _ _ => none) a b
  | .isin, a, .lst xs => memD a xs
  | .isin, a, .tup xs => memD a xs
  | .isin, .str a, .str b => match a with | [c] => some (b.contains c) | _ => none
  | .isin, a, .dct kvs => if isKey a then some (dGet a kvs).isSome else none
  | .notin, a, .lst xs => (memD a xs).map not
  | .notin, a, .tup xs => (memD a xs).map not
  | .notin, .str a, .str b => match a with | [c] => some (!b.contains c) | _ => none
  | .notin, a, .dct kvs => if isKey a then some (!(dGet a kvs).isSome) else none
  | _, _, _ => none
def getF : D → D → Option D
  | .lst xs, .int i => getAt xs i
  | .tup xs, .int i => getAt xs i
  | .scr xs, .int i => (getAt xs i).map .int
  | .str s, .int i => match idxAt s.length i with | some k => (s[k]?).map fun c => .str [c] | none => none
  | .dct kvs, k => if isKey k then dGet k kvs else none
  | _, _ => none
def slcF : D → Option Int → Option Int → Option Val
  | .lst xs, lo, hi => some (.new (.lst (cut xs lo hi)))
  | .tup xs, lo, hi => some (.dat (.tup (cut xs lo hi)))
  | .str s, lo, hi => some (.dat (.str (cut s lo hi)))
  | _, _, _ => none
def revF : D → Option Val
  | .lst xs => some (.new (.lst xs.reverse))
  | _ => none
def bi1 : BI → D → Option Val
  | .len, .lst xs => some (.dat (.int xs.length))
  | .len, .tup xs => some (.dat (.int xs.length))
  | .len, .str s => some (.dat (.int s.length))
  | .len, .dct kvs => some (.dat (.int kvs.length))
  | .len, .scr xs => some (.dat (.int xs.length))
  | .abs, .int i => some (.dat (.int i.natAbs))
  | .minL, .lst xs => match ints? xs with | some l => (l.min?).map fun i => .dat (.int i) | none => none
  | .maxL, .lst xs => match ints? xs with | some l => (l.max?).map fun i => .dat (.int i) | none => none
  | .sum, .lst xs => (ints? xs).map fun l => .dat (.int l.sum)
  | .all, .lst xs => (bls? xs).map fun l => .dat (.bl (l.all id))
  | .any, .lst xs => (bls? xs).map fun l => .dat (.bl (l.any id))
  | .sorted, .lst xs => if cmpOk xs then some (.new (.lst (srt ltB xs))) else none
  | .set, d => match seqOf d with | some xs => (uniq xs).map fun l => .new (.set l) | none => none
  | .tuple, d => (seqOf d).map fun l => .dat (.tup l)
  | .dictP, .lst xs => (dOfL xs []).map fun l => .new (.dct l)
  | .dictP, .dct kvs => some (.new (.dct kvs))
  | .str, .str s => some (.dat (.str s))
  | .str, .int i => if i.natAbs < 10 ^ 100 then some (.dat (.str (strOfInt i))) else none
  | .list, .lst xs => some (.new (.lst xs))
  | .list, .tup xs => some (.new (.lst xs))
  | .list, .dct kvs => some (.new (.lst (kvs.map (·.1))))
  | .int, .int i => some (.dat (.int i))
  | .int, .bl b => some (.dat (.int (if b then 1 else 0)))
  | _, _ => none
def biF : BI → List D → Option Val
  | .minA, [.int a, .int b] => some (.dat (.int (min a b)))
  | .maxA, [.int a, .int b] => some (.dat (.int (max a b)))
  | .minA, [.int a, .int b, .int c] => some (.dat (.int (min (min a b) c)))
  | .minA, [.int a, .int b, .int c, .int d] => some (.dat (.int (min (min (min a b) c) d)))
  | .sumS, [d, .lst []] => match seqOf d with
    | some xs => xs.foldl (fun acc x => match acc, x with | some (.new (.lst l)), .lst m => if l.length + m.length ≤ szMax then some (.new (.lst (l ++ m))) else none | _, _ => none) (some (.new (.lst [])))
    | none => none
  | .index, [.str s, .str [c]] => (s.findIdx? (· == c)).map fun k => .dat (.int k)
  | .index, [d, x] => match seqOf d with | some xs => (indexD x xs).map fun (k : Nat) => .dat (.int k) | none => none
  | .count, [.lst xs, x] => (countD x xs).map fun (k : Nat) => .dat (.int k)
  | .get1, [.dct kvs, k] => if isKey k then some (.dat ((dGet k kvs).getD .non)) else none
  | .get2, [.dct kvs, k, d] => if isKey k then some (.dat ((dGet k kvs).getD d)) else none
  | .join, [.str sep, d] => (((seqOf d).bind strs?)).bind fun ss => if (joinS sep ss).length ≤ szMax then some (.dat (.str (joinS sep ss))) else none
  | .split, [.str s, .str [c]] => some (.new (.lst ((splitS c s []).map .str)))
  | b, [d] => bi1 b d
  | _, _ => none
/-- whom a method of that name is asked of -/
def rcv : BI → D → Bool
  | .get1, .dct _ => true
  | .get2, .dct _ => true
  | .join, .str _ => true
  | .index, .lst _ => true
  | _, _ => false
def tyF (sup : Nat → List Nat) : Ty → D → Option Bool
  | .int, .int _ => some true
  | .int, .bl _ => some true
  | .bool, .bl _ => some true
  | .str, .str _ => some true
  | .list, .lst _ => some true
  | .tuple, .tup _ => some true
  | .dict, .dct _ => some true
  | .verr, _ => none
  | .lerr, _ => none
  | .rerr, _ => none
  | .cls _, _ => none
  | _, .obj _ _ => none
  | _, .set _ => none
  | _, .ref _ => none
  | _, .fn _ => none
  | _, .scr _ => none
  | _, .bad => none
  | _, _ => some false
def tysF (sup : Nat → List Nat) : List Ty → D → Option Bool
  | [], _ => some false
  | t :: r, d => match tyF sup t d with | some true => some true | some false => tysF sup r d | none => none
/-- of an exception of the class k -/
def tyX (sup : List Nat) : Ty → Option Bool
  | .cls c => some (sup.contains c)
  | .verr => some true
  | .lerr => some false
  | .rerr => some false
  | _ => none

/-! ### syntax -/
inductive Pat where | v (i : Nat) | t (ps : List Pat)
mutual
inductive ME where
  | non | bl (b : Bool) | int (i : Int) | str (s : List Nat) | fnv (f : Nat) | con (c : Nat)
  | var (i : Nat)
  | bin (op : Op) (a b : ME) | neg (a : ME)
  | cmp (op : Cp) (a b : ME) | chn (o1 o2 : Cp) (a b c : ME) | isN (a : ME) | notN (a : ME) | neR (a b : ME)
  | and (es : List ME) | or (es : List ME) | not (a : ME) | ife (c a b : ME)
  | tup (es : List ME) | lst (es : List ME) | dct (ks vs : List ME)
  | fld (o : ME) (k : Nat) | sub (o i : ME) | slU (o hi : ME) | slL (o lo : ME) | slB (o lo hi : ME) | rev (o : ME)
  | call (f : Nat) (es : List ME) | calv (i : Nat) (es : List ME) | meth (o : ME) (m : Nat) (es : List ME) | make (c : Nat) (es : List ME) | xfl (c : Nat) (ks : List Nat) (es : List ME) (k : Nat)
  | eqo (ng : Bool) (a b : ME) | bm (b : BI) (o : ME) (es : List ME) | bi (b : BI) (es : List ME) | lenO (e : ME) | isi (a : ME) (ts : List Ty) | srtk (a : ME) (f : Nat) | lsI (it : MI)
  | lc (e : ME) (p : Pat) (it : MI) | lcf (e : ME) (p : Pat) (it : MI) (c : ME)
  | fs (es : List ME) | cell (e : ME)
inductive MI where
  | ex (e : ME) | rg1 (a : ME) | rg2 (a b : ME) | rgd (a b : ME) | enum (e : ME) | zip (a b : ME) | items (e : ME) | vals (e : ME)
end
inductive Tg where | v (i : Nat) | fld (o : ME) (k : Nat) | sub (o i : ME) | t (ts : List Tg)
inductive MS where
  | asg (t : Tg) (e : ME) | par (ts : List Tg) (es : List ME) | aug (t : Tg) (op : Op) (e : ME)
  | expr (e : ME) | app (o e : ME) | ext (o e : ME) | ins (o i e : ME) | popT (t o : Nat)
  | ite (c : ME) (a b : List MS) | whl (c : ME) (b : List MS) | fr (p : Pat) (it : MI) (b : List MS)
  | ret (e : ME) | retN | rais (c : Nat) (es : List ME)
  | tr (b : List MS) (hs : List (Nat × Option Nat × List MS)) | trR (b : List MS) (c : Nat) (h : List MS)
  | pass | brk | cont | frz (i : Nat)

/-! ### the program -/
structure FnD where
  np : Nat
  nv : Nat
  df : List D
  tmp : Bool
  body : List MS
structure Cls where
  ini : Option Nat
  mth : List (Nat × Nat)
  eqm : Option Nat
  lenm : Option Nat
  sup : List Nat
  flds : List Nat
  cf : List Nat := []
  cel : Bool := false
structure Prog where
  fns : List FnD
  cls : List Cls
  con : List D

/-- calls of defs, makings of instances -/
structure Orc where
  call : Nat → List D → Sto → ER Val
  make : Nat → List D → Sto → ER Val
  eqm : Nat → Option Nat
  lenm : Nat → Option Nat
  mth : Nat → Nat → Option Nat
  sup : Nat → List Nat
  flds : Nat → List Nat
  cf : Nat → List Nat
  fnk : Nat → Bool
  con : Nat → Option D

def drf (st : Sto) : D → Option D | .ref n => st[n]? | .bad => none | d => some d
def fldF : D → Nat → Option D
  | .obj _ fs, k => fs.lookup k
  | _, _ => none
/-- an instance's field, of those that its class declares -/
def fldO (cf : Nat → List Nat) : Option D → Nat → Option D
  | some (.obj c fs), k => if (cf c).contains k then fs.lookup k else none
  | _, _ => none
def fldV (fl cf : Nat → List Nat) (st : Sto) : Val → Nat → Option D
  | .xv c fs, k => if (fl c).contains k then fs.lookup k else none
  | v, k => fldO cf (drf st v.d) k
def isiV (o : Nat → List Nat) (ts : List Ty) (st : Sto) : Val → Option Bool
  | .xv c _ => match ts with | [t] => if (o c).contains c then tyX (o c) t else none | _ => none
  | v => (drf st v.d).bind fun d => tysF o ts d
def kpL : List Val → Option (List D)
  | [] => some []
  | v :: r => match v.kp, kpL r with | some d, some ds => some (d :: ds) | _, _ => none
/-- a built-in's arguments: the first is looked at, the others may be kept -/
def biV (st : Sto) : List Val → Option (List D)
  | [] => none
  | v :: r => match drf st v.d, kpL r with | some z, some ds => some (z :: ds) | _, _ => none
mutual
/-- a value laid into variables: what each gets -/
def patA : Pat → D → Option (List (Nat × D))
  | .v i, d => some [(i, d)]
  | .t ps, d => match d with | .tup ds => patAL ps ds | _ => none
def patAL : List Pat → List D → Option (List (Nat × D))
  | [], ds => match ds with | [] => some [] | _ => none
  | p :: ps, ds => match ds with | d :: r => (match patA p d, patAL ps r with | some a, some b => some (a ++ b) | _, _ => none) | _ => none
end
def setL : List (Nat × D) → Env → Option Env
  | [], E => some E
  | (i, d) :: r, E => if i < E.length then setL r (E.set i (some (.dat d))) else none
def patF (p : Pat) (d : D) (E : Env) : Option Env := match patA p d with | some l => setL l E | none => none
def compL (ev : Env → Sto → ER Val) (cf : Env → Sto → ER Val) (p : Pat) (E : Env) : List D → Sto → List D → ER (List D)
  | [], st, acc => .ok acc.reverse st
  | d :: ds, st, acc => match patF p d E with
    | none => .bad
    | some E' => (cf E' st).nox.bind fun v st1 => ifV v
        ((ev E' st1).nox.bind fun v st2 => (ER.opt v.kp st2).bind fun r st3 => compL ev cf p E ds st3 (r :: acc))
        (compL ev cf p E ds st1 acc) .bad
def keysL (o : Orc) (f : Nat) : List D → Sto → List (D × D) → ER (List (D × D))
  | [], st, acc => .ok acc.reverse st
  | d :: ds, st, acc => (o.call f [d] st).nox.bind fun v st1 => (ER.opt v.kp st1).bind fun k st2 => keysL o f ds st2 ((k, d) :: acc)
def rangeL (lo hi : Int) : Option (List D) := if (hi - lo).toNat ≤ szMax ∧ -(2 ^ 60) ≤ lo ∧ lo ≤ 2 ^ 60 ∧ -(2 ^ 60) ≤ hi ∧ hi ≤ 2 ^ 60 then some ((List.range (hi - lo).toNat).map fun (k : Nat) => .int (lo + k)) else none
def rangeD (hi lo : Int) : Option (List D) := if (hi - lo).toNat ≤ szMax ∧ -(2 ^ 60) ≤ lo ∧ lo ≤ 2 ^ 60 ∧ -(2 ^ 60) ≤ hi ∧ hi ≤ 2 ^ 60 then some ((List.range (hi - lo).toNat).map fun (k : Nat) => .int (hi - k)) else none
def enumL (xs : List D) : List D := xs.zipIdx.map fun p => .tup [.int p.2, p.1]
def fsStr : D → Option (List Nat) | .str s => some s | .int i => some (strOfInt i) | _ => none
def fsL : List D → Option (List Nat)
  | [] => some []
  | d :: r => match fsStr d, fsL r with | some a, some b => some (a ++ b) | _, _ => none
def notV (v : Val) (st : Sto) : ER Val := match v with | .dat (.bl b) => .ok (.dat (.bl (!b))) st | _ => .bad
/-- == of dicts of plain data -/
def eqK (x y : List (D × D)) : Option Bool := if x.all (fun p => pd p.2 pdMax) && y.all (fun p => pd p.2 pdMax) then
  some (x.length == y.length && x.all fun p => match dGet p.1 y with | some v => eqD p.2 v | none => false) else none
/-- keywords: in the fields' order, or the other way -/
def kwOk (fs ks : List Nat) : Bool := ks == fs || ks == fs.reverse
/-- == of data, or by __eq__ -/
def eqC (o : Orc) (a b : D) (st : Sto) : ER Val := ER.opt ((eqT a b).map fun t => .dat (.bl t)) st
/-- fields of an exception by the class's order -/
def excF (o : Orc) (c : Nat) (ds : List D) : Option (List (Nat × D)) := if (o.flds c).length == ds.length then some ((o.flds c).zip ds) else none
def clsOf (st : Sto) (d : D) : Option Nat := match drf st d with | some (.obj c _) => some c | _ => none
/-- == (!=) of what may be an instance with an own __eq__ -/
def eqO (o : Orc) (ng : Bool) (x y : Val) (st : Sto) : ER Val := match clsOf st x.d with
  | some c => match kpL [x, y], o.eqm c with
    | some ds, some f => if clsOf st y.d = some c then ((o.call f ds st).nox).bind fun v st1 => (match v with | .dat (.bl t) => .ok (.dat (.bl (if ng then !t else t))) st1 | _ => .bad) else .bad
    | _, _ => .bad
  | none => ER.opt ((eqT x.d y.d).map fun t => .dat (.bl (if ng then !t else t))) st
/-- an instance's method: of its class, no field of that name -/
def mthO (mth : Nat → Nat → Option Nat) : Option D → Nat → Option Nat
  | some (.obj c fs), m => if (fs.lookup m).isNone then mth c m else none
  | _, _ => none

mutual
def evE (o : Orc) : ME → Env → Sto → ER Val
  | .non, _, st => .ok (.dat .non) st
  | .bl b, _, st => .ok (.dat (.bl b)) st
  | .int i, _, st => .ok (.dat (.int i)) st
  | .str s, _, st => .ok (.dat (.str s)) st
  | .fnv f, _, st => .ok (.dat (.fn f)) st
  | .con c, _, st => ER.opt ((o.con c).map .dat) st
  | .var i, E, st => match E[i]? with
    | some (some (.dat d)) => .ok (.dat d) st
    | some (some (.new d)) => .ok (.bor d) st
    | some (some (.xv c fs)) => .ok (.xv c fs) st
    | _ => .bad
  | .bin op a b, E, st => (evE o a E st).bind fun x st1 => (evE o b E st1).bind fun y st2 => ER.opt (binF op x.d y.d) st2
  | .neg a, E, st => (evE o a E st).bind fun x st1 => match x.d with | .int i => .ok (.dat (.int (-i))) st1 | _ => .bad
  | .cmp op a b, E, st => (evE o a E st).bind fun x st1 => (evE o b E st1).bind fun y st2 => match op with
    | .eq => eqC o x.d y.d st2
    | .ne => (eqC o x.d y.d st2).bind fun t st3 => notV t st3
    | _ => ER.opt ((drf st2 y.d).bind fun z => (cmpF op x.d z).map fun t => .dat (.bl t)) st2
  | .chn o1 o2 a b c, E, st => (evE o a E st).bind fun x st1 => (evE o b E st1).bind fun y st2 => (ER.opt (cmpF o1 x.d y.d) st2).bind fun r st3 =>
      if r then (evE o c E st3).bind fun z st4 => ER.opt ((cmpF o2 y.d z.d).map fun t => .dat (.bl t)) st4 else .ok (.dat (.bl false)) st3
  | .isN a, E, st => (evE o a E st).bind fun x st1 => ER.opt (x.d.isNon.map fun t => .dat (.bl t)) st1
  | .notN a, E, st => (evE o a E st).bind fun x st1 => ER.opt (x.d.isNon.map fun t => .dat (.bl (!t))) st1
  | .neR a b, E, st => (evE o a E st).bind fun x st1 => if repOk x.d then (evE o b E st1).bind fun y st2 => if repOk y.d && same x.d y.d then .ok (.dat (.bl false)) st2 else .bad else .bad
  | .and es, E, st => evAnd o es E st
  | .or es, E, st => evOr o es E st
  | .not a, E, st => (evE o a E st).bind fun x st1 => notV x st1
  | .ife c a b, E, st => (evE o c E st).bind fun x st1 => ifV x (evE o a E st1) (evE o b E st1) .bad
  | .tup es, E, st => (evL o es E st).bind fun vs st1 => ER.opt ((kpL vs).map fun ds => .dat (.tup ds)) st1
  | .lst es, E, st => (evL o es E st).bind fun vs st1 => ER.opt ((kpL vs).map fun ds => .new (.lst ds)) st1
  | .dct ks vs, E, st => (evL o ks E st).bind fun a st1 => (evL o vs E st1).bind fun b st2 => match kpL a, kpL b with
    | some ks, some vs => ER.opt ((dOfL ((ks.zip vs).map fun p => .tup [p.1, p.2]) []).map fun l => .new (.dct l)) st2
    | _, _ => .bad
  | .fld a k, E, st => (evE o a E st).bind fun x st1 => ER.opt ((fldV o.flds o.cf st1 x k).map .dat) st1
  | .sub a i, E, st => (evE o a E st).bind fun x st1 => (evE o i E st1).bind fun y st2 => ER.opt (((drf st2 x.d).bind fun d => getF d y.d).map .dat) st2
  | .slU a hi, E, st => (evE o a E st).bind fun x st1 => (evE o hi E st1).bind fun y st2 => match y.d with | .int j => ER.opt ((drf st2 x.d).bind fun d => slcF d none (some j)) st2 | _ => .bad
  | .slL a lo, E, st => (evE o a E st).bind fun x st1 => (evE o lo E st1).bind fun y st2 => match y.d with | .int i => ER.opt ((drf st2 x.d).bind fun d => slcF d (some i) none) st2 | _ => .bad
  | .slB a lo hi, E, st => (evE o a E st).bind fun x st1 => (evE o lo E st1).bind fun y st2 => match y.d with
    | .int i => (evE o hi E st2).bind fun z st3 => (match z.d with | .int j => ER.opt ((drf st3 x.d).bind fun d => slcF d (some i) (some j)) st3 | _ => .bad)
    | _ => .bad
  | .rev a, E, st => (evE o a E st).bind fun x st1 => ER.opt ((drf st1 x.d).bind revF) st1
  | .call f es, E, st => (evL o es E st).bind fun vs st1 => match kpL vs with | some ds => o.call f ds st1 | none => .bad
  | .calv i es, E, st => match E[i]? with
    | some (some (.dat (.fn f))) => if o.fnk f then (evL o es E st).bind fun vs st1 => match kpL vs with | some ds => o.call f ds st1 | none => .bad else .bad
    | _ => .bad
  | .meth a m es, E, st => (evE o a E st).bind fun x st1 => (ER.opt (mthO o.mth (drf st1 x.d) m) st1).bind fun f st1 => (evL o es E st1).bind fun vs st2 => match x.kp, kpL vs with
    | some d, some ds => o.call f (d :: ds) st2
    | _, _ => .bad
  | .make c es, E, st => (evL o es E st).bind fun vs st1 => match kpL vs with | some ds => o.make c ds st1 | none => .bad
  | .xfl c ks es k, E, st => if kwOk (o.flds c) ks then (evL o es E st).bind fun vs st1 => ER.opt ((kpL vs).bind fun ds => ((ks.zip ds).lookup k).map .dat) st1 else .bad
  | .bi b es, E, st => (evL o es E st).bind fun vs st1 => ER.opt ((biV st1 vs).bind (biF b)) st1
  | .eqo ng a b, E, st => (evE o a E st).bind fun x st1 => (evE o b E st1).bind fun y st2 => eqO o ng x y st2
  | .bm b a es, E, st => (evE o a E st).bind fun v st1 => if rcv b v.d then (evL o es E st1).bind fun vs st2 => ER.opt ((kpL vs).bind fun ds => biF b (v.d :: ds)) st2 else .bad
  | .lenO e, E, st => (evE o e E st).bind fun v st1 => (ER.opt v.kp st1).bind fun d st2 => match (clsOf st2 d).bind o.lenm with | some f => o.call f [d] st2 | none => .bad
  | .isi a ts, E, st => (evE o a E st).bind fun x st1 => ER.opt ((isiV o.sup ts st1 x).map fun t => .dat (.bl t)) st1
  | .srtk a f, E, st => (evE o a E st).bind fun x st1 => match seqOf x.d with
    | some xs => (keysL o f xs st1 []).bind fun ks st2 => if cmpOk (ks.map (·.1)) then .ok (.new (.lst ((srt (fun a b => ltB a.1 b.1) ks).map (·.2)))) st2 else .bad
    | none => .bad
  | .lsI it, E, st => (evI o false it E st).bind fun ds st1 => .ok (.new (.lst ds)) st1
  | .lc e p it, E, st => (evI o false it E st).bind fun ds st1 => (compL (fun E' st' => evE o e E' st') (fun _ st' => .ok (.dat (.bl true)) st') p E ds st1 []).bind fun l st2 => .ok (.new (.lst l)) st2
  | .lcf e p it c, E, st => (evI o false it E st).bind fun ds st1 => (compL (fun E' st' => evE o e E' st') (fun E' st' => evE o c E' st') p E ds st1 []).bind fun l st2 => .ok (.new (.lst l)) st2
  | .fs es, E, st => (evL o es E st).bind fun vs st1 => ER.opt ((kpL vs).bind fun ds => (fsL ds).map fun s => .dat (.str s)) st1
  | .cell e, E, st => (evE o e E st).bind fun v st1 => match v with | .new d => .ok (.dat (.ref st1.length)) (st1 ++ [d]) | _ => .bad
def evL (o : Orc) : List ME → Env → Sto → ER (List Val)
  | [], _, st => .ok [] st
  | e :: es, E, st => (evE o e E st).bind fun v st1 => (evL o es E st1).bind fun vs st2 => .ok (v :: vs) st2
def evAnd (o : Orc) : List ME → Env → Sto → ER Val
  | [], _, _ => .bad
  | [e], E, st => evE o e E st
  | e :: f :: es, E, st => (evE o e E st).bind fun v st1 => ifV v (evAnd o (f :: es) E st1) (.ok (.dat (.bl false)) st1) .bad
def evOr (o : Orc) : List ME → Env → Sto → ER Val
  | [], _, _ => .bad
  | [e], E, st => evE o e E st
  | e :: f :: es, E, st => (evE o e E st).bind fun v st1 => ifV v (.ok (.dat (.bl true)) st1) (evOr o (f :: es) E st1) .bad
def evI (o : Orc) (k : Bool) : MI → Env → Sto → ER (List D)
  | .ex e, E, st => (evE o e E st).bind fun v st1 => ER.opt ((v.it k).bind itemsOf) st1
  | .rg1 a, E, st => (evE o a E st).bind fun v st1 => match v.d with | .int n => ER.opt (rangeL 0 n) st1 | _ => .bad
  | .rg2 a b, E, st => (evE o a E st).bind fun v st1 => (evE o b E st1).bind fun w st2 => match v.d, w.d with | .int m, .int n => ER.opt (rangeL m n) st2 | _, _ => .bad
  | .rgd a b, E, st => (evE o a E st).bind fun v st1 => (evE o b E st1).bind fun w st2 => match v.d, w.d with | .int m, .int n => ER.opt (rangeD m n) st2 | _, _ => .bad
  | .enum e, E, st => (evE o e E st).bind fun v st1 => ER.opt (((v.it k).bind seqOf).map enumL) st1
  | .zip a b, E, st => (evE o a E st).bind fun v st1 => (evE o b E st1).bind fun w st2 => match (v.it k).bind seqOf, (w.it k).bind seqOf with
    | some xs, some ys => .ok ((xs.zip ys).map fun p => .tup [p.1, p.2]) st2
    | _, _ => .bad
  | .items e, E, st => (evE o e E st).bind fun v st1 => match v.kp with | some (.dct kvs) => .ok (kvs.map fun p => .tup [p.1, p.2]) st1 | _ => .bad
  | .vals e, E, st => (evE o e E st).bind fun v st1 => match v.kp with | some (.dct kvs) => .ok (kvs.map (·.2)) st1 | _ => .bad
end

/-! ### statements -/
def putFld (k : Nat) (d : D) : List (Nat × D) → List (Nat × D)
  | [] => [(k, d)]
  | (j, e) :: r => if j == k then (k, d) :: r else (j, e) :: putFld k d r
def setFld (cf : Nat → List Nat) : D → Nat → D → Option D
  | .obj c fs, k, d => if (cf c).contains k ∧ fs.length < 900 then some (.obj c (putFld k d fs)) else none
  | _, _, _ => none
def setSub : D → D → D → Option D
  | .lst xs, .int i, d => (idxAt xs.length i).map fun k => .lst (xs.set k d)
  | .dct kvs, k, d => if isKey k ∧ kvs.length < szMax then some (.dct (dPut k d kvs)) else none
  | _, _, _ => none
/-- change what a place holds: a variable's own container, or a cell -/
def chgE (o : Orc) (b : ME) (f : D → Option D) (E : Env) (st : Sto) : ER Env :=
  match b with
  | .var i => match E[i]? with
    | some (some (.new d)) => (ER.opt (f d) st).bind fun d' st1 => .ok (E.set i (some (.new d'))) st1
    | some (some (.dat (.ref n))) => (ER.opt ((st[n]?).bind f) st).bind fun d' st1 => .ok E (st1.set n d')
    | _ => .bad
  | b => (evE o b E st).bind fun v st1 => match v with
    | .dat (.ref n) => (ER.opt ((st1[n]?).bind f) st1).bind fun d' st2 => .ok E (st2.set n d')
    | _ => .bad
/-- the place's variable is bound; .. is a list -/
def plcB (b : ME) (E : Env) : Bool := match b with | .var k => (match E[k]? with | some (some _) => true | _ => false) | _ => true
def plcL (b : ME) (E : Env) (st : Sto) : Bool := match b with
  | .var k => (match E[k]? with | some (some (.new (.lst _))) => true | some (some (.dat (.ref n))) => (match st[n]? with | some (.lst _) => true | _ => false) | _ => false)
  | _ => true
mutual
/-- names, and rows of names -/
def tgPat : Tg → Option Pat
  | .v i => some (.v i)
  | .t ts => (tgPatL ts).map .t
  | _ => none
def tgPatL : List Tg → Option (List Pat)
  | [] => some []
  | t :: ts => match tgPat t, tgPatL ts with | some p, some ps => some (p :: ps) | _, _ => none
end
mutual
def tgF (o : Orc) : Tg → Val → Env → Sto → ER Env
  | .v i, v, E, st => match v with | .bor _ => .bad | .xv _ _ => .bad | v => if i < E.length then .ok (E.set i (some v)) st else .bad
  | .fld b k, v, E, st => match v.kp with | some d => chgE o b (fun c => setFld o.cf c k d) E st | none => .bad
  | .sub b i, v, E, st => if plcB b E then (ER.opt v.kp st).bind fun d st0 => (evE o i E st0).bind fun x st1 => (ER.opt x.kp st1).bind fun j st2 => chgE o b (fun c => setSub c j d) E st2 else .bad
  | .t ts, v, E, st => match tgPatL ts, v with
    | some ps, .dat d => ER.opt (patF (.t ps) d E) st
    | _, _ => .bad
def tgL (o : Orc) : List Tg → List Val → Env → Sto → ER Env
  | [], [], E, st => .ok E st
  | t :: ts, v :: vs, E, st => (tgF o t v E st).bind fun E' st1 => tgL o ts vs E' st1
  | _, _, _, _ => .bad
end
def ER.sr {α : Type} (r : ER α) (E : Env) (f : α → Sto → SR) : SR := match r with | .ok a st => f a st | .ex x st => .ex x E st | .bad => .bad
def forL (p : Pat) (b : Env → Sto → SR) : List D → Env → Sto → SR
  | [], E, st => .nx E st
  | d :: ds, E, st => match patF p d E with
    | none => .bad
    | some E1 => (b E1 st).lp fun E2 st2 => forL p b ds E2 st2
def whlL (c : Env → Sto → ER Val) (b : Env → Sto → SR) : Nat → Env → Sto → SR
  | 0, _, _ => .bad
  | n + 1, E, st => (c E st).sr E fun v st1 => ifV v ((b E st1).lp fun E2 st2 => whlL c b n E2 st2) (.nx E st1) .bad
def whlMax : Nat := 1000000
def oneD : Val → D := Val.d
mutual
def exS (o : Orc) : MS → Env → Sto → SR
  | .asg t e, E, st => (evE o e E st).sr E fun v st1 => (tgF o t v E st1).sr E fun E' st2 => .nx E' st2
  | .par ts es, E, st => (evL o es E st).sr E fun vs st1 => (tgL o ts vs E st1).sr E fun E' st2 => .nx E' st2
  | .aug t op e, E, st => match t with
    | .v i => match E[i]? with
      | some (some (.dat x)) => (evE o e E st).sr E fun y st1 => match augF op x y.d with | some z => .nx (E.set i (some (.dat z))) st1 | none => .bad
      | _ => .bad
    | .fld b k => (evE o (.fld b k) E st).sr E fun x st1 => (evE o e E st1).sr E fun y st2 => match binF op x.d y.d with
      | some (.dat z) => (chgE o b (fun c => setFld o.cf c k z) E st2).sr E fun E' st3 => .nx E' st3
      | _ => .bad
    | .sub b i => (evE o i E st).sr E fun j st1 => (evE o b E st1).sr E fun c st2 => match j.kp, (drf st2 c.d).bind (fun d => getF d j.d) with
      | some jd, some x => (evE o e E st2).sr E fun y st3 => match binF op x y.d with
        | some (.dat z) => (chgE o b (fun c => setSub c jd z) E st3).sr E fun E' st4 => .nx E' st4
        | _ => .bad
      | _, _ => .bad
    | .t _ => .bad
  | .expr e, E, st => (evE o e E st).sr E fun _ st1 => .nx E st1
  | .app b e, E, st => if !plcL b E st then .bad else (evE o e E st).sr E fun v st1 => match v.kp with
    | some d => (chgE o b (fun c => match c with | .lst xs => if xs.length < szMax then some (.lst (xs ++ [d])) else none | _ => none) E st1).sr E fun E' st2 => .nx E' st2
    | none => .bad
  | .ext b e, E, st => if !plcL b E st then .bad else (evE o e E st).sr E fun v st1 => match (drf st1 v.d).bind seqOf with
    | some ds => (chgE o b (fun c => match c with | .lst xs => if xs.length + ds.length ≤ szMax then some (.lst (xs ++ ds)) else none | _ => none) E st1).sr E fun E' st2 => .nx E' st2
    | none => .bad
  | .ins b i e, E, st => if !plcL b E st then .bad else (evE o i E st).sr E fun j st1 => (evE o e E st1).sr E fun v st2 => match j.d, v.kp with
    | .int k, some d => (chgE o b (fun c => match c with | .lst xs => if xs.length < szMax ∧ 0 ≤ k ∧ k < 2 ^ 62 then some (.lst (xs.take (clampI xs.length k) ++ d :: xs.drop (clampI xs.length k))) else none | _ => none) E st2).sr E fun E' st3 => .nx E' st3
    | _, _ => .bad
  | .popT t i, E, st => match E[i]? with
    | some (some (.new (.lst xs))) => match xs.getLast? with
      | some (.ref n) => match st[n]? with
        | some (.lst ds) => if t < E.length then .nx ((E.set i (some (.new (.lst xs.dropLast)))).set t (some (.dat (.tup ds)))) st else .bad
        | _ => .bad
      | _ => .bad
    | _ => .bad
  | .ite c a b, E, st => (evE o c E st).sr E fun v st1 => ifV v (exB o a E st1) (exB o b E st1) .bad
  | .whl c b, E, st => whlL (fun E' st' => evE o c E' st') (fun E' st' => exB o b E' st') whlMax E st
  | .fr p it b, E, st => (evI o true it E st).sr E fun ds st1 => forL p (fun E' st' => exB o b E' st') ds E st1
  | .ret e, E, st => (evE o e E st).sr E fun v st1 => match v with | .xv _ _ => .bad | v => .rt v.out st1
  | .retN, _, st => .rt (.dat .non) st
  | .rais c es, E, st => if !(o.sup c).contains c then .bad else (evL o es E st).sr E fun vs st1 => match (kpL vs).bind (excF o c) with | some fs => .ex ⟨c, fs⟩ E st1 | none => .bad
  | .tr b hs, E, st => (exB o b E st).try fun x E1 st1 => if (o.sup x.c).contains x.c then exH o x hs E1 st1 else .bad
  | .trR b c h, E, st => (exB o b E st).try fun x E1 st1 => if (o.sup x.c).contains c then (exB o h E1 st1).rer x else .ex x E1 st1
  | .pass, E, st => .nx E st
  | .brk, E, st => .bk E st
  | .cont, E, st => .ct E st
  | .frz i, E, st => match E[i]? with
    | some (some (.new d)) => if d.isSet then .bad else .nx (E.set i (some (.dat d))) st
    | _ => .nx E st
def exB (o : Orc) : List MS → Env → Sto → SR
  | [], E, st => .nx E st
  | s :: ss, E, st => (exS o s E st).seq fun E1 st1 => exB o ss E1 st1
def exH (o : Orc) (x : Exc) : List (Nat × Option Nat × List MS) → Env → Sto → SR
  | [], E, st => .ex x E st
  | (c, sl, h) :: r, E, st => if (o.sup x.c).contains c then
      match sl with
      | none => (exB o h E st).nox
      | some i => if i < E.length then (exB o h (E.set i (some (.xv x.c x.fs))) st).nox.del i else .bad
    else exH o x r E st
end

/-! ### calls -/
mutual
def noRef (n : Nat) : D → Bool
  | .ref k => decide (k < n)
  | .tup xs => noRefL n xs
  | .lst xs => noRefL n xs
  | .set xs => noRefL n xs
  | .dct kvs => noRefK n kvs
  | .obj _ fs => noRefF n fs
  | _ => true
def noRefL (n : Nat) : List D → Bool
  | [] => true
  | x :: r => noRef n x && noRefL n r
def noRefK (n : Nat) : List (D × D) → Bool
  | [] => true
  | (k, v) :: r => noRef n k && noRef n v && noRefK n r
def noRefF (n : Nat) : List (Nat × D) → Bool
  | [] => true
  | (_, v) :: r => noRef n v && noRefF n r
end
/-- cells made in a call are dropped where nothing tells of them -/
def trim (t : Bool) (n : Nat) (r : ER Val) : ER Val := match r with
  | .ok v st => if t then (if noRef n v.d && noRefL n (st.take n) then .ok v (st.take n) else .bad) else .ok v st
  | .ex x st => if t then (if noRefF n x.fs && noRefL n (st.take n) then .ex x (st.take n) else .bad) else .ex x st
  | r => r
def runF (o : Orc) (b : List MS) (E : Env) (st : Sto) : ER Val := match exB o b E st with
  | .nx _ st1 => .ok (.dat .non) st1
  | .rt v st1 => .ok v st1
  | .ex x _ st1 => .ex x st1
  | _ => .bad
/-- an instance made: the cell that held it is let go -/
def finI (cel : Bool) (n : Nat) (r : SR) : ER Val := match r with
  | .nx _ st => if cel then .ok (.dat (.ref n)) st else match st[n]? with
    | some d => if noRef n d && noRefL n (st.take n) then .ok (.new d) (st.take n) else .bad
    | none => .bad
  | .ex x _ st => if noRefF n x.fs && noRefL n (st.take n) then .ex x (st.take n) else .bad
  | _ => .bad
def envOf (fd : FnD) (vs : List Val) : Option Env :=
  if vs.length ≤ fd.np ∧ fd.np ≤ vs.length + fd.df.length then some (vs.map some ++ (fd.df.drop (vs.length + fd.df.length - fd.np)).map (fun d => some (.dat d)) ++ List.replicate (fd.nv - fd.np) none) else none
def orc (p : Prog) (call make : Nat → List D → Sto → ER Val) : Orc where
  call := call
  make := make
  eqm := fun c => (p.cls[c]?).bind (·.eqm)
  lenm := fun c => (p.cls[c]?).bind (·.lenm)
  mth := fun c m => (p.cls[c]?).bind fun k => k.mth.lookup m
  sup := fun c => match p.cls[c]? with | some k => k.sup | none => []
  flds := fun c => match p.cls[c]? with | some k => k.flds | none => []
  cf := fun c => match p.cls[c]? with | some k => k.cf | none => []
  fnk := fun f => (p.fns[f]?).isSome
  con := fun c => p.con[c]?
def callN (p : Prog) : Nat → Bool → Nat → List D → Sto → ER Val
  | 0, _, _, _, _ => .bad
  | n + 1, false, f, ds, st => match p.fns[f]? with
    | none => .bad
    | some fd => match envOf fd (ds.map .dat) with
      | none => .bad
      | some E => trim fd.tmp st.length (runF (orc p (callN p n false) (callN p n true)) fd.body E st)
  | n + 1, true, c, ds, st => match p.cls[c]? with
    | none => .bad
    | some k => match k.ini with
      | none => .bad
      | some f => match p.fns[f]? with
        | none => .bad
        | some fd => match envOf fd (.dat (.ref st.length) :: ds.map .dat) with
          | none => .bad
          | some E => finI k.cel st.length (exB (orc p (callN p n false) (callN p n true)) fd.body E (st ++ [.obj c []]))
abbrev O (p : Prog) (n : Nat) : Orc := orc p (callN p n false) (callN p n true)
end Mp

end
section
set_option Elab.async false
set_option linter.all false
set_option maxRecDepth 100000
set_option maxHeartbeats 4000000
/-! S1: how data lies in the heap; what is kept; the simulation. -/
namespace Mp
open PySem PySem.Spec PyProof.Rows L2

/-- the text's link: names, the addresses of classes and defs -/
structure Lk where
  K : PySem.W.Frag
  nm : Nat → Str
  cad : Nat → Addr
  fad : Nat → Addr

/-- a tuple, a list of the module's own -/
def KT (K : PySem.W.Frag) (a : Addr) (xs : List V) : Prop := ∃ (o : Obj) (its : Array Value) (n : Nat), K.lookup a = some o ∧ o.cls = .type "tuple" ∧ o.data = .seq its n ∧ its.size ≤ sizeLine ∧ Vals xs its.toList
def KL (K : PySem.W.Frag) (a : Addr) (xs : List V) : Prop := ∃ (o : Obj) (its : Array Value) (n : Nat), K.lookup a = some o ∧ o.cls = .type "list" ∧ o.dict = none ∧ o.data = .seq its n ∧ its.size ≤ sizeLine ∧ Vals xs its.toList
def strV (s : List Nat) : Str := ⟨s.toArray⟩
def kOk : D → Bool
  | .str s => decide (s.length ≤ szMax) && s.all fun c => decide (c < 1114112)
  | _ => true
def keyOf : D → Option Key
  | .int i => some (.inl i)
  | .str s => some (.inr (strV s))
  | _ => none

mutual
/-- data that is kept: nothing in it is changed any more (F: the objects of kept data) -/
def Rep (L : Lk) (m : List Addr) (F : Addr → Prop) (H : Hp) : D → V → Prop
  | .non, v => v = .non
  | .bl b, v => v = .bl b
  | .int i, v => v = .int i
  | .str s, v => v = .str (strV s) ∧ s.length ≤ szMax ∧ ∀ c ∈ s, c < 1114112
  | .tup xs, v => ∃ a vs, v = .ref a ∧ (F a ∧ Rd H a (.tup vs) ∨ KT L.K a vs) ∧ RepL L m F H xs vs ∧ xs.length ≤ szMax
  | .lst xs, v => ∃ a vs, v = .ref a ∧ F a ∧ H a = some (.lst vs) ∧ RepL L m F H xs vs ∧ xs.length ≤ szMax
  | .dct kvs, v => ∃ a ks, v = .ref a ∧ F a ∧ Rd H a (.dK ks) ∧ RepK L m F H kvs ks ∧ kvs.length ≤ szMax
  | .set _, _ => False
  | .obj c fs, v => ∃ a dx fv, v = .ref a ∧ F a ∧ H a = some (.ins (L.cad c) dx fv) ∧ RepF L m F H fs fv
  | .ref n, v => ∃ a, v = .ref a ∧ m[n]? = some a
  | .fn f, v => v = .ref (L.fad f)
  | .scr xs, v => ∃ a, v = .ref a ∧ (F a ∧ Rd H a (.lst (xs.map V.int)) ∨ KL L.K a (xs.map V.int)) ∧ xs.length ≤ szMax
  | .bad, _ => False
def RepL (L : Lk) (m : List Addr) (F : Addr → Prop) (H : Hp) : List D → List V → Prop
  | [], [] => True
  | d :: ds, v :: vs => Rep L m F H d v ∧ RepL L m F H ds vs
  | _, _ => False
def RepK (L : Lk) (m : List Addr) (F : Addr → Prop) (H : Hp) : List (D × D) → List (Key × V) → Prop
  | [], [] => True
  | (k, d) :: r, (q, v) :: s => (keyOf k = some q ∧ kOk k = true) ∧ Rep L m F H d v ∧ RepK L m F H r s
  | _, _ => False
def RepF (L : Lk) (m : List Addr) (F : Addr → Prop) (H : Hp) : List (Nat × D) → List (Str × V) → Prop
  | [], [] => True
  | (k, d) :: r, (q, v) :: s => q = L.nm k ∧ Rep L m F H d v ∧ RepF L m F H r s
  | _, _ => False
end
/-- a container by itself: it may be changed -/
def ORep (L : Lk) (m : List Addr) (F : Addr → Prop) (H : Hp) (a : Addr) : D → Prop
  | .lst xs => ∃ vs, H a = some (.lst vs) ∧ RepL L m F H xs vs ∧ xs.length ≤ szMax
  | .dct kvs => ∃ ks, H a = some (.dK ks) ∧ RepK L m F H kvs ks ∧ kvs.length ≤ szMax
  | .obj c fs => ∃ dx fv, H a = some (.ins (L.cad c) dx fv) ∧ RepF L m F H fs fv
  | .set xs => ∃ S n, H a = some (.set S n) ∧ n = xs.length ∧ (∀ i : Int, S i = xs.any fun d => match d with | .int j => i == j | _ => false) ∧ (∀ d ∈ xs, ∃ i, d = .int i) ∧ xs.length ≤ szMax
  | _ => False
/-- data that is looked at -/
def Look (L : Lk) (m : List Addr) (F : Addr → Prop) (H : Hp) : D → V → Prop
  | .lst xs, v => ∃ a vs, v = .ref a ∧ H a = some (.lst vs) ∧ RepL L m F H xs vs ∧ xs.length ≤ szMax
  | .dct kvs, v => ∃ a ks, v = .ref a ∧ Rd H a (.dK ks) ∧ RepK L m F H kvs ks ∧ kvs.length ≤ szMax
  | .obj c fs, v => ∃ a dx fv, v = .ref a ∧ H a = some (.ins (L.cad c) dx fv) ∧ RepF L m F H fs fv
  | .set xs, v => ∃ a, v = .ref a ∧ ORep L m F H a (.set xs)
  | d, v => Rep L m F H d v

/-- an object of kept data stays (a dict may be locked) -/
def Stay (H H' : Hp) (a : Addr) : Prop := ∀ o, H a = some o → H' a = some o ∨ ∃ ob ks, o = .dK ks ∧ H' a = some (.frz ob (.dK ks))
theorem Stay.of {H H' : Hp} {a : Addr} (h : ∀ o, H a = some o → H' a = some o) : Stay H H' a := fun o e => .inl (h o e)
theorem Stay.refl {H : Hp} {a : Addr} : Stay H H a := fun o e => .inl e
theorem Stay.rd {H H' : Hp} {a : Addr} {u : HO} (s : Stay H H' a) (h : Rd H a u) : Rd H' a u := by
  rcases h with h | ⟨ob, h⟩
  · rcases s _ h with e | ⟨ob, ks, rfl, e⟩
    · exact .inl e
    · exact .inr ⟨ob, e⟩
  · rcases s _ h with e | ⟨ob', ks, e1, e⟩
    · exact .inr ⟨ob, e⟩
    · cases e1
theorem Stay.ins {H H' : Hp} {a C dx : Addr} {fs : List (Str × V)} (s : Stay H H' a) (h : H a = some (.ins C dx fs)) : H' a = some (.ins C dx fs) := by
  rcases s _ h with e | ⟨ob, ks, e1, e⟩
  · exact e
  · cases e1
theorem Stay.xd {H H' : Hp} {a : Addr} {fs : List (Str × V)} (s : Stay H H' a) (h : H a = some (.xd fs)) : H' a = some (.xd fs) := by
  rcases s _ h with e | ⟨ob, ks, e1, e⟩
  · exact e
  · cases e1
theorem Stay.lst {H H' : Hp} {a : Addr} {fs : List V} (s : Stay H H' a) (h : H a = some (.lst fs)) : H' a = some (.lst fs) := by
  rcases s _ h with e | ⟨ob, ks, e1, e⟩
  · exact e
  · cases e1
theorem Stay.sqL {K : PySem.W.Frag} {H H' : Hp} {a : Addr} {xs : List V} (s : Stay H H' a) (h : SqL K H a xs) : SqL K H' a xs := h.imp s.rd id
theorem Stay.sqT {K : PySem.W.Frag} {H H' : Hp} {a : Addr} {xs : List V} (s : Stay H H' a) (h : SqT K H a xs) : SqT K H' a xs := h.imp s.rd id
theorem Stay.trans {H H' H'' : Hp} {a : Addr} (s : Stay H H' a) (t : Stay H' H'' a) : Stay H H'' a := fun o e => by
  rcases s o e with e1 | ⟨ob, ks, rfl, e1⟩
  · exact t o e1
  · rcases t _ e1 with e2 | ⟨ob2, ks2, e3, e2⟩
    · exact .inr ⟨_, _, rfl, e2⟩
    · cases e3
theorem Stay.there {H H' : Hp} {a : Addr} (s : Stay H H' a) (h : H a ≠ none) : H' a ≠ none := by
  cases e : H a with
  | none => exact absurd e h
  | some o =>
    rcases s o e with e1 | ⟨_, _, _, e1⟩ <;> (rw [e1]; exact fun z => nomatch z)

/-- what is known may be read on: more cells, more kept, kept objects stay -/
structure Mono (m : List Addr) (F : Addr → Prop) (H : Hp) (m' : List Addr) (F' : Addr → Prop) (H' : Hp) : Prop where
  mp : ∀ (n : Nat) (a : Addr), m[n]? = some a → m'[n]? = some a
  fm : ∀ a, F a → F' a
  st : ∀ a, F a → Stay H H' a
theorem Mono.refl {m : List Addr} {F : Addr → Prop} {H : Hp} : Mono m F H m F H := ⟨fun _ _ h => h, fun _ h => h, fun _ _ => Stay.refl⟩
section
variable {L : Lk} {m m' : List Addr} {F F' : Addr → Prop} {H H' : Hp}
mutual
theorem Rep.mono (M : Mono m F H m' F' H') : ∀ (d : D) (v : V), Rep L m F H d v → Rep L m' F' H' d v
  | .non, v, h => by simpa [Rep] using h
  | .bl b, v, h => by simpa [Rep] using h
  | .int i, v, h => by simpa [Rep] using h
  | .str s, v, h => by simpa [Rep] using h
  | .tup xs, v, h => by
    simp only [Rep] at h ⊢
    obtain ⟨a, vs, e, hf, hr, hz⟩ := h
    exact ⟨a, vs, e, hf.imp (fun q => ⟨M.fm a q.1, (M.st a q.1).rd q.2⟩) id, RepL.mono M xs vs hr, hz⟩
  | .lst xs, v, h => by
    simp only [Rep] at h ⊢
    obtain ⟨a, vs, e, hf, hs, hr, hz⟩ := h
    exact ⟨a, vs, e, M.fm a hf, (M.st a hf).lst hs, RepL.mono M xs vs hr, hz⟩
  | .dct kvs, v, h => by
    simp only [Rep] at h ⊢
    obtain ⟨a, ks, e, hf, hs, hr, hz⟩ := h
    exact ⟨a, ks, e, M.fm a hf, (M.st a hf).rd hs, RepK.mono M kvs ks hr, hz⟩
  | .set xs, v, h => by simp only [Rep] at h
  | .obj c fs, v, h => by
    simp only [Rep] at h ⊢
    obtain ⟨a, dx, fv, e, hf, hs, hr⟩ := h
    exact ⟨a, dx, fv, e, M.fm a hf, (M.st a hf).ins hs, RepF.mono M fs fv hr⟩
  | .ref n, v, h => by
    simp only [Rep] at h ⊢
    obtain ⟨a, e, hm⟩ := h
    exact ⟨a, e, M.mp n a hm⟩
  | .fn f, v, h => by simpa [Rep] using h
  | .scr xs, v, h => by
    simp only [Rep] at h ⊢
    obtain ⟨a, e, hf, hz⟩ := h
    exact ⟨a, e, hf.imp (fun q => ⟨M.fm a q.1, (M.st a q.1).rd q.2⟩) id, hz⟩
  | .bad, v, h => by simp only [Rep] at h
theorem RepL.mono (M : Mono m F H m' F' H') : ∀ (ds : List D) (vs : List V), RepL L m F H ds vs → RepL L m' F' H' ds vs
  | [], [], _ => by simp only [RepL]
  | d :: ds, v :: vs, h => by
    simp only [RepL] at h ⊢
    exact ⟨Rep.mono M d v h.1, RepL.mono M ds vs h.2⟩
  | [], _ :: _, h => by simp only [RepL] at h
  | _ :: _, [], h => by simp only [RepL] at h
theorem RepK.mono (M : Mono m F H m' F' H') : ∀ (ds : List (D × D)) (vs : List (Key × V)), RepK L m F H ds vs → RepK L m' F' H' ds vs
  | [], [], _ => by simp only [RepK]
  | (k, d) :: ds, (q, v) :: vs, h => by
    simp only [RepK] at h ⊢
    exact ⟨h.1, Rep.mono M d v h.2.1, RepK.mono M ds vs h.2.2⟩
  | [], _ :: _, h => by simp only [RepK] at h
  | _ :: _, [], h => by simp only [RepK] at h
theorem RepF.mono (M : Mono m F H m' F' H') : ∀ (ds : List (Nat × D)) (vs : List (Str × V)), RepF L m F H ds vs → RepF L m' F' H' ds vs
  | [], [], _ => by simp only [RepF]
  | (k, d) :: ds, (q, v) :: vs, h => by
    simp only [RepF] at h ⊢
    exact ⟨h.1, Rep.mono M d v h.2.1, RepF.mono M ds vs h.2.2⟩
  | [], _ :: _, h => by simp only [RepF] at h
  | _ :: _, [], h => by simp only [RepF] at h
end
theorem ORep.mono {a : Addr} {d : D} (M : Mono m F H m' F' H') (he : ∀ o, H a = some o → H' a = some o) (h : ORep L m F H a d) : ORep L m' F' H' a d := by
  cases d <;> simp only [ORep] at h ⊢ <;> try exact h
  · obtain ⟨vs, e, r, z⟩ := h; exact ⟨vs, he _ e, RepL.mono M _ _ r, z⟩
  · obtain ⟨vs, e, r, z⟩ := h; exact ⟨vs, he _ e, RepK.mono M _ _ r, z⟩
  · obtain ⟨S, n, e, r⟩ := h; exact ⟨S, n, he _ e, r⟩
  · obtain ⟨dx, fv, e, r⟩ := h; exact ⟨dx, fv, he _ e, RepF.mono M _ _ r⟩
theorem ORep.there {a : Addr} {d : D} (h : ORep L m F H a d) : H a ≠ none := by
  cases d <;> simp only [ORep] at h
  · obtain ⟨vs, e, r, z⟩ := h; rw [e]; exact fun z => nomatch z
  · obtain ⟨vs, e, r, z⟩ := h; rw [e]; exact fun z => nomatch z
  · obtain ⟨S, n, e, r⟩ := h; rw [e]; exact fun z => nomatch z
  · obtain ⟨dx, fv, e, r⟩ := h; rw [e]; exact fun z => nomatch z
/-- kept from now on -/
theorem ORep.kept {a : Addr} {d : D} (hf : F a) (h : ORep L m F H a d) (ns : ∀ xs, d ≠ .set xs) : Rep L m F H d (.ref a) := by
  cases d <;> simp only [ORep, Rep] at h ⊢ <;> try exact h.elim
  · obtain ⟨vs, e, r, z⟩ := h; exact ⟨a, vs, rfl, hf, e, r, z⟩
  · obtain ⟨vs, e, r, z⟩ := h; exact ⟨a, vs, rfl, hf, .inl e, r, z⟩
  · exact ns _ rfl
  · obtain ⟨dx, fv, e, r⟩ := h; exact ⟨a, dx, fv, rfl, hf, e, r⟩
theorem ORep.look {a : Addr} {d : D} (h : ORep L m F H a d) : Look L m F H d (.ref a) := by
  cases d <;> simp only [ORep, Look] at h ⊢ <;> try exact h.elim
  · obtain ⟨vs, e, r, z⟩ := h; exact ⟨a, vs, rfl, e, r, z⟩
  · obtain ⟨vs, e, r, z⟩ := h; exact ⟨a, vs, rfl, .inl e, r, z⟩
  · exact ⟨a, rfl, h⟩
  · obtain ⟨dx, fv, e, r⟩ := h; exact ⟨a, dx, fv, rfl, e, r⟩
theorem Rep.look {d : D} {v : V} (h : Rep L m F H d v) : Look L m F H d v := by
  cases d with
  | lst xs => simp only [Rep, Look] at h ⊢; obtain ⟨a, vs, e, _, r⟩ := h; exact ⟨a, vs, e, r⟩
  | dct kvs => simp only [Rep, Look] at h ⊢; obtain ⟨a, vs, e, _, r⟩ := h; exact ⟨a, vs, e, r⟩
  | set xs => simp only [Rep] at h
  | obj c fs => simp only [Rep, Look] at h ⊢; obtain ⟨a, dx, fv, e, _, r⟩ := h; exact ⟨a, dx, fv, e, r⟩
  | _ => simpa only [Look] using h
end

/-! ### what a piece of code keeps -/
structure Ext (m : List Addr) (F : Addr → Prop) (H : Hp) (m' : List Addr) (F' : Addr → Prop) (H' : Hp) : Prop where
  mp : ∃ l, m' = m ++ l ∧ ∀ a ∈ l, H a = none
  fm : ∀ a, F a → F' a
  fn : ∀ a, F' a → F a ∨ H a = none
  kp : ∀ a o, H a = some o → a ∉ m → ¬ F a → H' a = some o
  st : ∀ a, F a → Stay H H' a
  tr : ∀ a, H' a = none → H a = none
/-- the cells and the kept objects -/
structure Wd (L : Lk) (m : List Addr) (F : Addr → Prop) (st : Sto) (H : Hp) : Prop where
  ce : ∀ (n : Nat) (d : D), st[n]? = some d → ∃ a : Addr, m[n]? = some a ∧ ORep L m F H a d
  ln : m.length = st.length
  nd : m.Nodup
  ft : ∀ a, F a → H a ≠ none ∧ a ∉ m
section
variable {L : Lk} {m m' m'' : List Addr} {F F' F'' : Addr → Prop} {H H' H'' : Hp} {st st' : Sto}
theorem Ext.refl : Ext m F H m F H := ⟨⟨[], by simp, by simp⟩, fun _ h => h, fun _ h => .inl h, fun _ _ h _ _ => h, fun _ _ => Stay.refl, fun _ h => h⟩
theorem Ext.mono (x : Ext m F H m' F' H') : Mono m F H m' F' H' := ⟨fun n a h => by
  obtain ⟨l, rfl, _⟩ := x.mp
  rw [List.getElem?_append_left (List.getElem?_eq_some_iff.mp h).1]; exact h, x.fm, x.st⟩
theorem Ext.there (x : Ext m F H m' F' H') {a : Addr} (h : H a ≠ none) : H' a ≠ none := fun z => h (x.tr a z)
theorem Ext.trans (x : Ext m F H m' F' H') (y : Ext m' F' H' m'' F'' H'') : Ext m F H m'' F'' H'' := by
  obtain ⟨l, rfl, hl⟩ := x.mp
  obtain ⟨l2, rfl, hl2⟩ := y.mp
  refine ⟨⟨l ++ l2, by rw [List.append_assoc], fun a ha => ?_⟩, fun a h => y.fm a (x.fm a h), fun a h => ?_, fun a o e hm hf => ?_, fun a h => (x.st a h).trans (y.st a (x.fm a h)), fun a h => x.tr a (y.tr a h)⟩
  · rcases List.mem_append.mp ha with ha | ha
    · exact hl a ha
    · exact x.tr a (hl2 a ha)
  · rcases y.fn a h with h | h
    · exact x.fn a h
    · exact .inr (x.tr a h)
  · refine y.kp a o (x.kp a o e hm hf) (fun z => ?_) fun z => ?_
    · rcases List.mem_append.mp z with z | z
      · exact hm z
      · have := hl a z; rw [e] at this; cases this
    · rcases x.fn a z with z | z
      · exact hf z
      · rw [e] at z; cases z
/-- an own container that is no cell and not kept stays as it is -/
theorem Ext.own (x : Ext m F H m' F' H') {a : Addr} (ha : H a ≠ none) (hm : a ∉ m) (hf : ¬ F a) : (∀ o, H a = some o → H' a = some o) ∧ ¬ F' a ∧ a ∉ m' := by
  refine ⟨fun o e => x.kp a o e hm hf, fun z => ?_, fun z => ?_⟩
  · rcases x.fn a z with z | z
    · exact hf z
    · exact ha z
  · obtain ⟨l, rfl, hl⟩ := x.mp
    rcases List.mem_append.mp z with z | z
    · exact hm z
    · exact ha (hl a z)
end
end Mp

end
section
set_option Elab.async false
set_option linter.all false
set_option maxRecDepth 100000
set_option maxHeartbeats 4000000
/-! S2: the simulation of a state; the reading of an expression by the evaluator. -/
namespace Mp
open PySem PySem.Spec PyProof.Rows L2

/-- the exception that is handled: its variable, its address, its class, its own dict -/
structure Xi where
  i : Nat
  a : Addr
  cls : Value
  d : Option Addr
/-- the state at a def's entry -/
structure Bs where
  m : List Addr
  F : Addr → Prop
  H : Hp
  x : Option Xi
def XRep (L : Lk) (m : List Addr) (F : Addr → Prop) (H : Hp) (c : Nat) (fs : List (Nat × D)) (cls : Value) (d : Option Addr) : Prop :=
  cls = .ref (L.cad c) ∧ match d with
    | none => fs = []
    | some dd => F dd ∧ ∃ fv, H dd = some (.xd fv) ∧ RepF L m F H fs fv
/-- a variable's value -/
def SlR (L : Lk) (B : Bs) (m : List Addr) (F : Addr → Prop) (H : Hp) (i : Nat) : Val → V → Prop
  | .dat d, x => Rep L m F H d x
  | .new d, x => ∃ a, x = .ref a ∧ ORep L m F H a d ∧ ¬ F a ∧ a ∉ m ∧ B.H a = none
  | .bor _, _ => False
  | .xv c fs, x => ∃ q, B.x = some q ∧ q.i = i ∧ x = .ref q.a ∧ XRep L m F H c fs q.cls q.d
def OwnAt (E : Env) (σ : L2.St) (i : Nat) (a : Addr) : Prop := (∃ d, E[i]? = some (some (.new d))) ∧ σ[i]? = some (some (.ref a))
structure Sim (L : Lk) (B : Bs) (m : List Addr) (F : Addr → Prop) (E : Env) (st : Sto) (σ : L2.St) (H : Hp) : Prop where
  wd : Wd L m F st H
  ex : Ext B.m B.F B.H m F H
  sl : ∀ (i : Nat) (v : Val), E[i]? = some (some v) → ∃ x, σ[i]? = some (some x) ∧ SlR L B m F H i v x
  ln : E.length = σ.length
  ij : ∀ i j a, OwnAt E σ i a → OwnAt E σ j a → i = j
/-- an expression's value; H0: the heap ahead of it -/
def VRep (L : Lk) (m : List Addr) (F : Addr → Prop) (H : Hp) (E : Env) (σ : L2.St) (H0 : Hp) : Val → V → Prop
  | .dat d, x => Rep L m F H d x
  | .new d, x => ∃ a, x = .ref a ∧ ORep L m F H a d ∧ ¬ F a ∧ a ∉ m ∧ H0 a = none
  | .bor d, x => ∃ i : Nat, E[i]? = some (some (.new d)) ∧ σ[i]? = some (some x)
  | .xv c fs, x => ∃ i : Nat, E[i]? = some (some (.xv c fs)) ∧ σ[i]? = some (some x)
section
variable {L : Lk} {B : Bs} {W : WX} {o : Orc} {m m0 m1 m2 m' : List Addr} {F F0 F1 F2 F' : Addr → Prop} {H H0 H1 H2 H' : Hp} {E : Env} {st st' : Sto} {σ : L2.St} {Q : V → Hp → Prop} {me : ME}

theorem XRep.mono {c : Nat} {fs : List (Nat × D)} {cls : Value} {d : Option Addr} (M : Mono m F H m' F' H') (h : XRep L m F H c fs cls d) : XRep L m' F' H' c fs cls d := by
  obtain ⟨e, h⟩ := h
  refine ⟨e, ?_⟩
  cases d with
  | none => exact h
  | some dd => obtain ⟨f, fv, e, r⟩ := h; exact ⟨M.fm _ f, fv, (M.st _ f).xd e, RepF.mono M _ _ r⟩
theorem VRep.ext {v : Val} {x : V} (X : Ext m F H m' F' H') (h : VRep L m F H E σ H0 v x) : VRep L m' F' H' E σ H0 v x := by
  cases v with
  | dat d => exact Rep.mono X.mono _ _ h
  | new d =>
    obtain ⟨a, e, r, nf, nm, n0⟩ := h
    obtain ⟨k, nf', nm'⟩ := X.own r.there nm nf
    exact ⟨a, e, r.mono X.mono k, nf', nm', n0⟩
  | bor d => exact h
  | xv c fs => exact h
theorem VRep.base {v : Val} {x : V} (n : ∀ a, H0 a = none → H1 a = none) (h : VRep L m F H E σ H0 v x) : VRep L m F H E σ H1 v x := by
  cases v with
  | dat d => exact h
  | new d => obtain ⟨a, e, r, nf, nm, n0⟩ := h; exact ⟨a, e, r, nf, nm, n a n0⟩
  | bor d => exact h
  | xv c fs => exact h
theorem VRep.look {v : Val} {x : V} (S : Sim L B m F E st σ H) (h : VRep L m F H E σ H0 v x) : Look L m F H v.d x ∨ v.d = .bad := by
  cases v with
  | dat d => exact .inl (Rep.look h)
  | new d => obtain ⟨a, rfl, r, _⟩ := h; exact .inl r.look
  | bor d =>
    obtain ⟨i, e, e2⟩ := h
    obtain ⟨y, e3, a, rfl, r, _⟩ := S.sl i _ e
    rw [e2] at e3; cases e3
    exact .inl r.look
  | xv c fs => exact .inr rfl

/-! ### a new object -/
theorem Ext.fresh {p : Addr} {u : HO} (hp : H p = none) : Ext m F H m F (upd H p u) :=
  ⟨⟨[], by simp, by simp⟩, fun _ h => h, fun _ h => .inl h, fun a o e _ _ => by rw [upd_ne (ne_of_none e hp)]; exact e, fun a _ => Stay.of fun o e => by rw [upd_ne (ne_of_none e hp)]; exact e,
    fun a h => by
      by_cases e : a = p
      · rw [e, upd_same] at h; cases h
      · rw [upd_ne e] at h; exact h⟩
theorem Sim.step (S : Sim L B m F E st σ H) (X : Ext m F H m F H') (w : ∀ (n : Nat) (a : Addr) o, m[n]? = some a → H a = some o → H' a = some o) : Sim L B m F E st σ H' := by
  have M := X.mono
  refine ⟨⟨fun n d e => ?_, S.wd.ln, S.wd.nd, fun a f => ⟨X.there (S.wd.ft a f).1, (S.wd.ft a f).2⟩⟩, S.ex.trans X, fun i v e => ?_, S.ln, S.ij⟩
  · obtain ⟨a, e1, r⟩ := S.wd.ce n d e
    exact ⟨a, e1, r.mono M fun o q => w n a o e1 q⟩
  · obtain ⟨x, e1, r⟩ := S.sl i v e
    refine ⟨x, e1, ?_⟩
    cases v with
    | dat d => exact Rep.mono M _ _ r
    | new d =>
      obtain ⟨a, e, r, nf, nm, n0⟩ := r
      exact ⟨a, e, r.mono M fun o q => X.kp a o q nm nf, nf, nm, n0⟩
    | bor d => exact r
    | xv c fs => obtain ⟨q, e, e2, e3, r⟩ := r; exact ⟨q, e, e2, e3, r.mono M⟩
theorem Sim.fresh {p : Addr} {u : HO} (S : Sim L B m F E st σ H) (hp : H p = none) : Sim L B m F E st σ (upd H p u) :=
  S.step (Ext.fresh hp) fun n a o _ e => by rw [upd_ne (ne_of_none e hp)]; exact e
def Fp (F : Addr → Prop) (p : Addr) : Addr → Prop := fun a => F a ∨ a = p
theorem Mono.fp {p : Addr} : Mono m F H m (Fp F p) H := ⟨fun _ _ h => h, fun _ h => .inl h, fun _ _ => Stay.refl⟩
/-- an object is kept from now on -/
theorem Sim.keep {p : Addr} (S : Sim L B m F E st σ H) (hp : H p ≠ none) (hm : p ∉ m) (ho : ∀ i, ¬ OwnAt E σ i p) (hb : B.H p = none) : Sim L B m (Fp F p) E st σ H := by
  have M : Mono m F H m (Fp F p) H := Mono.fp
  refine ⟨⟨fun n d e => ?_, S.wd.ln, S.wd.nd, fun a f => ?_⟩, ⟨S.ex.mp, fun a f => .inl (S.ex.fm a f), fun a f => ?_, S.ex.kp, S.ex.st, S.ex.tr⟩, fun i v e => ?_, S.ln, S.ij⟩
  · obtain ⟨a, e1, r⟩ := S.wd.ce n d e
    exact ⟨a, e1, r.mono M fun o q => q⟩
  · rcases f with f | rfl
    · exact S.wd.ft a f
    · exact ⟨hp, hm⟩
  · rcases f with f | rfl
    · exact S.ex.fn a f
    · exact .inr hb
  · obtain ⟨x, e1, r⟩ := S.sl i v e
    refine ⟨x, e1, ?_⟩
    cases v with
    | dat d => exact Rep.mono M _ _ r
    | new d =>
      obtain ⟨a, rfl, r, nf, nm, n0⟩ := r
      refine ⟨a, rfl, r.mono M fun o q => q, fun z => ?_, nm, n0⟩
      rcases z with z | rfl
      · exact nf z
      · exact ho i ⟨⟨d, e⟩, e1⟩
    | bor d => exact r
    | xv c fs => obtain ⟨q, e, e2, e3, r⟩ := r; exact ⟨q, e, e2, e3, r.mono M⟩
theorem Ext.keep {p : Addr} (X : Ext m0 F0 H0 m F H) (h0 : H0 p = none) : Ext m0 F0 H0 m (Fp F p) H :=
  ⟨X.mp, fun a f => .inl (X.fm a f), fun a f => f.elim (X.fn a) fun e => .inr (e ▸ h0), X.kp, X.st, X.tr⟩
theorem Sim.ownThere {i : Nat} {a : Addr} (S : Sim L B m F E st σ H) (h : OwnAt E σ i a) : H a ≠ none := by
  obtain ⟨⟨d, e⟩, e2⟩ := h
  obtain ⟨x, e3, b, rfl, r, _⟩ := S.sl i _ e
  rw [e2] at e3; cases e3
  exact r.there
/-- where an evaluation begins -/
structure Beg (B : Bs) (E : Env) (σ : L2.St) (H0 : Hp) : Prop where
  tr : ∀ a, H0 a = none → B.H a = none
  ow : ∀ i a, OwnAt E σ i a → H0 a ≠ none
theorem Sim.beg (S : Sim L B m F E st σ H) : Beg B E σ H := ⟨S.ex.tr, fun i a q => S.ownThere q⟩
theorem kp_new {d e : D} (k : (Val.new e).kp = some d) : e = d ∧ ∀ xs, e ≠ .set xs := by
  cases e <;> simp [Val.kp, D.isSet] at k <;> first | exact ⟨k, fun _ z => nomatch z⟩ | cases k
/-- a value that is kept -/
theorem VRep.kept {v : Val} {x : V} {d : D} (X : Ext m0 F0 H0 m F H) (G : Beg B E σ H0) (S : Sim L B m F E st σ H) (r : VRep L m F H E σ H0 v x) (k : v.kp = some d) :
    ∃ F', Ext m0 F0 H0 m F' H ∧ Sim L B m F' E st σ H ∧ Rep L m F' H d x ∧ (∀ a, F a → F' a) ∧ ∀ a, F' a → F a ∨ ((∃ d, v = .new d) ∧ x = .ref a) := by
  cases v with
  | dat e => cases k; exact ⟨F, X, S, r, fun _ h => h, fun _ h => .inl h⟩
  | new e =>
    obtain ⟨rfl, ns⟩ := kp_new k
    obtain ⟨a, rfl, r, nf, nm, n0⟩ := r
    refine ⟨Fp F a, X.keep n0, S.keep r.there nm (fun i q => G.ow i a q n0) (G.tr a n0), ?_, fun _ h => .inl h, fun b h => h.imp id fun e => ⟨⟨_, rfl⟩, by rw [e]⟩⟩
    exact (r.mono (Mono.fp) fun o q => q).kept (.inr rfl) ns
  | bor e => cases k
  | xv c fs => cases k

/-! ### the reading -/
/-- what is wanted behind an evaluation that began at (m, F, H) -/
def Post (L : Lk) (B : Bs) (W : WX) (m : List Addr) (F : Addr → Prop) (H : Hp) (E : Env) (σ : L2.St) (r : ER Val) (Q : V → Hp → Prop) : Prop :=
  match r with
  | .ok v st => ∀ m' F' x H', Ext m F H m' F' H' → Sim L B m' F' E st σ H' → VRep L m' F' H' E σ H v x → Q x H'
  | .ex xc st => ∀ m' F' H' cls d, Ext m F H m' F' H' → Sim L B m' F' E st σ H' → XRep L m' F' H' xc.c xc.fs cls d → W cls d σ H'
  | .bad => False
def tE (L : Lk) (B : Bs) (W : WX) (o : Orc) (me : ME) : TE := fun σ H Q => ∃ m F E st, Sim L B m F E st σ H ∧ Post L B W m F H E σ (evE o me E st) Q
theorem Post.mono {Q' : V → Hp → Prop} {r : ER Val} (h : Post L B W m F H E σ r Q) (q : ∀ x H, Q x H → Q' x H) : Post L B W m F H E σ r Q' := by
  cases r with
  | ok v st => exact fun m' F' x H' a b c => q _ _ (h m' F' x H' a b c)
  | ex x st => exact h
  | bad => exact h
theorem tE.mono {Q' : V → Hp → Prop} (q : ∀ x H, Q x H → Q' x H) (h : tE L B W o me σ H Q) : tE L B W o me σ H Q' := by
  obtain ⟨m, F, E, st, S, h⟩ := h
  exact ⟨m, F, E, st, S, h.mono q⟩
theorem tE_bind {f : Val → Sto → ER Val} (X : Ext m0 F0 H0 m F H) (S : Sim L B m F E st σ H) (h : Post L B W m0 F0 H0 E σ ((evE o me E st).bind f) Q) :
    tE L B W o me σ H (fun x H1 => ∃ m1 F1 st1 v, Ext m F H m1 F1 H1 ∧ Ext m0 F0 H0 m1 F1 H1 ∧ Sim L B m1 F1 E st1 σ H1 ∧ VRep L m1 F1 H1 E σ H v x ∧ Post L B W m0 F0 H0 E σ (f v st1) Q) := by
  refine ⟨m, F, E, st, S, ?_⟩
  cases e : evE o me E st with
  | ok v st1 =>
    rw [e] at h
    exact fun m1 F1 x H1 a b c => ⟨m1, F1, st1, v, a, X.trans a, b, c, h⟩
  | ex xc st1 =>
    rw [e] at h
    exact fun m1 F1 H1 cls d a b c => h m1 F1 H1 cls d (X.trans a) b c
  | bad =>
    rw [e] at h
    exact h
/-- .. an evaluation that wants nothing behind it -/
theorem Post.at {r : ER Val} (X : Ext m0 F0 H0 m F H) (h : Post L B W m0 F0 H0 E σ r Q) : Post L B W m F H E σ r Q := by
  cases r with
  | ok v st => exact fun m1 F1 x H1 a b c => h m1 F1 x H1 (X.trans a) b (c.base X.tr)
  | ex xc st => exact fun m1 F1 H1 cls d a b c => h m1 F1 H1 cls d (X.trans a) b c
  | bad => exact h
theorem Post.dat {d : D} {x : V} (X : Ext m0 F0 H0 m F H) (S : Sim L B m F E st σ H) (h : Post L B W m0 F0 H0 E σ (.ok (.dat d) st) Q) (r : Rep L m F H d x) : Q x H := h m F x H X S r
/-- a new container -/
theorem Post.new {d : D} {u : HO} {p : Addr} (X : Ext m0 F0 H0 m F H) (S : Sim L B m F E st σ H) (h : Post L B W m0 F0 H0 E σ (.ok (.new d) st) Q) (hp : H p = none)
    (r : Mono m F H m F (upd H p u) → ORep L m F (upd H p u) p d) (hm : p ∉ m) : Q (.ref p) (upd H p u) := by
  have Y : Ext m F H m F (upd H p u) := Ext.fresh hp
  exact h m F _ _ (X.trans Y) (S.fresh hp) ⟨p, rfl, r Y.mono, fun z => (S.wd.ft p z).1 hp, hm, X.tr p hp⟩
theorem Sim.notcell {p : Addr} (S : Sim L B m F E st σ H) (hp : H p = none) : p ∉ m := fun hm => by
  obtain ⟨n, hn, e⟩ := List.getElem_of_mem hm
  have e' : m[n]? = some p := List.getElem?_eq_some_iff.mpr ⟨hn, e⟩
  have hl : n < st.length := by rw [← S.wd.ln]; exact hn
  obtain ⟨a, e1, r⟩ := S.wd.ce n st[n] (List.getElem?_eq_some_iff.mpr ⟨hl, rfl⟩)
  rw [e'] at e1; cases e1
  exact r.there hp
/-- a new tuple -/
theorem Post.datNew {d : D} {u : HO} {p : Addr} (X : Ext m0 F0 H0 m F H) (S : Sim L B m F E st σ H) (h : Post L B W m0 F0 H0 E σ (.ok (.dat d) st) Q) (hp : H p = none)
    (r : Mono m F H m (Fp F p) (upd H p u) → Rep L m (Fp F p) (upd H p u) d (.ref p)) : Q (.ref p) (upd H p u) := by
  have Y : Ext m F H m F (upd H p u) := Ext.fresh hp
  have S1 := S.fresh (u := u) hp
  have S2 : Sim L B m (Fp F p) E st σ (upd H p u) := S1.keep (by rw [upd_same]; exact fun z => nomatch z) (S.notcell hp) (fun i q => by
    have := S.ownThere q
    exact this hp) (S.ex.tr p hp)
  exact h m (Fp F p) _ _ ((X.trans Y).keep (X.tr p hp)) S2 (r ⟨fun _ _ z => z, fun _ z => .inl z, fun a _ => Y.st a ‹_›⟩)
end
end Mp

end
section
set_option Elab.async false
set_option linter.all false
set_option maxRecDepth 100000
set_option maxHeartbeats 4000000
/-! S3: rows of values (arguments, displays). -/
namespace Mp
open PySem PySem.Spec PyProof.Rows L2

theorem _root_.L2.PE.imp {X : Cx} {e : Expr} {t t' : TE} (h : PE X e t) (q : ∀ σ H Q, t' σ H Q → t σ H Q) : PE X e t' := ⟨fun pins s σ H Q I z => h.run pins s σ H Q I (q _ _ _ z)⟩
theorem _root_.L2.PT.imp {X : Cx} {e : Expr} {t t' : TT} (h : PT X e t) (q : ∀ σ H Q, t' σ H Q → t σ H Q) : PT X e t' := ⟨fun pins s σ H Q I z => h.run pins s σ H Q I (q _ _ _ z)⟩
theorem _root_.L2.PA.imp {X : Cx} {e : List Expr} {t t' : TA} (h : PA X e t) (q : ∀ σ H Q, t' σ H Q → t σ H Q) : PA X e t' := ⟨fun pos pins s σ H Q I z => h.run pos pins s σ H Q I (q _ _ _ z)⟩
theorem _root_.L2.PS.imp {X : Cx} {e : Stmt} {t t' : TS} (h : PS X e t) (q : ∀ D σ H, t' D σ H → t D σ H) : PS X e t' := ⟨fun pins s σ H D I z => h.run pins s σ H D I (q _ _ _ z)⟩
theorem _root_.L2.PSs.imp {X : Cx} {e : List Stmt} {t t' : TS} (h : PSs X e t) (q : ∀ D σ H, t' D σ H → t D σ H) : PSs X e t' := ⟨fun pins s σ H D I z => h.run pins s σ H D I (q _ _ _ z)⟩

/-- the new ones among values -/
def news : List Val → List V → List V
  | v :: vs, x :: xs => (match v with | .new _ => [x] | _ => []) ++ news vs xs
  | _, _ => []
def VsL (L : Lk) (m : List Addr) (F : Addr → Prop) (H : Hp) (E : Env) (σ : L2.St) (H0 : Hp) : List Val → List V → Prop
  | [], [] => True
  | v :: vs, x :: xs => VRep L m F H E σ H0 v x ∧ VsL L m F H E σ H0 vs xs
  | _, _ => False
structure VsRep (L : Lk) (m : List Addr) (F : Addr → Prop) (H : Hp) (E : Env) (σ : L2.St) (H0 : Hp) (vs : List Val) (xs : List V) : Prop where
  al : VsL L m F H E σ H0 vs xs
  nd : (news vs xs).Nodup
section
variable {L : Lk} {B : Bs} {W : WX} {o : Orc} {m m0 m1 m2 m' : List Addr} {F F0 F1 F2 F' : Addr → Prop} {H H0 H1 H2 H' : Hp} {E : Env} {st st' : Sto} {σ : L2.St} {Q : V → Hp → Prop} {QL : List V → Hp → Prop} {me : ME} {mes : List ME}
theorem VsL.ext (X : Ext m F H m' F' H') : ∀ {vs : List Val} {xs : List V}, VsL L m F H E σ H0 vs xs → VsL L m' F' H' E σ H0 vs xs
  | [], [], _ => trivial
  | _ :: _, _ :: _, h => ⟨h.1.ext X, VsL.ext X h.2⟩
theorem VsL.base (n : ∀ a, H0 a = none → H1 a = none) : ∀ {vs : List Val} {xs : List V}, VsL L m F H E σ H0 vs xs → VsL L m F H E σ H1 vs xs
  | [], [], _ => trivial
  | _ :: _, _ :: _, h => ⟨h.1.base n, VsL.base n h.2⟩
theorem VsRep.ext {vs : List Val} {xs : List V} (X : Ext m F H m' F' H') (h : VsRep L m F H E σ H0 vs xs) : VsRep L m' F' H' E σ H0 vs xs := ⟨h.al.ext X, h.nd⟩
theorem news_fresh : ∀ {vs : List Val} {xs : List V}, VsL L m F H E σ H0 vs xs → ∀ y ∈ news vs xs, ∃ a, y = .ref a ∧ H0 a = none
  | [], [], _, y, hy => by simp [news] at hy
  | v :: vs, x :: xs, h, y, hy => by
    simp only [news, List.mem_append] at hy
    rcases hy with hy | hy
    · cases v with
      | new d => simp at hy; subst hy; obtain ⟨a, e, _, _, _, n⟩ := h.1; exact ⟨a, e, n⟩
      | _ => simp at hy
    · exact news_fresh h.2 y hy
theorem VsRep.cons {v : Val} {x : V} {vs : List Val} {xs : List V} (X : Ext m F H m1 F1 H1) (Y : Ext m1 F1 H1 m2 F2 H2) (h : VRep L m1 F1 H1 E σ H v x) (t : VsRep L m2 F2 H2 E σ H1 vs xs) : VsRep L m2 F2 H2 E σ H (v :: vs) (x :: xs) := by
  refine ⟨⟨h.ext Y, t.al.base X.tr⟩, ?_⟩
  simp only [news]
  rw [List.nodup_append]
  refine ⟨?_, t.nd, fun a ha b hb e => ?_⟩
  · cases v <;> simp
  · cases v with
    | new d =>
      simp at ha
      obtain ⟨p, e1, r, _⟩ := h
      obtain ⟨q, e2, n⟩ := news_fresh t.al b hb
      rw [← e, ha, e1] at e2
      cases e2
      exact r.there n
    | _ => simp at ha
def PostL (L : Lk) (B : Bs) (W : WX) (m : List Addr) (F : Addr → Prop) (H : Hp) (E : Env) (σ : L2.St) (r : ER (List Val)) (Q : List V → Hp → Prop) : Prop :=
  match r with
  | .ok vs st => ∀ m' F' xs H', Ext m F H m' F' H' → Sim L B m' F' E st σ H' → VsRep L m' F' H' E σ H vs xs → Q xs H'
  | .ex xc st => ∀ m' F' H' cls d, Ext m F H m' F' H' → Sim L B m' F' E st σ H' → XRep L m' F' H' xc.c xc.fs cls d → W cls d σ H'
  | .bad => False
def tL (L : Lk) (B : Bs) (W : WX) (o : Orc) (mes : List ME) : TA := fun σ H Q => ∃ m F E st, Sim L B m F E st σ H ∧ PostL L B W m F H E σ (evL o mes E st) Q
theorem tL.mono {Q' : List V → Hp → Prop} (q : ∀ x H, QL x H → Q' x H) (h : tL L B W o mes σ H QL) : tL L B W o mes σ H Q' := by
  obtain ⟨m, F, E, st, S, h⟩ := h
  refine ⟨m, F, E, st, S, ?_⟩
  cases e : evL o mes E st with
  | ok v st => rw [e] at h; exact fun m' F' x H' a b c => q _ _ (h m' F' x H' a b c)
  | ex x st => rw [e] at h; exact h
  | bad => rw [e] at h; exact h
theorem tL_bind {f : List Val → Sto → ER Val} (X : Ext m0 F0 H0 m F H) (S : Sim L B m F E st σ H) (h : Post L B W m0 F0 H0 E σ ((evL o mes E st).bind f) Q) :
    tL L B W o mes σ H (fun xs H1 => ∃ m1 F1 st1 vs, Ext m F H m1 F1 H1 ∧ Ext m0 F0 H0 m1 F1 H1 ∧ Sim L B m1 F1 E st1 σ H1 ∧ VsRep L m1 F1 H1 E σ H vs xs ∧ evL o mes E st = .ok vs st1 ∧ Post L B W m0 F0 H0 E σ (f vs st1) Q) := by
  refine ⟨m, F, E, st, S, ?_⟩
  cases e : evL o mes E st with
  | ok v st1 =>
    rw [e] at h
    exact fun m1 F1 x H1 a b c => ⟨m1, F1, st1, v, a, X.trans a, b, c, rfl, h⟩
  | ex xc st1 =>
    rw [e] at h
    exact fun m1 F1 H1 cls d a b c => h m1 F1 H1 cls d (X.trans a) b c
  | bad =>
    rw [e] at h
    exact h
theorem tL_nil (h : tL L B W o [] σ H QL) : tNil σ H QL := by
  obtain ⟨m, F, E, st, S, h⟩ := h
  have h : PostL L B W m F H E σ (.ok [] st) QL := h
  exact h m F [] H Ext.refl S ⟨trivial, List.nodup_nil⟩
theorem tL_cons (h : tL L B W o (me :: mes) σ H QL) : tCons (tE L B W o me) (tL L B W o mes) σ H QL := by
  obtain ⟨m, F, E, st, S, h⟩ := h
  have h : PostL L B W m F H E σ ((evE o me E st).bind fun v st1 => (evL o mes E st1).bind fun vs st2 => .ok (v :: vs) st2) QL := by
    have e : evL o (me :: mes) E st = (evE o me E st).bind fun v st1 => (evL o mes E st1).bind fun vs st2 => .ok (v :: vs) st2 := by rw [evL]
    rw [← e]; exact h
  refine ⟨m, F, E, st, S, ?_⟩
  cases e : evE o me E st with
  | bad => rw [e] at h; exact h
  | ex xc st1 => rw [e] at h; exact h
  | ok v st1 =>
    rw [e] at h
    intro m1 F1 x H1 X1 S1 r1
    refine ⟨m1, F1, E, st1, S1, ?_⟩
    have h : PostL L B W m F H E σ ((evL o mes E st1).bind fun vs st2 => .ok (v :: vs) st2) QL := h
    cases e2 : evL o mes E st1 with
    | bad => rw [e2] at h; exact h
    | ex xc st2 => rw [e2] at h; exact fun m2 F2 H2 cls d a b c => h m2 F2 H2 cls d (X1.trans a) b c
    | ok vs st2 =>
      rw [e2] at h
      intro m2 F2 xs H2 X2 S2 r2
      exact h m2 F2 _ H2 (X1.trans X2) S2 (VsRep.cons X1 X2 r1 r2)
/-- what is not among the newly kept stays a value -/
theorem VsL.keepF (M : Mono m F H m F' H) : ∀ {vs : List Val} {xs : List V}, (∀ a, F' a → F a ∨ V.ref a ∉ news vs xs) → VsL L m F H E σ H0 vs xs → VsL L m F' H E σ H0 vs xs
  | [], [], _, _ => trivial
  | v :: vs, x :: xs, n, h => by
    refine ⟨?_, VsL.keepF M (fun a fa => (n a fa).imp id fun q z => q (by simp only [news]; exact List.mem_append_right _ z)) h.2⟩
    have h1 := h.1
    cases v with
    | dat d => exact Rep.mono M _ _ h1
    | new d =>
      obtain ⟨a, rfl, r, nf, nm, n0⟩ := h1
      refine ⟨a, rfl, r.mono M fun o q => q, fun z => ?_, nm, n0⟩
      rcases n a z with q | q
      · exact nf q
      · exact q (by simp [news])
    | bor d => exact h1
    | xv c fs => exact h1
/-- values that are kept -/
theorem VsRep.kept : ∀ {vs : List Val} {xs : List V} {ds : List D} {F : Addr → Prop}, Ext m0 F0 H0 m F H → Beg B E σ H0 → Sim L B m F E st σ H → VsL L m F H E σ H0 vs xs → (news vs xs).Nodup → kpL vs = some ds →
    ∃ F', Ext m0 F0 H0 m F' H ∧ Sim L B m F' E st σ H ∧ RepL L m F' H ds xs ∧ (∀ a, F a → F' a) ∧ ∀ a, F' a → F a ∨ V.ref a ∈ news vs xs
  | [], [], ds, F, X, G, S, h, nd, k => by cases k; exact ⟨F, X, S, by simp only [RepL], fun _ h => h, fun _ h => .inl h⟩
  | v :: vs, x :: xs, ds, F, X, G, S, h, nd, k => by
    unfold kpL at k
    cases e1 : v.kp with
    | none => rw [e1] at k; cases k
    | some d =>
      cases e2 : kpL vs with
      | none => rw [e1, e2] at k; cases k
      | some ds' =>
        rw [e1, e2] at k
        cases k
        simp only [news] at nd
        rw [List.nodup_append] at nd
        obtain ⟨n1, n2, n3⟩ := nd
        obtain ⟨F1, X1, S1, r1, m1, hF⟩ := VRep.kept X G S h.1 e1
        have M1 : Mono m F H m F1 H := ⟨fun _ _ z => z, m1, fun _ _ => Stay.refl⟩
        have t1 : VsL L m F1 H E σ H0 vs xs := VsL.keepF M1 (fun a fa => (hF a fa).imp id fun ⟨⟨d, e⟩, e3⟩ z => by
          subst e e3
          exact n3 (.ref a) (by simp) (.ref a) z rfl) h.2
        obtain ⟨F2, X2, S2, r2, m2, hF2⟩ := VsRep.kept X1 G S1 t1 n2 e2
        have M2 : Mono m F1 H m F2 H := ⟨fun _ _ z => z, m2, fun _ _ => Stay.refl⟩
        refine ⟨F2, X2, S2, by simp only [RepL]; exact ⟨Rep.mono M2 _ _ r1, r2⟩, fun a z => m2 a (m1 a z), fun a z => ?_⟩
        simp only [news, List.mem_append]
        rcases hF2 a z with z | z
        · rcases hF a z with z | ⟨⟨d, e⟩, e3⟩
          · exact .inl z
          · subst e e3; exact .inr (.inl (by simp))
        · exact .inr (.inr z)
end
end Mp

end
section
set_option Elab.async false
set_option linter.all false
set_option maxRecDepth 100000
set_option maxHeartbeats 4000000
/-! S4: the operations on values. -/
namespace Mp
open PySem PySem.Spec PyProof.Rows L2

/-- a result: a value, or a new object -/
def ResV (L : Lk) (m : List Addr) (F : Addr → Prop) (H : Hp) : Val → V → Prop
  | .dat d, v => Rep L m F H d v
  | _, _ => False
def ResN (L : Lk) (m : List Addr) (F : Addr → Prop) (H : Hp) : Val → HO → Prop
  | .dat (.tup ds), u => ∃ vs, u = .tup vs ∧ RepL L m F H ds vs ∧ ds.length ≤ szMax
  | .new (.lst ds), u => ∃ vs, u = .lst vs ∧ RepL L m F H ds vs ∧ ds.length ≤ szMax
  | .new (.dct ds), u => ∃ vs, u = .dK vs ∧ RepK L m F H ds vs ∧ ds.length ≤ szMax
  | _, _ => False
structure Res (L : Lk) (m : List Addr) (F : Addr → Prop) (H : Hp) (z : Val) (Q : V → Hp → Prop) : Prop where
  v : ∀ v, ResV L m F H z v → Q v H
  n : ∀ p u, H p = none → ResN L m F H z u → Q (.ref p) (upd H p u)
section
variable {L : Lk} {B : Bs} {W : WX} {o : Orc} {m m0 m1 m2 m' : List Addr} {F F0 F1 F2 F' : Addr → Prop} {H H0 H1 H2 H' : Hp} {E : Env} {st st' : Sto} {σ : L2.St} {Q : V → Hp → Prop}
theorem Post.res {z : Val} (X : Ext m0 F0 H0 m F H) (S : Sim L B m F E st σ H) (h : Post L B W m0 F0 H0 E σ (.ok z st) Q) : Res L m F H z Q := by
  refine ⟨fun v r => ?_, fun p u hp r => ?_⟩
  · cases z with
    | dat d => exact Post.dat X S h r
    | _ => exact r.elim
  · cases z with
    | dat d =>
      cases d with
      | tup ds =>
        obtain ⟨vs, rfl, r, z⟩ := r
        exact Post.datNew X S h hp fun M => by
          simp only [Rep]
          exact ⟨p, vs, rfl, .inl ⟨.inr rfl, .inl upd_same⟩, RepL.mono M _ _ r, z⟩
      | _ => exact r.elim
    | new d =>
      cases d with
      | lst ds =>
        obtain ⟨vs, rfl, r, z⟩ := r
        exact Post.new X S h hp (fun M => by simp only [ORep]; exact ⟨vs, upd_same, RepL.mono M _ _ r, z⟩) (S.notcell hp)
      | dct ds =>
        obtain ⟨vs, rfl, r, z⟩ := r
        exact Post.new X S h hp (fun M => by simp only [ORep]; exact ⟨vs, upd_same, RepK.mono M _ _ r, z⟩) (S.notcell hp)
      | _ => exact r.elim
    | _ => exact r.elim
theorem Post.resO {z : Option Val} (X : Ext m0 F0 H0 m F H) (S : Sim L B m F E st σ H) (h : Post L B W m0 F0 H0 E σ (ER.opt z st) Q) : ∃ v, z = some v ∧ Res L m F H v Q := by
  cases z with
  | none => exact h.elim
  | some v => exact ⟨v, rfl, Post.res X S h⟩

theorem RepL.len : ∀ {ds : List D} {vs : List V}, RepL L m F H ds vs → ds.length = vs.length
  | [], [], _ => rfl
  | d :: ds, v :: vs, h => by simp only [RepL] at h; rw [List.length_cons, List.length_cons, RepL.len h.2]
  | [], _ :: _, h => by simp only [RepL] at h
  | _ :: _, [], h => by simp only [RepL] at h
theorem RepL.append : ∀ {ds es : List D} {vs ws : List V}, RepL L m F H ds vs → RepL L m F H es ws → RepL L m F H (ds ++ es) (vs ++ ws)
  | [], es, [], ws, _, h => h
  | d :: ds, es, v :: vs, ws, h, g => by simp only [RepL, List.cons_append] at h ⊢; exact ⟨h.1, RepL.append h.2 g⟩
  | [], _, _ :: _, _, h, _ => by simp only [RepL] at h
  | _ :: _, _, [], _, h, _ => by simp only [RepL] at h
theorem RepL.get : ∀ {ds : List D} {vs : List V} {i : Nat} {d : D}, RepL L m F H ds vs → ds[i]? = some d → ∃ v, vs[i]? = some v ∧ Rep L m F H d v
  | [], _, _, _, _, e => by simp at e
  | d :: ds, v :: vs, 0, _, h, e => by simp only [RepL] at h; simp at e; subst e; exact ⟨v, rfl, h.1⟩
  | d :: ds, v :: vs, i + 1, _, h, e => by simp only [RepL] at h; simpa using RepL.get (i := i) h.2 (by simpa using e)
  | _ :: _, [], _, _, h, _ => by simp only [RepL] at h
theorem RepL.take : ∀ {ds : List D} {vs : List V} (n : Nat), RepL L m F H ds vs → RepL L m F H (ds.take n) (vs.take n)
  | _, _, 0, _ => by simp [RepL]
  | [], [], n + 1, _ => by simp [RepL]
  | d :: ds, v :: vs, n + 1, h => by simp only [RepL, List.take_succ_cons] at h ⊢; exact ⟨h.1, RepL.take n h.2⟩
  | [], _ :: _, _ + 1, h => by simp only [RepL] at h
  | _ :: _, [], _ + 1, h => by simp only [RepL] at h
theorem RepL.drop : ∀ {ds : List D} {vs : List V} (n : Nat), RepL L m F H ds vs → RepL L m F H (ds.drop n) (vs.drop n)
  | _, _, 0, h => h
  | [], [], n + 1, _ => by simp [RepL]
  | d :: ds, v :: vs, n + 1, h => by simp only [RepL, List.drop_succ_cons] at h ⊢; exact RepL.drop n h.2
  | [], _ :: _, _ + 1, h => by simp only [RepL] at h
  | _ :: _, [], _ + 1, h => by simp only [RepL] at h
theorem RepL.rev {ds : List D} {vs : List V} (h : RepL L m F H ds vs) : RepL L m F H ds.reverse vs.reverse := by
  induction ds generalizing vs with
  | nil => cases vs with | nil => simp [RepL] | cons _ _ => simp only [RepL] at h
  | cons d ds ih => cases vs with
    | nil => simp only [RepL] at h
    | cons v vs =>
      simp only [RepL] at h
      rw [List.reverse_cons, List.reverse_cons]
      exact RepL.append (ih h.2) (by simp only [RepL]; exact ⟨h.1, trivial⟩)
theorem RepL.rep {ds : List D} {vs : List V} (h : RepL L m F H ds vs) : ∀ k : Nat, RepL L m F H (List.replicate k ds).flatten (List.replicate k vs).flatten
  | 0 => by simp [RepL]
  | k + 1 => by rw [List.replicate_succ, List.replicate_succ, List.flatten_cons, List.flatten_cons]; exact RepL.append h (RepL.rep h k)
theorem RepL.set : ∀ {ds : List D} {vs : List V} {d : D} {v : V} (i : Nat), RepL L m F H ds vs → Rep L m F H d v → RepL L m F H (ds.set i d) (vs.set i v)
  | [], [], _, _, _, _, _ => by simp [RepL]
  | d :: ds, v :: vs, _, _, 0, h, g => by simp only [RepL, List.set_cons_zero] at h ⊢; exact ⟨g, h.2⟩
  | d :: ds, v :: vs, _, _, i + 1, h, g => by simp only [RepL, List.set_cons_succ] at h ⊢; exact ⟨h.1, RepL.set i h.2 g⟩
  | [], _ :: _, _, _, _, h, _ => by simp only [RepL] at h
  | _ :: _, [], _, _, _, h, _ => by simp only [RepL] at h
theorem RepL.ints : ∀ {ds : List D} {vs : List V} {l : List Int}, RepL L m F H ds vs → ints? ds = some l → vs = l.map V.int
  | [], [], l, _, e => by simp [ints?] at e; subst e; rfl
  | .int i :: ds, v :: vs, l, h, e => by
    simp only [RepL, Rep] at h
    simp only [ints?, Option.map_eq_some_iff] at e
    obtain ⟨l', e, rfl⟩ := e
    rw [h.1, RepL.ints h.2 e]; rfl
  | [], _ :: _, _, h, _ => by simp only [RepL] at h
  | _ :: _, [], _, h, _ => by simp only [RepL] at h
  | .non :: _, _ :: _, _, _, e => by simp [ints?] at e
  | .bl _ :: _, _ :: _, _, _, e => by simp [ints?] at e
  | .str _ :: _, _ :: _, _, _, e => by simp [ints?] at e
  | .tup _ :: _, _ :: _, _, _, e => by simp [ints?] at e
  | .lst _ :: _, _ :: _, _, _, e => by simp [ints?] at e
  | .dct _ :: _, _ :: _, _, _, e => by simp [ints?] at e
  | .set _ :: _, _ :: _, _, _, e => by simp [ints?] at e
  | .obj _ _ :: _, _ :: _, _, _, e => by simp [ints?] at e
  | .ref _ :: _, _ :: _, _, _, e => by simp [ints?] at e
  | .fn _ :: _, _ :: _, _, _, e => by simp [ints?] at e
  | .scr _ :: _, _ :: _, _, _, e => by simp [ints?] at e
  | .bad :: _, _ :: _, _, _, e => by simp [ints?] at e
theorem RepL.of_ints : ∀ (l : List Int), RepL L m F H (l.map D.int) (l.map V.int)
  | [] => by simp [RepL]
  | i :: l => by simp only [List.map_cons, RepL, Rep]; exact ⟨by trivial, RepL.of_ints l⟩
theorem RepL.bls : ∀ {ds : List D} {vs : List V} {l : List Bool}, RepL L m F H ds vs → bls? ds = some l → vs = l.map V.bl
  | [], [], l, _, e => by simp [bls?] at e; subst e; rfl
  | .bl i :: ds, v :: vs, l, h, e => by
    simp only [RepL, Rep] at h
    simp only [bls?, Option.map_eq_some_iff] at e
    obtain ⟨l', e, rfl⟩ := e
    rw [h.1, RepL.bls h.2 e]; rfl
  | [], _ :: _, _, h, _ => by simp only [RepL] at h
  | _ :: _, [], _, h, _ => by simp only [RepL] at h
  | .non :: _, _ :: _, _, _, e => by simp [bls?] at e
  | .int _ :: _, _ :: _, _, _, e => by simp [bls?] at e
  | .str _ :: _, _ :: _, _, _, e => by simp [bls?] at e
  | .tup _ :: _, _ :: _, _, _, e => by simp [bls?] at e
  | .lst _ :: _, _ :: _, _, _, e => by simp [bls?] at e
  | .dct _ :: _, _ :: _, _, _, e => by simp [bls?] at e
  | .set _ :: _, _ :: _, _, _, e => by simp [bls?] at e
  | .obj _ _ :: _, _ :: _, _, _, e => by simp [bls?] at e
  | .ref _ :: _, _ :: _, _, _, e => by simp [bls?] at e
  | .fn _ :: _, _ :: _, _, _, e => by simp [bls?] at e
  | .scr _ :: _, _ :: _, _, _, e => by simp [bls?] at e
  | .bad :: _, _ :: _, _, _, e => by simp [bls?] at e

/-! ### == -/
mutual
def toPD : D → PyData
  | .non => .none
  | .bl b => .bool b
  | .int i => .int i
  | .str s => .str (strV s)
  | .tup xs => .tuple (toPDL xs)
  | .lst xs => .list (toPDL xs)
  | .dct _ => .none
  | .set _ => .none
  | .obj _ _ => .none
  | .ref _ => .none
  | .fn _ => .none
  | .scr _ => .none
  | .bad => .none
def toPDL : List D → List PyData
  | [] => []
  | x :: r => toPD x :: toPDL r
end
mutual
theorem dp_of : ∀ (d : D) (n : Nat) (v : V), pd d n = true → Rep L m F H d v → Dp L.K H v (toPD d)
  | .non, n, v, p, h => by simp only [Rep] at h; subst h; exact .non
  | .bl b, n, v, p, h => by simp only [Rep] at h; subst h; exact .bl b
  | .int i, n, v, p, h => by simp only [Rep] at h; subst h; exact .int i
  | .str s, n, v, p, h => by simp only [Rep] at h; rw [h.1]; exact .str _
  | .tup xs, 0, v, p, h => by simp [pd] at p
  | .tup xs, n + 1, v, p, h => by
    simp only [pd] at p
    simp only [Rep] at h
    obtain ⟨a, vs, rfl, hs, r, _⟩ := h
    exact .tup (hs.imp (·.2) id) (dp_ofL xs n vs p r)
  | .lst xs, 0, v, p, h => by simp [pd] at p
  | .lst xs, n + 1, v, p, h => by
    simp only [pd] at p
    simp only [Rep] at h
    obtain ⟨a, vs, rfl, _, hs, r, _⟩ := h
    exact .lst (.of hs) (dp_ofL xs n vs p r)
  | .dct _, n, v, p, h => by simp [pd] at p
  | .set _, n, v, p, h => by simp [pd] at p
  | .obj _ _, n, v, p, h => by simp [pd] at p
  | .ref _, n, v, p, h => by simp [pd] at p
  | .fn _, n, v, p, h => by simp [pd] at p
  | .scr _, n, v, p, h => by simp [pd] at p
  | .bad, n, v, p, h => by simp [pd] at p
theorem dp_ofL : ∀ (ds : List D) (n : Nat) (vs : List V), pdL ds n = true → RepL L m F H ds vs → DpAll L.K H vs (toPDL ds)
  | [], n, [], p, h => .nil
  | d :: ds, n, v :: vs, p, h => by
    simp only [pdL, Bool.and_eq_true] at p
    simp only [RepL] at h
    exact .cons (dp_of d n v p.1 h.1) (dp_ofL ds n vs p.2 h.2)
  | [], n, _ :: _, p, h => by simp only [RepL] at h
  | _ :: _, n, [], p, h => by simp only [RepL] at h
end
theorem dp_look {d : D} {n : Nat} {v : V} (p : pd d n = true) (h : Look L m F H d v) : Dp L.K H v (toPD d) := by
  cases d with
  | lst xs =>
    cases n with
    | zero => simp [pd] at p
    | succ n =>
      simp only [pd] at p
      obtain ⟨a, vs, rfl, hs, r, _⟩ := h
      exact .lst (.of hs) (dp_ofL xs n vs p r)
  | dct _ => simp [pd] at p
  | set _ => simp [pd] at p
  | obj _ _ => simp [pd] at p
  | _ => exact dp_of (m := m) (F := F) _ n v p h
mutual
theorem lay_of : ∀ (d : D) (n : Nat) (v : V), pd d n = true → Rep L m F H d v → (toPD d).canLay0 = true
  | .non, n, v, p, h => rfl
  | .bl b, n, v, p, h => rfl
  | .int i, n, v, p, h => rfl
  | .str s, n, v, p, h => by
    simp only [Rep] at h
    simp only [toPD, PyData.canLay0, PyData.strOk, strV]
    rw [List.all_toArray, List.all_eq_true]
    intro c hc
    exact decide_eq_true (h.2.2 c hc)
  | .tup xs, 0, v, p, h => by simp [pd] at p
  | .tup xs, n + 1, v, p, h => by
    simp only [pd] at p
    simp only [Rep] at h
    obtain ⟨a, vs, rfl, hs, r, _⟩ := h
    simp only [toPD, PyData.canLay0]
    exact lay_ofL xs n vs p r
  | .lst xs, 0, v, p, h => by simp [pd] at p
  | .lst xs, n + 1, v, p, h => by
    simp only [pd] at p
    simp only [Rep] at h
    obtain ⟨a, vs, rfl, _, hs, r, _⟩ := h
    simp only [toPD, PyData.canLay0]
    exact lay_ofL xs n vs p r
  | .dct _, n, v, p, h => by simp [pd] at p
  | .set _, n, v, p, h => by simp [pd] at p
  | .obj _ _, n, v, p, h => by simp [pd] at p
  | .ref _, n, v, p, h => by simp [pd] at p
  | .fn _, n, v, p, h => by simp [pd] at p
  | .scr _, n, v, p, h => by simp [pd] at p
  | .bad, n, v, p, h => by simp [pd] at p
theorem lay_ofL : ∀ (ds : List D) (n : Nat) (vs : List V), pdL ds n = true → RepL L m F H ds vs → PyData.canLayAll0 (toPDL ds) = true
  | [], n, [], p, h => rfl
  | d :: ds, n, v :: vs, p, h => by
    simp only [pdL, Bool.and_eq_true] at p
    simp only [RepL] at h
    simp only [toPDL, PyData.canLayAll0, Bool.and_eq_true]
    exact ⟨lay_of d n v p.1 h.1, lay_ofL ds n vs p.2 h.2⟩
  | [], n, _ :: _, p, h => by simp only [RepL] at h
  | _ :: _, n, [], p, h => by simp only [RepL] at h
end
theorem lay_look {d : D} {n : Nat} {v : V} (p : pd d n = true) (h : Look L m F H d v) : (toPD d).canLay0 = true := by
  cases d with
  | lst xs =>
    cases n with
    | zero => simp [pd] at p
    | succ n =>
      simp only [pd] at p
      obtain ⟨a, vs, rfl, hs, r, _⟩ := h
      simp only [toPD, PyData.canLay0]
      exact lay_ofL xs n vs p r
  | dct _ => simp [pd] at p
  | set _ => simp [pd] at p
  | obj _ _ => simp [pd] at p
  | _ => exact lay_of (L := L) (m := m) (F := F) (H := H) _ n v p h
mutual
theorem dep_of : ∀ (d : D) (n : Nat), pd d n = true → (toPD d).depth ≤ n
  | .non, n, p => Nat.zero_le _
  | .bl b, n, p => Nat.zero_le _
  | .int i, n, p => Nat.zero_le _
  | .str s, n, p => Nat.zero_le _
  | .tup xs, 0, p => by simp [pd] at p
  | .tup xs, n + 1, p => by
    simp only [pd] at p
    simp only [toPD, PyData.depth]
    exact Nat.succ_le_succ (dep_ofL xs n p)
  | .lst xs, 0, p => by simp [pd] at p
  | .lst xs, n + 1, p => by
    simp only [pd] at p
    simp only [toPD, PyData.depth]
    exact Nat.succ_le_succ (dep_ofL xs n p)
  | .dct _, n, p => by simp [pd] at p
  | .set _, n, p => by simp [pd] at p
  | .obj _ _, n, p => by simp [pd] at p
  | .ref _, n, p => by simp [pd] at p
  | .fn _, n, p => by simp [pd] at p
  | .scr _, n, p => by simp [pd] at p
  | .bad, n, p => by simp [pd] at p
theorem dep_ofL : ∀ (ds : List D) (n : Nat), pdL ds n = true → PyData.depthAll (toPDL ds) ≤ n
  | [], n, p => Nat.zero_le _
  | d :: ds, n, p => by
    simp only [pdL, Bool.and_eq_true] at p
    simp only [toPDL, PyData.depthAll]
    exact Nat.max_le.mpr ⟨dep_of d n p.1, dep_ofL ds n p.2⟩
end
theorem strV_beq (a b : List Nat) : (strV a == strV b) = (a == b) := by
  rw [← SeqAt.str_beq]; simp [strV]
mutual
theorem eqv_of : ∀ (a : D) (n : Nat) (b : D) (k : Nat), pd a n = true → pd b k = true → PyData.eqv (toPD a) (toPD b) = eqD a b
  | .non, n, b, k, p, q => by cases b <;> first | (simp [pd] at q; done) | simp [toPD, PyData.eqv, eqD]
  | .bl _, n, b, k, p, q => by cases b <;> first | (simp [pd] at q; done) | simp [toPD, PyData.eqv, eqD, b2i]
  | .int _, n, b, k, p, q => by cases b <;> first | (simp [pd] at q; done) | simp [toPD, PyData.eqv, eqD, b2i]
  | .str s, n, b, k, p, q => by cases b <;> first | (simp [pd] at q; done) | simp [toPD, PyData.eqv, eqD, strV_beq]
  | .tup xs, 0, b, k, p, q => by simp [pd] at p
  | .tup xs, n + 1, b, k, p, q => by
    cases b <;> first | (simp [pd] at q; done) | skip
    case tup ys =>
      cases k with
      | zero => simp [pd] at q
      | succ k => simp only [pd] at p q; simp only [toPD, PyData.eqv, eqD]; exact eqv_ofL xs n ys k p q
    all_goals simp [toPD, PyData.eqv, eqD]
  | .lst xs, 0, b, k, p, q => by simp [pd] at p
  | .lst xs, n + 1, b, k, p, q => by
    cases b <;> first | (simp [pd] at q; done) | skip
    case lst ys =>
      cases k with
      | zero => simp [pd] at q
      | succ k => simp only [pd] at p q; simp only [toPD, PyData.eqv, eqD]; exact eqv_ofL xs n ys k p q
    all_goals simp [toPD, PyData.eqv, eqD]
  | .dct _, n, b, k, p, q => by simp [pd] at p
  | .set _, n, b, k, p, q => by simp [pd] at p
  | .obj _ _, n, b, k, p, q => by simp [pd] at p
  | .ref _, n, b, k, p, q => by simp [pd] at p
  | .fn _, n, b, k, p, q => by simp [pd] at p
  | .scr _, n, b, k, p, q => by simp [pd] at p
  | .bad, n, b, k, p, q => by simp [pd] at p
theorem eqv_ofL : ∀ (a : List D) (n : Nat) (b : List D) (k : Nat), pdL a n = true → pdL b k = true → PyData.eqvAll (toPDL a) (toPDL b) = eqL a b
  | [], n, [], k, p, q => by simp [toPDL, PyData.eqvAll, eqL]
  | [], n, _ :: _, k, p, q => by simp [toPDL, PyData.eqvAll, eqL]
  | _ :: _, n, [], k, p, q => by simp [toPDL, PyData.eqvAll, eqL]
  | x :: a, n, y :: b, k, p, q => by
    simp only [pdL, Bool.and_eq_true] at p q
    simp only [toPDL, PyData.eqvAll, eqL, eqv_of x n y k p.1 q.1, eqv_ofL a n b k p.2 q.2]
end
theorem eqT_some {a b : D} {t : Bool} (h : eqT a b = some t) : pd a pdMax = true ∧ pd b pdMax = true ∧ t = eqD a b := by
  unfold eqT at h
  split at h
  · rename_i h1
    simp only [Bool.and_eq_true] at h1
    exact ⟨h1.1, h1.2, (Option.some.inj h).symm⟩
  · cases h
theorem shaped_of {d : D} {v : V} (p : pd d pdMax = true) (h : Look L m F H d v) : SeqAt.shaped (toPD d) = true := by
  unfold SeqAt.shaped
  rw [lay_look p h]
  have := dep_of d pdMax p
  unfold pdMax at this
  simp
  omega
end
def rEqM (K : PySem.W.Frag) (ne : Bool) : R2 := fun x y H Q => ∃ L m F a b t, L.K = K ∧ Look L m F H a x ∧ Look L m F H b y ∧ eqT a b = some t ∧ Q (.bl (if ne then !t else t)) H
theorem op_eqM {X : Cx} (hu : X.A.units + 64 < cLine) : OpR X (compareOp .Eq) (rEqM X.K false) := by
  intro pins s σ H x y v u Q I rx ry h
  obtain ⟨L, m, F, a, b, t, e, ha, hb, ht, q⟩ := h
  obtain ⟨pa, pb, rfl⟩ := eqT_some ht
  refine op_eqD hu pins s σ H x y v u Q I rx ry ⟨toPD a, toPD b, e ▸ dp_look pa ha, e ▸ dp_look pb hb, shaped_of pa ha, shaped_of pb hb, ?_⟩
  rw [eqv_of a _ b _ pa pb]
  exact q
theorem op_neM {X : Cx} (hu : X.A.units + 64 < cLine) : OpR X (compareOp .NotEq) (rEqM X.K true) := by
  intro pins s σ H x y v u Q I rx ry h
  obtain ⟨L, m, F, a, b, t, e, ha, hb, ht, q⟩ := h
  obtain ⟨pa, pb, rfl⟩ := eqT_some ht
  refine op_neD hu pins s σ H x y v u Q I rx ry ⟨toPD a, toPD b, e ▸ dp_look pa ha, e ▸ dp_look pb hb, shaped_of pa ha, shaped_of pb hb, ?_⟩
  rw [eqv_of a _ b _ pa pb]
  exact q
end Mp

end
section
set_option Elab.async false
set_option linter.all false
set_option maxRecDepth 100000
set_option maxHeartbeats 4000000
/-! S4b: a tuple times a number: one, a few. -/
namespace L2
open PySem PySem.Spec PyProof.Rows
open AutoSeq1 (wpAny_loadPart')
theorem tuple_mul1 (l : Addr) (items : Array Value) (n : Nat) (dd : Option Addr) (sl : Array (Option Value)) (u : Tok) :
    Meets (Builtin.«tuple.__mul__» ⟨[.ref l, .int 1 u], []⟩) (fun _ R s => s.heap.get? l = some { cls := .type "tuple", dict := dd, data := .seq items n, slots := sl } ∧ R (.ok (.ret (Value.ref l))) s) :=
  .of_wp fun prog w A R s h => by
    obtain ⟨hp, g, d, tk, os⟩ := s
    obtain ⟨hl, h⟩ := h
    have f1 := AutoSeq1.idx_int
    have c1 : (items.isEmpty || (1 : Int) == 1) = true := by simp
    wp_walk using wpAny_loadPart' hl
    repeat (first
      | (refine wpAny_ite_true (decide_eq_true (by rw [c1])) ?_; wp_walk using wpAny_loadPart' hl))
    exact ⟨_, rfl, h⟩
theorem op_repT1 {X : Cx} : OpR X (binaryOp .Mult) (fun x y H Q => ∃ l xs, x = .ref l ∧ y = .int 1 ∧ SqT X.K H l xs ∧ Q (.ref l) H) := by
  intro pins s σ H x y v u Q I rx ry h
  obtain ⟨l, xs, rfl, rfl, hT, q⟩ := h
  cases rx
  obtain ⟨t, rfl⟩ := ry
  obtain ⟨its, r, ⟨⟨cls, dd, data, sl⟩, ho, hc, n, hd⟩, hs⟩ := I.tuple hT
  simp only at hc hd
  subst hc hd
  refine wpAny_binaryOp_repeat_ref (T := "tuple") (U := "int") (by decide) ⟨_, ho, rfl⟩ (fun s' => typeIs_int s' 1 t) noFill_tuple_mul F.fills_int_mul F.slot_int_rmul repeat_tuple F.slot_int_index.lookup
    (call_meets F.slot_int_rmul (typeIs_int s 1 t) F.entry_int_rmul (F.args_int_rmul_2 _ _) (int_rmul_tuple 1 t l its.toArray n dd sl)
      ⟨ho, rfl, ⟨_, ho, rfl⟩, call_meets F.slot_tuple_mul ⟨_, ho, rfl⟩ F.entry_tuple_mul (F.args_tuple_mul_2 _ _) (tuple_mul1 l its.toArray n dd sl t) ⟨ho, ?_⟩⟩)
  exact ⟨.ref l, H, I, rfl, q⟩
end L2

end
section
set_option Elab.async false
set_option linter.all false
set_option maxRecDepth 100000
set_option maxHeartbeats 4000000
/-! S5: operators. -/
namespace Mp
open PySem PySem.Spec PyProof.Rows L2

theorem szLine : szMax ≤ sizeLine := by rw [sizeLine_eq]; unfold szMax; decide
theorem szLt {n : Nat} (h : n ≤ szMax) : n < sizeLine := by rw [sizeLine_eq]; unfold szMax at h; omega
theorem strV_len (s : List Nat) : (strV s).length = s.length := by simp [strV, Str.length]
theorem strV_app (a b : List Nat) : strV a ++ strV b = strV (a ++ b) := by
  show Str.append _ _ = _
  simp [Str.append, strV]
def opK : Op → Operator | .add => .Add | .sub => .Sub | .mul => .Mult | .fdiv => .FloorDiv | .mod => .Mod | .pow => .Pow
def rBin (K : PySem.W.Frag) (op : Op) : R2 := fun x y H Q => ∃ L m F a b z, L.K = K ∧ Look L m F H a x ∧ Look L m F H b y ∧ binF op a b = some z ∧ Res L m F H z Q
section
variable {X : Cx} {L : Lk} {m : List Addr} {F : Addr → Prop} {H : Hp} {Q : VK} {x y : V}
theorem big_mul {a b : Int} (ha : big a = true) (hb : big b = true) : CMulW a b := by
  unfold big at ha hb
  exact wide_mul (a := 4000) (b := 4000) (of_decide_eq_true ha) (of_decide_eq_true hb) (by decide) (by decide) (by decide)
theorem cat_tup0 {prog : Program} {w : World} {A : Around} {E : Value → Shared → Prop} {s : Shared} {t b : Addr} {ws : List Value} {Q : Value → Shared → Prop} (ht : IsTup s.heap t #[]) (hb : IsTup s.heap b ws.toArray)
    (h1 : Q (.ref b) s) : wpAny (model prog w) A (binaryOp .Add (.ref t) (.ref b)) Q E s := by
  obtain ⟨⟨cls, dd, data, sl⟩, ho, hc, n, hd⟩ := id ht
  obtain ⟨⟨cls2, dd2, data2, sl2⟩, ho2, hc2, n2, hd2⟩ := id hb
  simp only at hc hd hc2 hd2
  subst hc hd hc2 hd2
  exact concat_meets ⟨_, ho, rfl⟩ ⟨_, ho2, rfl⟩ noFill_tuple_add seq_tuple_add PySem.F.slot_tuple_add PySem.F.entry_tuple_add (PySem.F.args_tuple_add_2 _ _)
    (tuple_addW0 t b #[] ws.toArray n n2 dd dd2 sl sl2 rfl) ⟨ho, ho2, h1⟩
def rCatT0 (K : PySem.W.Frag) : R2 := fun x y H Q => ∃ a b ys, x = .ref a ∧ y = .ref b ∧ SqT K H a [] ∧ SqT K H b ys ∧ Q (.ref b) H
theorem op_catT0 : OpR X (binaryOp .Add) (rCatT0 X.K) := by
  intro pins s σ H x y v u Q I rx ry h
  obtain ⟨a, b, ys, rfl, rfl, ha, hb, q⟩ := h
  cases rx
  cases ry
  obtain ⟨its, r1, p1, _⟩ := I.tuple ha
  obtain ⟨its2, r2, p2, _⟩ := I.tuple hb
  cases r1
  exact cat_tup0 p1 p2 ⟨.ref b, H, I, rfl, q⟩
theorem op_binM (op : Op) : OpR X (binaryOp (opK op)) (rBin X.K op) := by
  intro pins s σ H x y v u Q I rx ry h
  obtain ⟨L, m, F, a, b, z, eK, ha, hb, hz, R⟩ := h
  have ii : ∀ {i j k : Int}, a = .int i → b = .int j → x = .int i ∧ y = .int j := fun e1 e2 => by subst e1 e2; exact ⟨ha, hb⟩
  have ri : ∀ {k : Int}, z = .dat (.int k) → Q (.int k) H := fun e => by subst e; exact R.v _ (by simp [ResV, Rep])
  cases op with
  | add =>
    cases a with
    | int i => cases b with
      | int j => obtain ⟨rfl, rfl⟩ := ii (k := 0) rfl rfl; simp [binF] at hz; exact op_add pins s σ H _ _ v u Q I rx ry ⟨_, _, rfl, rfl, ri hz.symm⟩
      | _ => simp [binF] at hz
    | str i => cases b with
      | str j =>
        simp only [Look, Rep] at ha hb
        obtain ⟨rfl, ha1, ha2⟩ := ha
        obtain ⟨rfl, hb1, hb2⟩ := hb
        simp only [binF] at hz
        split at hz
        · rename_i hl
          cases hz
          refine op_add_str pins s σ H _ _ v u Q I rx ry ⟨_, _, rfl, rfl, by rw [strV_len, strV_len]; exact Nat.le_trans hl szLine, ?_⟩
          rw [strV_app]
          refine R.v _ ?_
          simp only [ResV, Rep, List.length_append]
          exact ⟨trivial, hl, fun c hc => (List.mem_append.mp hc).elim (ha2 c) (hb2 c)⟩
        · cases hz
      | _ => simp [binF] at hz
    | lst xs => cases b with
      | lst ys =>
        obtain ⟨p, vs, rfl, e1, r1, _⟩ := ha
        obtain ⟨q, ws, rfl, e2, r2, _⟩ := hb
        simp only [binF] at hz
        split at hz
        · rename_i hl
          cases hz
          refine op_cat pins s σ H _ _ v u Q I rx ry ⟨p, q, vs, ws, rfl, rfl, e1, e2, by rw [← r1.len, ← r2.len]; exact Nat.le_trans hl szLine, fun p' hp => ?_⟩
          exact R.n p' _ hp ⟨_, rfl, r1.append r2, by rw [List.length_append]; exact hl⟩
        · cases hz
      | _ => simp [binF] at hz
    | tup xs => cases b with
      | tup ys =>
        have hb0 := hb
        have ha0 := ha
        simp only [Look, Rep] at ha hb
        obtain ⟨p, vs, rfl, e1, r1, _⟩ := ha
        obtain ⟨q, ws, rfl, e2, r2, _⟩ := hb
        simp only [binF] at hz
        split at hz
        · rename_i hl
          cases hz
          have t1 : SqT X.K H p vs := eK ▸ e1.imp (·.2) id
          have t2 : SqT X.K H q ws := eK ▸ e2.imp (·.2) id
          cases vs with
          | nil =>
            cases xs with
            | nil => exact op_catT0 pins s σ H _ _ v u Q I rx ry ⟨p, q, ws, rfl, rfl, t1, t2, R.v _ hb0⟩
            | cons _ _ => simp only [RepL] at r1
          | cons v0 vs =>
            refine op_catT pins s σ H _ _ v u Q I rx ry ⟨p, q, _, _, rfl, rfl, t1, t2, (fun z => nomatch z), by rw [← r1.len, ← r2.len]; exact Nat.le_trans hl szLine, fun e => ?_, fun e p' hp => ?_⟩
            · subst e
              cases ys with
              | nil => rw [List.append_nil] at R; exact R.v _ ha0
              | cons _ _ => simp only [RepL] at r2
            · exact R.n p' _ hp ⟨_, rfl, r1.append r2, by rw [List.length_append]; exact hl⟩
        · cases hz
      | _ => simp [binF] at hz
    | _ => simp [binF] at hz
  | sub =>
    cases a with
    | int i => cases b with
      | int j => obtain ⟨rfl, rfl⟩ := ii (k := 0) rfl rfl; simp [binF] at hz; exact op_sub pins s σ H _ _ v u Q I rx ry ⟨_, _, rfl, rfl, ri hz.symm⟩
      | _ => simp [binF] at hz
    | _ => simp [binF] at hz
  | mul =>
    cases a with
    | int i => cases b with
      | int j =>
        obtain ⟨rfl, rfl⟩ := ii (k := 0) rfl rfl
        simp only [binF] at hz
        split at hz
        · rename_i hl
          simp only [Bool.and_eq_true] at hl
          exact op_mulW pins s σ H _ _ v u Q I rx ry ⟨_, _, rfl, rfl, big_mul hl.1 hl.2, ri (Option.some.inj hz).symm⟩
        · cases hz
      | _ => simp [binF] at hz
    | lst xs => cases b with
      | int n =>
        obtain ⟨p, vs, rfl, e1, r1, hz1⟩ := ha
        cases (show y = .int n from hb)
        simp only [binF, repL, Option.map_eq_some_iff] at hz
        obtain ⟨l, hz, rfl⟩ := hz
        split at hz
        · rename_i hl
          cases hz
          have hn : -(2 ^ 63) ≤ n ∧ n < 2 ^ 63 := hl.2.1
          refine op_rep pins s σ H _ _ v u Q I rx ry ⟨p, n, vs, rfl, rfl, e1, hn.1, hn.2, by rw [← r1.len]; exact Nat.le_trans hl.1 szLine, fun p' hp => ?_⟩
          refine R.n p' _ hp ⟨_, rfl, r1.rep _, ?_⟩
          rw [PyProof.Rows.lm_len_rep_flat, Nat.mul_comm]
          exact hl.1
        · cases hz
      | _ => simp [binF] at hz
    | tup xs => cases b with
      | int n =>
        cases (show y = .int n from hb)
        simp only [binF] at hz
        split at hz
        · rename_i hl
          have ha0 := ha
          simp only [Look, Rep] at ha
          obtain ⟨p, vs, rfl, e0, r1, hz1⟩ := ha
          have e1 : SqT X.K H p vs := eK ▸ e0.imp (·.2) id
          cases hz
          have hne : vs ≠ [] := fun z => hl.1 (by have := r1.len; rw [z] at this; simpa using this)
          by_cases h1 : n = 1
          · subst h1
            refine op_repT1 pins s σ H _ _ v u Q I rx ry ⟨p, vs, rfl, rfl, e1, ?_⟩
            have e2 : (List.replicate (1 : Int).toNat xs).flatten = xs := by simp
            rw [e2] at R
            exact R.v _ ha0
          · refine op_repT pins s σ H _ _ v u Q I rx ry ⟨p, n, vs, rfl, rfl, e1, hne, by omega, hl.2.2.1, by rw [← r1.len]; exact hl.2.2.2, fun p' hp => ?_⟩
            refine R.n p' _ hp ⟨_, rfl, r1.rep _, ?_⟩
            rw [PyProof.Rows.lm_len_rep_flat]
            have a1 : n.toNat * xs.length ≤ 1000 * 1000 := Nat.mul_le_mul (by omega) hl.2.2.2
            unfold szMax
            omega
        · cases hz
      | _ => simp [binF] at hz
    | _ => cases b <;> simp [binF] at hz
  | fdiv =>
    cases a with
    | int i => cases b with
      | int j =>
        obtain ⟨rfl, rfl⟩ := ii (k := 0) rfl rfl
        simp only [binF] at hz
        split at hz
        · rename_i hl
          have hb := hl.2
          unfold big at hb
          exact op_fdivW pins s σ H _ _ v u Q I rx ry ⟨_, _, rfl, rfl, wide_div hl.1 (of_decide_eq_true hb) (by decide) (by decide), ri (Option.some.inj hz).symm⟩
        · cases hz
      | _ => simp [binF] at hz
    | _ => simp [binF] at hz
  | mod =>
    cases a with
    | int i => cases b with
      | int j =>
        obtain ⟨rfl, rfl⟩ := ii (k := 0) rfl rfl
        simp only [binF] at hz
        split at hz
        · rename_i hl
          exact op_mod pins s σ H _ _ v u Q I rx ry ⟨_, _, rfl, rfl, hl, ri (Option.some.inj hz).symm⟩
        · cases hz
      | _ => simp [binF] at hz
    | _ => simp [binF] at hz
  | pow =>
    cases a with
    | int i => cases b with
      | int j =>
        obtain ⟨rfl, rfl⟩ := ii (k := 0) rfl rfl
        simp only [binF] at hz
        split at hz
        · rename_i hl
          exact op_pow pins s σ H _ _ v u Q I rx ry ⟨_, _, rfl, rfl, ⟨hl.1, by omega, hl.2.2⟩, ri (Option.some.inj hz).symm⟩
        · cases hz
      | _ => simp [binF] at hz
    | _ => simp [binF] at hz
end
end Mp

end
section
set_option Elab.async false
set_option linter.all false
set_option maxRecDepth 100000
set_option maxHeartbeats 4000000
/-! S6: comparisons, items, slices. -/
namespace Mp
open PySem PySem.Spec PyProof.Rows L2

def cpK : Cp → CmpOp | .eq => .Eq | .ne => .NotEq | .lt => .Lt | .le => .LtE | .gt => .Gt | .ge => .GtE | .isin => .In | .notin => .NotIn
def rCmp (K : PySem.W.Frag) (cp : Cp) : R2 := fun x y H Q => ∃ L m F a b t, L.K = K ∧ Look L m F H a x ∧ Look L m F H b y ∧ cmpF cp a b = some t ∧ Q (.bl t) H

/-- pure data lies in one way -/
theorem Dp.inj {X : Cx} {pins : List (Addr × Obj)} {σ : L2.St} {H : Hp} {s : Shared} (I : Inv X pins σ H s) : ∀ (d e : PyData) (v : V), Dp X.K H v d → Dp X.K H v e → d = e := by
  have tl : ∀ {a : Addr} {xs ys : List V}, SqL X.K H a xs → SqT X.K H a ys → False := fun {a xs ys} h g => by
    obtain ⟨its, _, ⟨o, n, e, c, _⟩, _⟩ := I.list h
    obtain ⟨its', _, ⟨o', e', c', _⟩, _⟩ := I.tuple g
    rw [e] at e'; cases e'
    rw [c] at c'
    exact absurd c' (by intro z; injection z with z; exact absurd z (by decide))
  suffices h : ∀ (d : PyData), (∀ (e : PyData) (v : V), Dp X.K H v d → Dp X.K H v e → d = e) from fun d => h d
  intro d
  refine PyData.rec (motive_1 := fun d => ∀ (e : PyData) (v : V), Dp X.K H v d → Dp X.K H v e → d = e) (motive_2 := fun ds => ∀ (es : List PyData) (vs : List V), DpAll X.K H vs ds → DpAll X.K H vs es → ds = es) (motive_3 := fun _ => True) (motive_4 := fun _ => True)
    ?_ ?_ ?_ ?_ ?_ ?_ ?_ ?_ ?_ ?_ ?_ ?_ d
  · intro e v h g; cases h; cases g; rfl
  · intro b e v h g; cases h; cases g; rfl
  · intro b e v h g; cases h; cases g; rfl
  · intro b e v h g; cases h; cases g; rfl
  · intro xs ih e v h g
    cases h with
    | lst h1 h2 => cases g with
      | lst g1 g2 => rw [I.list_inj h1 g1] at h2; rw [ih _ _ h2 g2]
      | tup g1 g2 => exact (tl h1 g1).elim
  · intro xs ih e v h g
    cases h with
    | tup h1 h2 => cases g with
      | tup g1 g2 => rw [I.tuple_inj h1 g1] at h2; rw [ih _ _ h2 g2]
      | lst g1 g2 => exact (tl g1 h1).elim
  · intro kvs _ e v h g; cases h
  · intro es vs h g; cases h; cases g; rfl
  · intro d ds ih1 ih2 es vs h g
    cases h with
    | cons h1 h2 => cases g with
      | cons g1 g2 => rw [ih1 _ _ h1 g1, ih2 _ _ h2 g2]
  · trivial
  · intros; trivial
  · intros; trivial
section
variable {X : Cx} {L : Lk} {m : List Addr} {F : Addr → Prop} {H : Hp} {Q : VK} {x y : V}
theorem allPd_get {ds : List D} (h : allPd ds = true) {i : Nat} {d : D} (e : ds[i]? = some d) : pd d pdMax = true := List.all_eq_true.mp h d (List.mem_of_getElem? e)
/-- the items of a row, one by one, against a value -/
theorem memEq {pins : List (Addr × Obj)} {σ : L2.St} {s : Shared} {A : Around} {a : D} {v : Value} {ds : List D} {vs : List V} {its : List Value} (eK : L.K = X.K) (hu : A.units + 60 < cLine) (I : Inv X pins σ H s) (rx : RelV x v) (ha : Look L m F H a x) (pa : pd a pdMax = true)
    (r : RepL L m F H ds vs) (pds : allPd ds = true) (rv : Vals vs its) :
    ∃ e : Value → Bool, (∀ u ∈ its, SeqAt.EqAt A s u v (e u)) ∧ ∀ i : Nat, ∀ d, ds[i]? = some d → ∃ u, its[i]? = some u ∧ e u = eqD d a := by
  have hl : ds.length = its.length := r.len.trans rv.length
  have dpx : Dp X.K H x (toPD a) := eK ▸ dp_look pa ha
  obtain ⟨as, ra⟩ := Dp.reads I (toPD a) x v dpx rx
  have at_ : ∀ i u, its[i]? = some u → ∃ d w, ds[i]? = some d ∧ vs[i]? = some w ∧ RelV w u ∧ Rep L m F H d w := fun i u e => by
    have hi : i < ds.length := by rw [hl]; exact (List.getElem?_eq_some_iff.mp e).1
    have ed : ds[i]? = some ds[i] := List.getElem?_eq_some_iff.mpr ⟨hi, rfl⟩
    obtain ⟨w, ew, rw'⟩ := r.get ed
    obtain ⟨u', eu, ru⟩ := rv.get ew
    rw [e] at eu; cases eu
    exact ⟨_, w, ed, ew, ru, rw'⟩
  have same : ∀ i j d d' u, its[i]? = some u → its[j]? = some u → ds[i]? = some d → ds[j]? = some d' → eqD d a = eqD d' a := fun i j d d' u e1 e2 e3 e4 => by
    obtain ⟨d1, w1, f1, f2, f3, f4⟩ := at_ i u e1
    obtain ⟨d2, w2, g1, g2, g3, g4⟩ := at_ j u e2
    rw [e3] at f1; cases f1
    rw [e4] at g1; cases g1
    have hw : w1 = w2 := f3.inj g3
    subst hw
    have p1 := allPd_get pds e3
    have p2 := allPd_get pds e4
    have q1 : Dp X.K H w1 (toPD d) := eK ▸ dp_of _ _ _ p1 f4
    have q2 : Dp X.K H w1 (toPD d') := eK ▸ dp_of _ _ _ p2 g4
    rw [← eqv_of d _ a _ p1 pa, ← eqv_of d' _ a _ p2 pa, Dp.inj I _ _ _ q1 q2]
  classical
  refine ⟨fun u => decide (∃ (i : Nat) (d : D), its[i]? = some u ∧ ds[i]? = some d ∧ eqD d a = true), fun u hu' => ?_, fun i d e => ?_⟩
  · obtain ⟨i, hi, e⟩ := List.getElem_of_mem hu'
    have e1 : its[i]? = some u := List.getElem?_eq_some_iff.mpr ⟨hi, e⟩
    obtain ⟨d, w, f1, f2, f3, f4⟩ := at_ i u e1
    have p1 := allPd_get pds f1
    obtain ⟨bs, rb⟩ := Dp.reads I (toPD d) w u (eK ▸ dp_of _ _ _ p1 f4) f3
    have q := SeqAt.eqAt_reads (toPD d) (toPD a) A s u v bs as rb ra (lay_look p1 f4.look) (lay_look pa ha) (by
      have h1 := dep_of d pdMax p1
      have h2 : min (toPD d).depth (toPD a).depth ≤ (toPD d).depth := Nat.min_le_left _ _
      unfold pdMax at h1
      omega)
    rw [eqv_of d _ a _ p1 pa] at q
    have : decide (∃ (i : Nat) (d : D), its[i]? = some u ∧ ds[i]? = some d ∧ eqD d a = true) = eqD d a := by
      cases h : eqD d a with
      | true => exact decide_eq_true ⟨i, d, e1, f1, h⟩
      | false =>
        refine decide_eq_false fun ⟨j, d', g1, g2, g3⟩ => ?_
        rw [same i j d d' u e1 g1 f1 g2, g3] at h
        cases h
    exact Eq.mpr (congrArg (SeqAt.EqAt A s u v) this) q
  · have hi : i < its.length := by rw [← hl]; exact (List.getElem?_eq_some_iff.mp e).1
    have e1 : its[i]? = some its[i] := List.getElem?_eq_some_iff.mpr ⟨hi, rfl⟩
    refine ⟨_, e1, ?_⟩
    cases h : eqD d a with
    | true => exact decide_eq_true ⟨i, d, e1, e, h⟩
    | false =>
      refine decide_eq_false fun ⟨j, d', g1, g2, g3⟩ => ?_
      rw [same i j d d' _ e1 g1 e g2, g3] at h
      cases h
theorem any_by {a : D} {ds : List D} {its : List Value} {e : Value → Bool} (hl : ds.length = its.length) (h : ∀ i : Nat, ∀ d, ds[i]? = some d → ∃ u, its[i]? = some u ∧ e u = eqD d a) : its.any e = ds.any fun d => eqD d a := by
  induction ds generalizing its with
  | nil => cases its with | nil => rfl | cons _ _ => simp at hl
  | cons d ds ih => cases its with
    | nil => simp at hl
    | cons u its =>
      obtain ⟨u', e1, e2⟩ := h 0 d rfl
      simp at e1
      subst e1
      rw [List.any_cons, List.any_cons, e2, ih (by simpa using hl) fun i d' e' => by simpa using h (i + 1) d' (by simpa using e')]
theorem keyOf_kV {d : D} {k : Key} {v : V} (h : keyOf d = some k) (r : Look L m F H d v) : v = kV k := by
  cases d <;> simp [keyOf] at h
  · subst h; exact r
  · subst h; simp only [Look, Rep] at r; exact r.1
theorem keyOf_eq {a b : D} {j k : Key} (h : keyOf a = some j) (g : keyOf b = some k) : eqD a b = decide (j = k) := by
  cases a <;> simp [keyOf] at h <;> cases b <;> simp [keyOf] at g
  · subst h g; simp only [eqD]; rw [key_ll]
  · subst h g; simp only [eqD]; rw [key_lr]
  · subst h g; simp only [eqD]; rw [key_rl]
  · subst h g
    simp only [eqD]
    rw [key_rr, ← strV_beq]
    rw [Bool.beq_eq_decide_eq]
theorem dGet_rep {k : D} {q : Key} (hk : keyOf k = some q) : ∀ {kvs : List (D × D)} {ks : List (Key × V)}, RepK L m F H kvs ks → match dGet k kvs with | some d => ∃ v, valV ks q = some v ∧ Rep L m F H d v | none => valV ks q = none
  | [], [], _ => by simp [dGet, valV_nil]
  | (j, d) :: kvs, (p, v) :: ks, h => by
    simp only [RepK] at h
    obtain ⟨h1, h2, h3⟩ := h
    have ih := dGet_rep hk h3
    have e := keyOf_eq h1.1 hk
    simp only [dGet, List.find?_cons] at ih ⊢
    by_cases hp : p = q
    · rw [e, decide_eq_true hp]
      exact ⟨v, valV_pos hp, h2⟩
    · rw [e, decide_eq_false hp]
      simp only
      rw [valV_neg (p := (p, v)) hp]
      exact ih
  | [], _ :: _, h => by simp only [RepK] at h
  | _ :: _, [], h => by simp only [RepK] at h
theorem RepK.lenK {L : Lk} {m : List Addr} {F : Addr → Prop} {H : Hp} : ∀ {kvs : List (D × D)} {ks : List (Key × V)}, RepK L m F H kvs ks → kvs.length = ks.length
  | [], [], _ => rfl
  | (_, _) :: r, (_, _) :: s, h => by
    simp only [RepK] at h
    simp [RepK.lenK h.2.2]
  | [], _ :: _, h => by simp only [RepK] at h
  | _ :: _, [], h => by simp only [RepK] at h
theorem dget_of {k : D} {q : Key} {a : Addr} {ks : List (Key × V)} (hk : keyOf k = some q) (hy : y = kV q) (hd : Rd H a (.dK ks)) : DGet H a y (valV ks q) := .inl ⟨ks, q, hd, hy, rfl⟩
theorem valV_isSome {k : D} {q : Key} (hk : keyOf k = some q) {kvs : List (D × D)} {ks : List (Key × V)} (r : RepK L m F H kvs ks) : (valV ks q).isSome = (dGet k kvs).isSome := by
  have := dGet_rep hk r
  cases e : dGet k kvs with
  | none => rw [e] at this; rw [this]; rfl
  | some d => rw [e] at this; obtain ⟨v, e2, _⟩ := this; rw [e2]; rfl
theorem keyOf_some {d : D} (h : isKey d = true) : ∃ q, keyOf d = some q := by cases d <;> first | exact ⟨_, rfl⟩ | cases h
theorem any_key {k : D} {q : Key} (hk : keyOf k = some q) : ∀ {kvs : List (D × D)} {ks : List (Key × V)}, RepK L m F H kvs ks → (kvs.any fun p => eqD p.1 k) = ks.any fun kv => decide (kv.1 = q)
  | [], [], _ => rfl
  | (a, d) :: kvs, (b, v) :: ks, h => by
    simp only [RepK] at h
    rw [List.any_cons, List.any_cons, any_key hk h.2.2, keyOf_eq h.1.1 hk]
  | [], _ :: _, h => by simp only [RepK] at h
  | _ :: _, [], h => by simp only [RepK] at h
theorem map_key {k d : D} {q : Key} {x : V} (hk : keyOf k = some q) (r : Rep L m F H d x) : ∀ {kvs : List (D × D)} {ks : List (Key × V)}, RepK L m F H kvs ks → RepK L m F H (kvs.map fun p => if eqD p.1 k then (p.1, d) else p) (ks.map fun kv => if kv.1 = q then (kv.1, x) else kv)
  | [], [], _ => trivial
  | (a, e) :: kvs, (b, v) :: ks, h => by
    simp only [RepK] at h
    simp only [List.map_cons, keyOf_eq h.1.1 hk]
    by_cases hb : b = q
    · rw [decide_eq_true hb, if_pos rfl, if_pos hb]
      simp only [RepK]
      exact ⟨h.1, r, map_key hk r h.2.2⟩
    · rw [decide_eq_false hb, if_neg Bool.false_ne_true, if_neg hb]
      simp only [RepK]
      exact ⟨h.1, h.2.1, map_key hk r h.2.2⟩
  | [], _ :: _, h => by simp only [RepK] at h
  | _ :: _, [], h => by simp only [RepK] at h
theorem app_key {k d : D} {q : Key} {x : V} (hk : keyOf k = some q ∧ kOk k = true) (r : Rep L m F H d x) : ∀ {kvs : List (D × D)} {ks : List (Key × V)}, RepK L m F H kvs ks → RepK L m F H (kvs ++ [(k, d)]) (ks ++ [(q, x)])
  | [], [], _ => by simp only [List.nil_append, RepK]; exact ⟨hk, r, trivial⟩
  | (a, e) :: kvs, (b, v) :: ks, h => by
    simp only [RepK, List.cons_append] at h ⊢
    exact ⟨h.1, h.2.1, app_key hk r h.2.2⟩
  | [], _ :: _, h => by simp only [RepK] at h
  | _ :: _, [], h => by simp only [RepK] at h
theorem RepK.put {k d : D} {q : Key} {x : V} {kvs : List (D × D)} {ks : List (Key × V)} (rk : RepK L m F H kvs ks) (hk : keyOf k = some q) (ok : kOk k = true) (r : Rep L m F H d x) : RepK L m F H (dPut k d kvs) (putK ks q x) := by
  unfold dPut putK
  rw [any_key hk rk]
  split
  · exact map_key hk r rk
  · exact app_key ⟨hk, ok⟩ r rk
theorem dPut_len {k d : D} {kvs : List (D × D)} (h : kvs.length < szMax) : (dPut k d kvs).length ≤ szMax := by
  unfold dPut
  split
  · rw [List.length_map]; omega
  · rw [List.length_append]; simp; omega
theorem kOk_of {d : D} {v : V} (hk : isKey d = true) (r : Look L m F H d v) : kOk d = true := by
  cases d <;> first | rfl | cases hk | skip
  simp only [Look, Rep] at r
  simp only [kOk, Bool.and_eq_true, decide_eq_true_eq, List.all_eq_true]
  exact ⟨r.2.1, fun c hc => r.2.2 c hc⟩
theorem rep_key {d : D} {q : Key} (hk : keyOf d = some q) (ok : kOk d = true) : Rep L m F H d (kV q) := by
  cases d <;> simp [keyOf] at hk
  · subst hk; simp only [Rep]; rfl
  · subst hk
    simp only [kOk, Bool.and_eq_true, decide_eq_true_eq, List.all_eq_true] at ok
    simp only [Rep]
    exact ⟨rfl, ok.1, fun c hc => ok.2 c hc⟩
theorem RepK.keys : ∀ {kvs : List (D × D)} {ks : List (Key × V)}, RepK L m F H kvs ks → RepL L m F H (kvs.map (·.1)) (ks.map fun kv => kV kv.1)
  | [], [], _ => by simp only [List.map_nil, RepL]
  | (a, e) :: kvs, (b, v) :: ks, h => by
    simp only [RepK, List.map_cons, RepL] at h ⊢
    exact ⟨rep_key h.1.1 h.1.2, RepK.keys h.2.2⟩
  | [], _ :: _, h => by simp only [RepK] at h
  | _ :: _, [], h => by simp only [RepK] at h
theorem RepK.vals : ∀ {kvs : List (D × D)} {ks : List (Key × V)}, RepK L m F H kvs ks → RepL L m F H (kvs.map (·.2)) (ks.map (·.2))
  | [], [], _ => by simp only [List.map_nil, RepL]
  | (a, e) :: kvs, (b, v) :: ks, h => by
    simp only [RepK, List.map_cons, RepL] at h ⊢
    exact ⟨h.2.1, RepK.vals h.2.2⟩
  | [], _ :: _, h => by simp only [RepK] at h
  | _ :: _, [], h => by simp only [RepK] at h
theorem memD_some {a : D} {xs : List D} {t : Bool} (h : memD a xs = some t) : pd a pdMax = true ∧ allPd xs = true ∧ t = xs.any fun d => eqD d a := by
  unfold memD at h
  split at h
  · rename_i h1
    simp only [Bool.and_eq_true] at h1
    exact ⟨h1.1, h1.2, (Option.some.inj h).symm⟩
  · cases h
theorem sign_dec {c : Nat} {z : List Nat} [i : Decidable (c ∈ (strV z).cps.toList)] : @decide _ i = z.contains c := by
  by_cases h : c ∈ z
  · rw [decide_eq_true (show c ∈ (strV z).cps.toList by simpa [strV] using h)]; simp [h]
  · rw [decide_eq_false (show ¬ c ∈ (strV z).cps.toList by simpa [strV] using h)]; simp [h]
theorem op_cmpM (hu : X.A.units + 64 < cLine) (cp : Cp) : OpR X (compareOp (cpK cp)) (rCmp X.K cp) := by
  intro pins s σ H x y v u Q I rx ry h
  obtain ⟨L, m, F, a, b, t, eK, ha, hb, ht, q⟩ := h
  have hu1 : X.A.in1.units + 64 < cLine ∨ True := .inr trivial
  cases cp with
  | eq => exact op_eqM hu pins s σ H x y v u Q I rx ry ⟨L, m, F, a, b, t, eK, ha, hb, ht, q⟩
  | ne =>
    simp only [cmpF, Option.map_eq_some_iff] at ht
    obtain ⟨t', ht, rfl⟩ := ht
    exact op_neM hu pins s σ H x y v u Q I rx ry ⟨L, m, F, a, b, t', eK, ha, hb, ht, q⟩
  | lt => cases a <;> simp [cmpF, ordF, numD] at ht; cases b <;> simp at ht; subst ht; exact op_lt pins s σ H _ _ v u Q I rx ry ⟨_, _, ha, hb, q⟩
  | le => cases a <;> simp [cmpF, ordF, numD] at ht; cases b <;> simp at ht; subst ht; exact op_le pins s σ H _ _ v u Q I rx ry ⟨_, _, ha, hb, q⟩
  | gt => cases a <;> simp [cmpF, ordF, numD] at ht; cases b <;> simp at ht; subst ht; exact op_gt pins s σ H _ _ v u Q I rx ry ⟨_, _, ha, hb, q⟩
  | ge => cases a <;> simp [cmpF, ordF, numD] at ht; cases b <;> simp at ht; subst ht; exact op_ge pins s σ H _ _ v u Q I rx ry ⟨_, _, ha, hb, q⟩
  | isin =>
    cases b with
    | lst xs =>
      obtain ⟨pa, pxs, rfl⟩ := memD_some (show memD a xs = some t by cases a <;> exact ht)
      obtain ⟨p, vs, rfl, e1, r, _⟩ := hb
      cases ry
      obtain ⟨its, rv, pl, hz⟩ := I.list (.of e1)
      obtain ⟨e, he, hx⟩ := memEq (A := X.A.in1) eK (by show X.A.units + 1 + 60 < cLine; omega) I rx ha pa r pxs rv
      refine SeqAt.in_listAt e pl.isList (fun w hw => he w (by simpa using hw)) ⟨.bl _, H, I, rfl, ?_⟩
      rw [show its.toArray.any e = its.any e by simp, any_by (r.len.trans rv.length) hx]
      exact q
    | tup xs =>
      obtain ⟨pa, pxs, rfl⟩ := memD_some (show memD a xs = some t by cases a <;> exact ht)
      simp only [Look, Rep] at hb
      obtain ⟨p, vs, rfl, e1, r, _⟩ := hb
      cases ry
      have e1' : SqT X.K H p vs := by rw [← eK]; exact e1.imp (fun z => z.2) id
      obtain ⟨its, rv, pl, hz⟩ := I.tuple e1'
      obtain ⟨e, he, hx⟩ := memEq (A := X.A.in1) eK (by show X.A.units + 1 + 60 < cLine; omega) I rx ha pa r pxs rv
      refine SeqAt.in_tupleAt e pl (fun w hw => he w (by simpa using hw)) ⟨.bl _, H, I, rfl, ?_⟩
      rw [show its.toArray.any e = its.any e by simp, any_by (r.len.trans rv.length) hx]
      exact q
    | str z =>
      cases a with
      | str c =>
        match c, ht, ha with
        | [c], ht, ha =>
          simp only [cmpF] at ht
          cases ht
          simp only [Look, Rep] at ha hb
          refine op_in_sign pins s σ H _ _ v u Q I rx ry ⟨c, strV z, ha.1, hb.1, ?_⟩
          rw [sign_dec]
          exact q
        | [], ht, _ => simp [cmpF] at ht
        | _ :: _ :: _, ht, _ => simp [cmpF] at ht
      | _ => simp [cmpF] at ht
    | dct kvs =>
      have ht : (if isKey a then some (dGet a kvs).isSome else none) = some t := by cases a <;> exact ht
      split at ht
      · cases ht
        obtain ⟨p, ks, rfl, e1, r, _⟩ := hb
        cases ry
        have e1' : Rd H p (.dK ks) := e1
        obtain ⟨k, hk⟩ : ∃ k, keyOf a = some k := by cases a <;> simp [isKey] at * <;> simp [keyOf]
        refine d_in (o := valV ks k) (by omega) I (dget_of hk (keyOf_kV hk ha) e1') rx fun s' I' => ⟨.bl _, H, I', rfl, ?_⟩
        rw [valV_isSome hk r]
        exact q
      · cases ht
    | _ => cases a <;> simp [cmpF] at ht
  | notin =>
    cases b with
    | lst xs =>
      have ht2 : (memD a xs).map not = some t := by cases a <;> exact ht
      simp only [Option.map_eq_some_iff] at ht2
      obtain ⟨t', ht3, rfl⟩ := ht2
      obtain ⟨pa, pxs, rfl⟩ := memD_some ht3
      obtain ⟨p, vs, rfl, e1, r, _⟩ := hb
      cases ry
      obtain ⟨its, rv, pl, hz⟩ := I.list (.of e1)
      obtain ⟨e, he, hx⟩ := memEq (A := X.A.in1) eK (by show X.A.units + 1 + 60 < cLine; omega) I rx ha pa r pxs rv
      refine SeqAt.notIn_listAt e pl.isList (fun w hw => he w (by simpa using hw)) ⟨.bl _, H, I, rfl, ?_⟩
      rw [show its.toArray.any e = its.any e by simp, any_by (r.len.trans rv.length) hx]
      exact q
    | tup xs =>
      have ht2 : (memD a xs).map not = some t := by cases a <;> exact ht
      simp only [Option.map_eq_some_iff] at ht2
      obtain ⟨t', ht3, rfl⟩ := ht2
      obtain ⟨pa, pxs, rfl⟩ := memD_some ht3
      simp only [Look, Rep] at hb
      obtain ⟨p, vs, rfl, e1, r, _⟩ := hb
      cases ry
      have e1' : SqT X.K H p vs := by rw [← eK]; exact e1.imp (fun z => z.2) id
      obtain ⟨its, rv, pl, hz⟩ := I.tuple e1'
      obtain ⟨e, he, hx⟩ := memEq (A := X.A.in1) eK (by show X.A.units + 1 + 60 < cLine; omega) I rx ha pa r pxs rv
      refine SeqAt.notIn_tupleAt e pl (fun w hw => he w (by simpa using hw)) ⟨.bl _, H, I, rfl, ?_⟩
      rw [show its.toArray.any e = its.any e by simp, any_by (r.len.trans rv.length) hx]
      exact q
    | str z =>
      cases a with
      | str c =>
        match c, ht, ha with
        | [c], ht, ha =>
          simp only [cmpF] at ht
          cases ht
          simp only [Look, Rep] at ha hb
          refine op_notIn_sign pins s σ H _ _ v u Q I rx ry ⟨c, strV z, ha.1, hb.1, ?_⟩
          rw [sign_dec]
          exact q
        | [], ht, _ => simp [cmpF] at ht
        | _ :: _ :: _, ht, _ => simp [cmpF] at ht
      | _ => simp [cmpF] at ht
    | dct kvs =>
      have ht : (if isKey a then some (!(dGet a kvs).isSome) else none) = some t := by cases a <;> exact ht
      split at ht
      · cases ht
        obtain ⟨p, ks, rfl, e1, r, _⟩ := hb
        cases ry
        have e1' : Rd H p (.dK ks) := e1
        obtain ⟨k, hk⟩ : ∃ k, keyOf a = some k := by cases a <;> simp [isKey] at * <;> simp [keyOf]
        refine d_notIn (o := valV ks k) (by omega) I (dget_of hk (keyOf_kV hk ha) e1') rx fun s' I' => ⟨.bl _, H, I', rfl, ?_⟩
        rw [valV_isSome hk r]
        exact q
      · cases ht
    | _ => cases a <;> simp [cmpF] at ht
end
end Mp

end
section
set_option Elab.async false
set_option linter.all false
set_option maxRecDepth 100000
set_option maxHeartbeats 4000000
/-! S7: items, slices, built-ins. -/
namespace Mp
open PySem PySem.Spec PyProof.Rows L2

def rGet (K : PySem.W.Frag) : R2 := fun x y H Q => ∃ L m F a b d, L.K = K ∧ Look L m F H a x ∧ Look L m F H b y ∧ getF a b = some d ∧ ∀ v, Rep L m F H d v → Q v H
def rSlc (K : PySem.W.Frag) : V → Option Int → Option Int → Hp → VK → Prop := fun x lo hi H Q => ∃ L m F a z, L.K = K ∧ Look L m F H a x ∧ slcF a lo hi = some z ∧ Res L m F H z Q
theorem ixN_idx (n : Nat) (i : Int) : ixN n i = idxAt n i := by
  unfold ixN idxAt
  by_cases h : 0 ≤ i
  · rw [if_pos h, if_pos h]
  · rw [if_neg h, if_neg h]
    by_cases g : 0 ≤ i + n
    · rw [if_pos g, if_pos (by omega)]
    · rw [if_neg g, if_neg (by omega)]
theorem atI_getAt {α : Type} (xs : List α) (i : Int) : atI xs i = getAt xs i := by
  unfold atI getAt
  rw [ixN_idx]
  cases idxAt xs.length i <;> rfl
section
variable {X : Cx} {L : Lk} {m : List Addr} {F : Addr → Prop} {H : Hp} {Q : VK} {x y : V}
theorem Look.sqL {xs : List D} (eK : L.K = X.K) (h : Look L m F H (.lst xs) x) : ∃ a vs, x = .ref a ∧ SqL X.K H a vs ∧ RepL L m F H xs vs ∧ xs.length ≤ szMax := by
  obtain ⟨a, vs, e, h, r, z⟩ := h
  exact ⟨a, vs, e, .inl (.inl h), r, z⟩
theorem Look.sqT {xs : List D} (eK : L.K = X.K) (h : Look L m F H (.tup xs) x) : ∃ a vs, x = .ref a ∧ SqT X.K H a vs ∧ RepL L m F H xs vs ∧ xs.length ≤ szMax := by
  simp only [Look, Rep] at h
  obtain ⟨a, vs, e, h, r, z⟩ := h
  refine ⟨a, vs, e, ?_, r, z⟩
  rw [← eK]
  exact h.imp (fun z => z.2) id
theorem Look.scrL {xs : List Int} (eK : L.K = X.K) (h : Look L m F H (.scr xs) x) : ∃ a, x = .ref a ∧ SqL X.K H a (xs.map V.int) ∧ xs.length ≤ szMax := by
  simp only [Look, Rep] at h
  obtain ⟨a, e, h, z⟩ := h
  refine ⟨a, e, ?_, z⟩
  rw [← eK]
  exact h.imp (fun z => z.2) id
theorem Look.int {i : Int} (h : Look L m F H (.int i) x) : x = .int i := h
theorem RepL.getAt {ds : List D} {vs : List V} {d : D} {i : Int} (r : RepL L m F H ds vs) (h : Mp.getAt ds i = some d) : ∃ v, atI vs i = some v ∧ Rep L m F H d v := by
  rw [atI_getAt]
  unfold Mp.getAt at h ⊢
  rw [← r.len]
  cases e : idxAt ds.length i with
  | none => rw [e] at h; cases h
  | some k => rw [e] at h; exact r.get h
theorem ix_any (hu : X.A.units + 64 < cLine) : IxR X (rGet X.K) := by
  intro value slice pins s σ H x y v u Q I rx ry h hs
  obtain ⟨L, m, F, a, b, d, eK, ha, hb, hd, q⟩ := h
  cases a with
  | lst xs => cases b with
    | int i =>
      cases hb.int
      obtain ⟨p, vs, rfl, h, r, z⟩ := ha.sqL eK
      obtain ⟨w, e, rw'⟩ := r.getAt (show getAt xs i = some d from hd)
      exact ix_list value slice pins s σ H _ _ v u Q I rx ry ⟨p, vs, i, w, rfl, rfl, h, e, q w rw'⟩ hs
    | _ => simp [getF] at hd
  | tup xs => cases b with
    | int i =>
      cases hb.int
      obtain ⟨p, vs, rfl, h, r, z⟩ := ha.sqT eK
      obtain ⟨w, e, rw'⟩ := r.getAt (show getAt xs i = some d from hd)
      exact ix_tup value slice pins s σ H _ _ v u Q I rx ry ⟨p, vs, i, w, rfl, rfl, h, e, q w rw'⟩ hs
    | _ => simp [getF] at hd
  | scr xs => cases b with
    | int i =>
      cases hb.int
      obtain ⟨p, rfl, h, z⟩ := ha.scrL eK
      have hd : (getAt xs i).map D.int = some d := hd
      simp only [Option.map_eq_some_iff] at hd
      obtain ⟨j, hj, rfl⟩ := hd
      refine ix_list value slice pins s σ H _ _ v u Q I rx ry ⟨p, _, i, .int j, rfl, rfl, h, ?_, q _ (by simp [Rep])⟩ hs
      rw [atI_getAt]
      unfold getAt at hj ⊢
      rw [List.length_map]
      cases e : idxAt xs.length i with
      | none => rw [e] at hj; cases hj
      | some k => rw [e] at hj; simp only at hj ⊢; rw [List.getElem?_map, hj]; rfl
    | _ => simp [getF] at hd
  | str z => cases b with
    | int i =>
      cases hb.int
      simp only [Look, Rep] at ha
      obtain ⟨rfl, hz, hc⟩ := ha
      simp only [getF] at hd
      cases e : idxAt z.length i with
      | none => rw [e] at hd; cases hd
      | some k =>
        rw [e] at hd
        simp only [Option.map_eq_some_iff] at hd
        obtain ⟨c, ec, rfl⟩ := hd
        refine ix_str value slice pins s σ H _ _ v u Q I rx ry ⟨strV z, i, c, rfl, rfl, by rw [strV_len]; exact Nat.le_trans hz szLine, ?_, q _ ?_⟩ hs
        · rw [atI_getAt]
          unfold getAt
          simp only [strV]
          rw [e]
          exact ec
        · simp only [Rep, strV]
          exact ⟨trivial, by simp [szMax], fun c' hc' => by
            simp at hc'
            subst hc'
            exact hc _ (List.mem_of_getElem? ec)⟩
    | _ => simp [getF] at hd
  | dct kvs =>
    have hd : (if isKey b then dGet b kvs else none) = some d := by cases b <;> exact hd
    split at hd
    · obtain ⟨p, ks, rfl, e1, r, _⟩ := ha
      cases rx
      obtain ⟨k, hk⟩ : ∃ k, keyOf b = some k := by cases b <;> simp [isKey] at * <;> simp [keyOf]
      have := dGet_rep hk r
      rw [hd] at this
      obtain ⟨w, ew, rw'⟩ := this
      have g : DGet H p y (some w) := by rw [← ew]; exact dget_of hk (keyOf_kV hk hb) e1
      exact tail_any (ops := [.ref p, u]) (dict_typeIs I g) PySem.F.slot_dict_getitem.lookup (d_getItem (by omega) I g ry fun w' s' I' r' => ⟨w, H, I', r', q w rw'⟩) (hs)
    · cases hd
  | _ => cases b <;> simp [getF] at hd
theorem clamp_eq (n : Nat) (d : Nat) (lo : Option Int) : HT.sIx n d lo = (match lo with | some i => clampI n i | none => d) := by cases lo <;> rfl
theorem cut_eq {α : Type} (xs : List α) (lo hi : Option Int) : cut xs lo hi = (xs.drop (HT.sIx xs.length 0 lo)).take (HT.sIx xs.length xs.length hi - HT.sIx xs.length 0 lo) := by
  unfold cut
  rw [List.drop_take, clamp_eq, clamp_eq]
  all_goals (cases lo <;> cases hi <;> rfl)
theorem cut_len {α : Type} (xs : List α) (lo hi : Option Int) : (cut xs lo hi).length ≤ xs.length := by
  rw [cut_eq, List.length_take, List.length_drop]; omega
theorem RepL.cut {ds : List D} {vs : List V} (r : RepL L m F H ds vs) (lo hi : Option Int) : RepL L m F H (cut ds lo hi) (cutV vs lo hi) := by
  rw [cut_eq, cutV, r.len]
  exact (r.drop _).take _
theorem cut_all {α : Type} (xs : List α) {lo hi : Option Int} (h : HT.sIx xs.length 0 lo = 0 ∧ HT.sIx xs.length xs.length hi = xs.length) : cut xs lo hi = xs := by
  rw [cut_eq, h.1, h.2]
  simp
theorem sl_any : L2.SlR X (rSlc X.K) := by
  intro pins s σ H x v vl vu lo hi sl Q I rx hs pl pu h
  obtain ⟨L, m, F, a, z, eK, ha, hz, R⟩ := h
  cases a with
  | lst xs =>
    obtain ⟨p, vs, rfl, h, r, z⟩ := ha.sqL eK
    cases hz
    exact sl_list pins s σ H _ v vl vu lo hi sl Q I rx hs pl pu ⟨p, vs, rfl, h, fun p' hp => R.n p' _ hp ⟨_, rfl, r.cut lo hi, Nat.le_trans (cut_len _ _ _) z⟩⟩
  | tup xs =>
    obtain ⟨p, vs, rfl, h, r, z⟩ := ha.sqT eK
    cases hz
    refine sl_tupA pins s σ H _ v vl vu lo hi sl Q I rx hs pl pu ⟨p, vs, rfl, h, fun w => ?_, fun w p' hp => R.n p' _ hp ⟨_, rfl, r.cut lo hi, Nat.le_trans (cut_len _ _ _) z⟩⟩
    rw [← r.len] at w
    rw [cut_all _ w] at R
    exact R.v _ ha
  | str xs =>
    simp only [Look, Rep] at ha
    obtain ⟨rfl, hz1, hc⟩ := ha
    cases hz
    refine sl_str pins s σ H _ v vl vu lo hi sl Q I rx hs pl pu ⟨_, rfl, by rw [strV_len]; exact Nat.le_trans hz1 szLine, ?_⟩
    refine R.v _ ?_
    simp only [ResV, Rep]
    refine ⟨?_, Nat.le_trans (cut_len _ _ _) hz1, fun c hc' => hc c ?_⟩
    · unfold cutS
      rw [strV_len, cut_eq]
      simp [strV]
    · rw [cut_eq] at hc'
      exact List.mem_of_mem_drop (List.mem_of_mem_take hc')
  | _ => cases hz
end
end Mp

end
section
set_option Elab.async false
set_option linter.all false
set_option maxRecDepth 100000
set_option maxHeartbeats 4000000
/-! S7s: sorted, of data. -/
namespace Mp
open PySem PySem.Spec PyProof.Rows L2
theorem ltS_eq : ∀ a b : List Nat, decide (a < b) = ltS a b
  | [], [] => by simp [ltS]
  | [], _ :: _ => by simp [ltS]
  | _ :: _, [] => by simp [ltS]
  | a :: as, b :: bs => by
    have ih := ltS_eq as bs
    simp only [ltS, List.cons_lt_cons_iff]
    by_cases h : a < b
    · simp [h]
    · by_cases e : a = b
      · subst e; simp [ih]
      · have e' : (a == b) = false := by simpa using e
        simp [h, e]
theorem lex_nn : PyProof.Rows.lexLt PyProof.Rows.itemOrd (PySem.W.keyToksAll []) (PySem.W.keyToksAll []) = false := PyProof.Rows.lex_irrefl _
theorem lex_nc (y : PyData) (ys : List PyData) : PyProof.Rows.lexLt PyProof.Rows.itemOrd (PySem.W.keyToksAll []) (PySem.W.keyToksAll (y :: ys)) = true := by
  have h1 : itemLt (Sum.inl 0) (Sum.inl 1) = true := by simp [itemLt]
  have h2 : itemLt (Sum.inl 1) (Sum.inl 0) = false := by simp [itemLt]
  simp [PySem.W.keyToksAll, PyProof.Rows.lexLt, PyProof.Rows.itemOrd, h1, h2]
theorem lex_cn (y : PyData) (ys : List PyData) : PyProof.Rows.lexLt PyProof.Rows.itemOrd (PySem.W.keyToksAll (y :: ys)) (PySem.W.keyToksAll []) = false := by
  have h1 : itemLt (Sum.inl 0) (Sum.inl 1) = true := by simp [itemLt]
  have h2 : itemLt (Sum.inl 1) (Sum.inl 0) = false := by simp [itemLt]
  simp [PySem.W.keyToksAll, PyProof.Rows.lexLt, PyProof.Rows.itemOrd, h1, h2]
mutual
theorem lt_data : ∀ (a : D) (n : Nat) (b : D) (k : Nat), pd a n = true → pd b k = true → alD a b = true → PySem.W.alike (toPD a) (toPD b) = true ∧ PySem.W.dataLt (toPD a) (toPD b) = ltB a b
  | .int i, n, b, k, p, q, h => by
    cases b <;> simp [alD] at h
    refine ⟨by simp [toPD, PySem.W.alike], ?_⟩
    simp only [toPD, PySem.W.dataLt_int, ltB, ltD]
    rename_i j
    by_cases h : i < j <;> simp [h]
  | .str s, n, b, k, p, q, h => by
    cases b <;> simp [alD] at h
    refine ⟨by simp [toPD, PySem.W.alike], ?_⟩
    simp only [toPD, PySem.W.dataLt_str, ltB, ltD, strV]
    rw [ltS_eq]
    cases ltS s _ <;> rfl
  | .tup xs, 0, b, k, p, q, h => by simp [pd] at p
  | .tup xs, n + 1, b, k, p, q, h => by
    cases b <;> simp [alD] at h
    cases k with
    | zero => simp [pd] at q
    | succ k =>
      simp only [pd] at p q
      obtain ⟨h1, h2⟩ := lt_dataL xs n _ k p q h
      exact ⟨by simp only [toPD, PySem.W.alike]; exact h1, by simp only [toPD, PySem.W.dataLt_tuple, ltB, ltD]; exact h2⟩
  | .lst xs, 0, b, k, p, q, h => by simp [pd] at p
  | .lst xs, n + 1, b, k, p, q, h => by
    cases b <;> simp [alD] at h
    cases k with
    | zero => simp [pd] at q
    | succ k =>
      simp only [pd] at p q
      obtain ⟨h1, h2⟩ := lt_dataL xs n _ k p q h
      exact ⟨by simp only [toPD, PySem.W.alike]; exact h1, by simp only [toPD, PySem.W.dataLt_list, ltB, ltD]; exact h2⟩
  | .non, n, b, k, p, q, h => by simp [alD] at h
  | .bl _, n, b, k, p, q, h => by simp [alD] at h
  | .dct _, n, b, k, p, q, h => by simp [alD] at h
  | .set _, n, b, k, p, q, h => by simp [alD] at h
  | .obj _ _, n, b, k, p, q, h => by simp [alD] at h
  | .ref _, n, b, k, p, q, h => by simp [alD] at h
  | .fn _, n, b, k, p, q, h => by simp [alD] at h
  | .scr _, n, b, k, p, q, h => by simp [alD] at h
  | .bad, n, b, k, p, q, h => by simp [alD] at h
theorem lt_dataL : ∀ (a : List D) (n : Nat) (b : List D) (k : Nat), pdL a n = true → pdL b k = true → alL a b = true → PySem.W.alikeAll (toPDL a) (toPDL b) = true ∧ PyProof.Rows.lexLt PyProof.Rows.itemOrd (PySem.W.keyToksAll (toPDL a)) (PySem.W.keyToksAll (toPDL b)) = (ltL a b == some true)
  | [], n, [], k, p, q, h => ⟨by simp [toPDL, PySem.W.alikeAll], by simp only [toPDL, ltL]; exact lex_nn⟩
  | [], n, _ :: _, k, p, q, h => ⟨by simp [toPDL, PySem.W.alikeAll], by simp only [toPDL, ltL]; exact lex_nc _ _⟩
  | _ :: _, n, [], k, p, q, h => ⟨by simp [toPDL, PySem.W.alikeAll], by simp only [toPDL, ltL]; exact lex_cn _ _⟩
  | x :: a, n, y :: b, k, p, q, h => by
    simp only [pdL, Bool.and_eq_true] at p q
    simp only [alL, Bool.and_eq_true] at h
    obtain ⟨h1, h2⟩ := lt_data x n y k p.1 q.1 h.1
    obtain ⟨h3, h4⟩ := lt_dataL a n b k p.2 q.2 h.2
    refine ⟨by simp only [toPDL, PySem.W.alikeAll, h1, h3, Bool.and_self], ?_⟩
    simp only [toPDL]
    rw [PySem.W.dataLt_cons h1, eqv_of x n y k p.1 q.1, h4, h2]
    simp only [ltL]
    cases eqD x y <;> simp [ltB]
end
section
variable {X : Cx} {L : Lk} {m : List Addr} {F : Addr → Prop} {H : Hp} {pins : List (Addr × Obj)} {σ : L2.St} {s : Shared}
abbrev StandsFor (L : Lk) (m : List Addr) (F : Addr → Prop) (H : Hp) (v : Value) (d : D) : Prop := ∃ x, RelV x v ∧ Rep L m F H d x
theorem each_stand : ∀ {vs : List V} {us : List Value} {ds : List D}, Vals vs us → RepL L m F H ds vs → PySem.W.EachIs (StandsFor L m F H) us ds
  | [], _, [], .nil, _ => .nil
  | v :: vs, _, d :: ds, .cons r rr, h => by
    simp only [RepL] at h
    exact .cons ⟨v, r, h.1⟩ (each_stand rr h.2)
  | [], _, _ :: _, _, h => by simp only [RepL] at h
  | _ :: _, _, [], _, h => by simp only [RepL] at h
theorem each_reads (eK : L.K = X.K) (I : Inv X pins σ H s) : ∀ {vs : List V} {us : List Value} {ds : List D}, Vals vs us → RepL L m F H ds vs → (∀ d ∈ ds, pd d pdMax = true) → PySem.W.EachIs (fun v b => ∃ as, PySem.Reads s.heap v (toPD b) as) us ds
  | [], _, [], .nil, _, _ => .nil
  | v :: vs, _, d :: ds, .cons r rr, h, p => by
    simp only [RepL] at h
    exact .cons (Dp.reads I (toPD d) v _ (eK ▸ dp_of d _ v (p d (List.mem_cons_self ..)) h.1) r) (each_reads eK I rr h.2 fun e he => p e (List.mem_cons_of_mem _ he))
  | [], _, _ :: _, _, h, _ => by simp only [RepL] at h
  | _ :: _, _, [], _, h, _ => by simp only [RepL] at h
theorem of_each : ∀ {out : List Value} {ds : List D}, PySem.W.EachIs (StandsFor L m F H) out ds → ∃ xs, Vals xs out ∧ RepL L m F H ds xs
  | _, _, .nil => ⟨[], .nil, by simp only [RepL]⟩
  | _, _, .cons ⟨x, r, h⟩ t => by
    obtain ⟨xs, h1, h2⟩ := of_each t
    exact ⟨x :: xs, .cons r h1, by simp only [RepL]; exact ⟨h, h2⟩⟩
theorem cmpOk_of {ds : List D} (h : cmpOk ds = true) : (∀ d ∈ ds, pd d pdMax = true) ∧ (∀ d ∈ ds, ∀ e ∈ ds, alD d e = true) ∧ ((∀ d ∈ ds, tup1 d = true) ∨ ∀ d ∈ ds, noTup d = true) := by
  unfold cmpOk at h
  rw [Bool.and_eq_true, Bool.or_eq_true] at h
  simp only [List.all_eq_true, Bool.and_eq_true] at h
  exact ⟨fun d hd => (h.1 d hd).1, fun d hd e he => (h.1 d hd).2 e he, h.2⟩
theorem allAlike_of {ds : List D} (h : cmpOk ds = true) : PySem.W.AllAlike (ds.map toPD) := by
  obtain ⟨h1, h2, _⟩ := cmpOk_of h
  intro d hd e he
  obtain ⟨d', hd', rfl⟩ := List.mem_map.mp hd
  obtain ⟨e', he', rfl⟩ := List.mem_map.mp he
  exact (lt_data d' _ e' _ (h1 d' hd') (h1 e' he') (h2 d' hd' e' he')).1
theorem sortable_of {ds : List D} (h : cmpOk ds = true) : PySem.W.Sortable (ds.map toPD) := by
  obtain ⟨h1, _, h3⟩ := cmpOk_of h
  rcases h3 with h3 | h3
  · refine .inl fun d hd => ?_
    obtain ⟨d', hd', rfl⟩ := List.mem_map.mp hd
    have := h3 d' hd'
    cases d' with
    | tup xs => cases xs with
      | nil => cases this
      | cons x r => exact ⟨_, _, by simp only [toPD, toPDL]; rfl⟩
    | _ => cases this
  · refine .inr fun d hd => ?_
    obtain ⟨d', hd', rfl⟩ := List.mem_map.mp hd
    have h4 := h3 d' hd'
    have h5 := h1 d' hd'
    cases d' <;> first | (cases h4; done) | (simp [pd] at h5; done) | exact ⟨fun z => (by simp [toPD] at z), fun xs z => (by simp [toPD] at z)⟩
theorem srt_data {ds : List D} (h : cmpOk ds = true) : ds.mergeSort (PySem.W.dataLe false toPD) = srt ltB ds := by
  obtain ⟨h1, h2, _⟩ := cmpOk_of h
  unfold srt
  refine PySem.W.sort_congr fun a ha b hb => ?_
  rw [PySem.W.dataLe_eq]
  show (!PySem.W.dataLt (toPD b) (toPD a)) = _
  rw [(lt_data b _ a _ (h1 b hb) (h1 a ha) (h2 b hb a ha)).2]
def rSrtM (K : PySem.W.Frag) : List V → Hp → VK → Prop := fun xs H Q => ∃ L m F ds p vs, xs = [.ref p] ∧ L.K = K ∧ SqL K H p vs ∧ RepL L m F H ds vs ∧ ds.length ≤ szMax ∧ cmpOk ds = true ∧ ∀ l vs', H l = none → RepL L m F H (srt ltB ds) vs' → Q (.ref l) (upd H l (.lst vs'))
theorem call_sortedM (hu : X.A.units + 64 < cLine) : CallR X (.builtin "sorted") (rSrtM X.K) := by
  intro pins s σ H xs us Q I rx h
  obtain ⟨L, m, F, ds, p, vs, rfl, eK, hs, r, hz, hc, q⟩ := h
  obtain ⟨its, rv, pl, hzz⟩ := I.list hs
  rw [Vals.ref1 rx]
  obtain ⟨h1, h2, h3⟩ := cmpOk_of hc
  refine PySem.W.sorted_data (R := StandsFor L m F H) (enc := toPD) (bs := ds) (vs := its) pl.isList (each_stand rv r) (each_reads eK I rv r h1) (allAlike_of hc) (sortable_of hc) (Nat.le_trans hz szLine) (fun b hb => ?_) fun out hlen hout => ?_
  · have := dep_of b pdMax (h1 b hb)
    unfold pdMax at this
    omega
  · rw [srt_data hc] at hout
    obtain ⟨vs', r1, r2⟩ := of_each hout
    obtain ⟨ep, he'⟩ := PyProof.Rows.sortedAll_at s.heap its out.toArray
    have hlen2 : vs'.length ≤ sizeLine := by rw [r1.length, hlen]; exact Nat.le_trans hz szLine
    exact ⟨.ref _, upd H (s.heap.objs.size + 1) (.lst vs'), I.laid (t' := s.toks) (fun _ _ => PyProof.Rows.sortedAll_old) (Nat.le_succ _) ⟨hlen2, out, ep, r1, he'⟩, rfl, q _ _ (I.hok.fresh (Nat.le_succ _)) r2⟩
theorem srt_len {ds : List D} : (srt ltB ds).length = ds.length := by unfold srt; exact List.length_mergeSort _
end
end Mp

end
section
set_option Elab.async false
set_option linter.all false
set_option maxRecDepth 100000
set_option maxHeartbeats 4000000
/-! S8: built-ins by name. -/
namespace Mp
open PySem PySem.Spec PyProof.Rows L2

/-- a value's first argument is looked at, the others are kept -/
def rBi (K : PySem.W.Frag) (b : BI) : List V → Hp → VK → Prop := fun xs H Q => ∃ L m F a as x xr z, xs = x :: xr ∧ L.K = K ∧ Look L m F H a x ∧ RepL L m F H as xr ∧ biF b (a :: as) = some z ∧ Res L m F H z Q
/-- the built-ins that have a lemma, by the number of arguments -/
def biN : BI → Nat
  | .list => 1 | .dictP => 1 | .str => 1 | .sorted => 1 | .len => 1 | .abs => 1 | .int => 1 | .tuple => 1 | .minL => 1 | .maxL => 1 | .sum => 1 | .any => 1 | .all => 1 | .minA => 2 | .maxA => 2 | _ => 0
/-- .. those that ask for a calm place -/
def biCalm : BI → Bool
  | .list => true | .dictP => true | .minL => true | .maxL => true | .sum => true | .any => true | .all => true | .minA => true | .maxA => true | _ => false
/-- name, and whether it is a type -/
def biNm : BI → String × Bool
  | .list => ("list", true) | .dictP => ("dict", true) | .str => ("str", true) | .sorted => ("sorted", false) | .len => ("len", false) | .abs => ("abs", false) | .int => ("int", true) | .tuple => ("tuple", true)
  | .minL => ("min", false) | .maxL => ("max", false) | .minA => ("min", false) | .maxA => ("max", false)
  | .sum => ("sum", false) | .any => ("any", false) | .all => ("all", false) | _ => ("", false)
def biV' (b : BI) : Value := if (biNm b).2 then .type (biNm b).1 else .builtin (biNm b).1
section
variable {X : Cx} {L : Lk} {m : List Addr} {F : Addr → Prop} {H : Hp} {Q : VK} {x y : V}
theorem RepL.nil_inv {vs : List V} (h : RepL L m F H [] vs) : vs = [] := by cases vs with | nil => rfl | cons => simp only [RepL] at h
theorem RepL.one_inv {d : D} {vs : List V} (h : RepL L m F H [d] vs) : ∃ v, vs = [v] ∧ Rep L m F H d v := by
  cases vs with
  | nil => simp only [RepL] at h
  | cons v vs =>
    simp only [RepL] at h
    obtain ⟨h1, h2⟩ := h
    cases h2.nil_inv
    exact ⟨v, rfl, h1⟩
theorem Res.int {i : Int} (R : Res L m F H (.dat (.int i)) Q) : Q (.int i) H := R.v _ (by simp [ResV, Rep])
theorem Res.bl {i : Bool} (R : Res L m F H (.dat (.bl i)) Q) : Q (.bl i) H := R.v _ (by simp [ResV, Rep])
theorem strOfInt_toString (i : Int) : Str.ofString (toString i) = strV (strOfInt i) := by
  rw [Str.ofString_eq_toList]
  unfold strV
  congr 2
  unfold strOfInt digits
  cases i with
  | ofNat n =>
    show (Nat.repr n).toList.map Char.toNat = _
    rw [if_neg (by simp)]
    simp [Nat.repr]
  | negSucc n =>
    show ("-" ++ Nat.repr (n + 1)).toList.map Char.toNat = _
    rw [if_pos (by simp)]
    simp [Nat.repr, Int.natAbs]
theorem strOfInt_len {i : Int} (h : i.natAbs < 10 ^ 100) : (strOfInt i).length ≤ szMax := by
  have h1 : (digits i.natAbs).length ≤ 100 := by
    unfold digits
    rw [List.length_map]
    exact (Nat.length_toDigits_le_iff (by decide) (by decide)).mpr h
  unfold strOfInt
  split
  · simp only [List.length_cons]; unfold szMax; omega
  · unfold szMax; omega
theorem strOfInt_ok {i : Int} : ∀ c ∈ strOfInt i, c < 1114112 := by
  have h1 : ∀ n : Nat, ∀ c ∈ digits n, c < 1114112 := fun n c hc => by
    unfold digits at hc
    obtain ⟨d, _, rfl⟩ := List.mem_map.mp hc
    have := d.valid
    rcases this with h | h
    · have h2 : d.toNat < 55296 := h
      omega
    · have h2 : d.toNat < 1114112 := h.2
      exact h2
  intro c hc
  unfold strOfInt at hc
  split at hc
  · rcases List.mem_cons.mp hc with h | h
    · omega
    · exact h1 _ c h
  · exact h1 _ c hc
theorem dOfL_rep {K : PySem.W.Frag} (eK : L.K = K) : ∀ {ds : List D} {vs : List V} {acc out : List (D × D)} {ka : List (Key × V)}, RepL L m F H ds vs → RepK L m F H acc ka → dOfL ds acc = some out →
    ∃ (ps : List Addr) (kvs : List (Key × V)), vs = ps.map V.ref ∧ Paired (fun p kv => SqT K H p [kV kv.1, kv.2]) ps kvs ∧ RepK L m F H out (mergeK ka kvs) ∧ out.length ≤ acc.length + ds.length
  | [], [], acc, out, ka, _, ra, h => by
    simp only [dOfL, Option.some.injEq] at h
    subst h
    exact ⟨[], [], rfl, .nil, ra, Nat.le_refl _⟩
  | d :: ds, v :: vs, acc, out, ka, r, ra, h => by
    simp only [RepL] at r
    simp only [dOfL] at h
    cases e : pairOf d with
    | none => rw [e] at h; cases h
    | some kv =>
      obtain ⟨k, x⟩ := kv
      rw [e] at h
      simp only at h
      unfold pairOf at e
      split at e
      · rename_i k' x'
        split at e
        · rename_i hk
          cases e
          obtain ⟨r0, r1⟩ := r
          simp only [Rep] at r0
          obtain ⟨a, ws, rfl, hs, rw', _⟩ := r0
          obtain ⟨q, hq⟩ := keyOf_some hk
          cases ws with
          | nil => simp only [RepL] at rw'
          | cons y ws => cases ws with
            | nil => simp [RepL] at rw'
            | cons y2 ws =>
              simp only [RepL] at rw'
              obtain ⟨ry, ry2, r3⟩ := rw'
              cases RepL.nil_inv r3
              have ok := kOk_of hk (Rep.look ry)
              have ey := keyOf_kV hq (Rep.look ry)
              subst ey
              obtain ⟨ps, kvs, rfl, hp, hr, hl⟩ := dOfL_rep eK r1 (ra.put hq ok ry2) h
              refine ⟨a :: ps, (q, y2) :: kvs, rfl, .cons ?_ hp, hr, ?_⟩
              · rw [← eK]; exact hs.imp (·.2) id
              · have : (dPut k x acc).length ≤ acc.length + 1 := by
                  unfold dPut
                  split
                  · rw [List.length_map]; omega
                  · rw [List.length_append]; simp
                simp only [List.length_cons]
                omega
        · cases e
      · cases e
  | [], _ :: _, _, _, _, r, _, _ => by simp only [RepL] at r
  | _ :: _, [], _, _, _, r, _, _ => by simp only [RepL] at r
theorem call_biM (hu : X.A.units + 64 < cLine) (b : BI) (n : Nat) (hn0 : n ≠ 0) (hb : biN b = n) (hc : biCalm b = true → X.calm = true) : CallR X (biV' b) (fun xs H Q => xs.length = n ∧ rBi X.K b xs H Q) := by
  intro pins s σ H xs us Q I rx h
  obtain ⟨hn, L, m, F, a, as, x, xr, z, rfl, eK, ha, hr, hz, R⟩ := h
  subst hb
  have one : xr.length + 1 = 1 → xr = [] ∧ as = [] := fun h => by
    obtain rfl : xr = [] := by simpa using h
    exact ⟨rfl, by cases as with | nil => rfl | cons => simp only [RepL] at hr⟩
  have two : xr.length + 1 = 2 → ∃ y b', xr = [y] ∧ as = [b'] ∧ Rep L m F H b' y := fun h => by
    match xr, as, h, hr with
    | [y], [b'], _, hr => exact ⟨y, b', rfl, rfl, by simp only [RepL] at hr; exact hr.1⟩
    | [y], [], _, hr => simp only [RepL] at hr
    | [y], _ :: _ :: _, _, hr => simp [RepL] at hr
  cases b <;> (try exact absurd rfl hn0)
  case list =>
    obtain ⟨rfl, rfl⟩ := one hn
    have hz : bi1 .list a = some z := hz
    cases a <;> simp only [bi1] at hz <;> try contradiction
    · cases hz
      obtain ⟨p, vs, rfl, h, r, hz1⟩ := ha.sqT eK
      exact call_list_of pins s σ H _ us Q I rx ⟨p, vs, rfl, .inr h, fun l hl => R.n l _ hl ⟨_, rfl, r, hz1⟩⟩
    · cases hz
      obtain ⟨p, vs, rfl, h, r, hz1⟩ := ha.sqL eK
      exact call_list_of pins s σ H _ us Q I rx ⟨p, vs, rfl, .inl h, fun l hl => R.n l _ hl ⟨_, rfl, r, hz1⟩⟩
    · cases hz
      obtain ⟨p, ks, rfl, e1, r, hz1⟩ := ha
      exact call_listD (hc rfl) pins s σ H _ us Q I rx ⟨p, ks, rfl, e1, fun l hl => R.n l _ hl ⟨_, rfl, r.keys, by rw [List.length_map]; exact hz1⟩⟩
  case dictP =>
    obtain ⟨rfl, rfl⟩ := one hn
    have hz : bi1 .dictP a = some z := hz
    cases a <;> simp only [bi1] at hz <;> try contradiction
    · rename_i ds _
      simp only [Option.map_eq_some_iff] at hz
      obtain ⟨out, e, rfl⟩ := hz
      obtain ⟨p, vs, rfl, h, r, hz1⟩ := ha.sqL eK
      obtain ⟨ps, kvs, rfl, hp, hr, hl⟩ := dOfL_rep (ka := []) eK r (by simp only [RepK]) e
      exact call_dictP (hc rfl) pins s σ H _ us Q I rx ⟨p, ps, kvs, rfl, h, hp, fun l hl2 => R.n l _ hl2 ⟨_, rfl, hr, by simp at hl; omega⟩⟩
    · cases hz
      obtain ⟨p, ks, rfl, e1, r, hz1⟩ := ha
      exact call_dictD pins s σ H _ us Q I rx ⟨p, ks, rfl, e1, fun l hl => R.n l _ hl ⟨_, rfl, r, hz1⟩⟩
  case str =>
    obtain ⟨rfl, rfl⟩ := one hn
    have hz : bi1 .str a = some z := hz
    cases a <;> simp only [bi1] at hz <;> try contradiction
    · rename_i i _
      split at hz
      · rename_i hi
        cases hz
        cases ha.int
        refine call_str_int pins s σ H _ us Q I rx ⟨i, rfl, ?_, ?_⟩
        · by_cases h0 : i.natAbs = 0
          · rw [h0]; decide
          · exact (Nat.log2_lt h0).mpr (Nat.lt_of_lt_of_le hi (by decide +kernel))
        · show Q (.str (Str.ofString (toString i))) H
          rw [strOfInt_toString]
          refine R.v _ ?_
          simp only [ResV, Rep]
          exact ⟨trivial, strOfInt_len hi, strOfInt_ok⟩
      · cases hz
    · cases hz
      simp only [Look, Rep] at ha
      obtain ⟨rfl, h1, h2⟩ := ha
      exact SkE.call_str_str pins s σ H _ us Q I rx ⟨_, rfl, R.v _ (by simp only [ResV, Rep]; exact ⟨trivial, h1, h2⟩)⟩
  case sorted =>
    obtain ⟨rfl, rfl⟩ := one hn
    have hz : bi1 .sorted a = some z := hz
    cases a <;> simp only [bi1, seqOf] at hz <;> try contradiction
    · rename_i ds _
      split at hz
      · rename_i hcm
        cases hz
        obtain ⟨p, vs, rfl, h, r, hz1⟩ := ha.sqL eK
        exact call_sortedM hu pins s σ H _ us Q I rx ⟨L, m, F, ds, p, vs, rfl, eK, h, r, hz1, hcm, fun l vs' hl r' => R.n l _ hl ⟨_, rfl, r', by rw [srt_len]; exact hz1⟩⟩
      · cases hz
  case len =>
    obtain ⟨rfl, rfl⟩ := one hn
    have hz : bi1 .len a = some z := hz
    cases a with
    | lst ds =>
      obtain ⟨p, vs, rfl, h, r, hz1⟩ := ha.sqL eK
      cases hz
      exact call_len_seq pins s σ H _ us Q I rx ⟨p, vs, rfl, .inl h, by rw [← r.len]; exact R.int⟩
    | tup ds =>
      obtain ⟨p, vs, rfl, h, r, hz1⟩ := ha.sqT eK
      cases hz
      exact call_len_seq pins s σ H _ us Q I rx ⟨p, vs, rfl, .inr h, by rw [← r.len]; exact R.int⟩
    | scr ds =>
      obtain ⟨p, rfl, h, hz1⟩ := ha.scrL eK
      cases hz
      exact call_len_seq pins s σ H _ us Q I rx ⟨p, _, rfl, .inl h, by rw [List.length_map]; exact R.int⟩
    | str ds =>
      simp only [Look, Rep] at ha
      obtain ⟨rfl, hz1, hc⟩ := ha
      cases hz
      exact call_len pins s σ H _ us Q I rx ⟨_, _, rfl, ⟨by rw [strV_len]; exact Nat.le_trans hz1 szLine, rfl⟩, by rw [strV_len]; exact R.int⟩
    | dct kvs =>
      obtain ⟨p, ks, rfl, e1, r, _⟩ := ha
      cases hz
      rw [Vals.ref1 rx]
      refine d_len I e1 fun t s' I' => ⟨.int ks.length, H, I', ⟨t, rfl⟩, ?_⟩
      rw [← r.lenK]
      exact R.int
    | _ => simp [bi1] at hz
  case abs =>
    obtain ⟨rfl, rfl⟩ := one hn
    have hz : bi1 .abs a = some z := hz
    cases a <;> simp only [bi1] at hz <;> try contradiction
    cases hz
    cases ha.int
    refine call_abs pins s σ H _ us Q I rx ⟨_, rfl, ?_⟩
    rename_i i
    rw [show (if i < 0 then -i else i) = ((i.natAbs : Nat) : Int) by split <;> omega]
    exact R.int
  case int =>
    obtain ⟨rfl, rfl⟩ := one hn
    have hz : bi1 .int a = some z := hz
    cases a <;> simp only [bi1] at hz <;> try contradiction
    · cases hz
      cases (show x = .bl _ from ha)
      exact call_int1 pins s σ H _ us Q I rx (.inr ⟨_, rfl, R.int⟩)
    · cases hz
      cases ha.int
      exact call_int1 pins s σ H _ us Q I rx (.inl ⟨_, rfl, R.int⟩)
  case tuple =>
    obtain ⟨rfl, rfl⟩ := one hn
    have hz : bi1 .tuple a = some z := hz
    cases a <;> simp only [bi1, seqOf, Option.map] at hz <;> try contradiction
    · cases hz
      obtain ⟨p, vs, rfl, h, r, hz1⟩ := ha.sqT eK
      exact call_tuple_of pins s σ H _ us Q I rx ⟨p, vs, rfl, .inr ⟨h, R.v _ ha⟩⟩
    · cases hz
      obtain ⟨p, vs, rfl, h, r, hz1⟩ := ha.sqL eK
      exact call_tuple_of pins s σ H _ us Q I rx ⟨p, vs, rfl, .inl ⟨h, fun l hl => R.n l _ hl ⟨_, rfl, r, hz1⟩⟩⟩
  case minA =>
    obtain ⟨y, b', rfl, rfl, hr1⟩ := two hn
    cases a <;> cases b' <;> simp only [biF] at hz <;> try contradiction
    cases hz
    cases ha.int
    cases (show y = .int _ from hr1)
    refine call_min2 (hc rfl) pins s σ H _ us Q I rx ⟨_, _, rfl, ?_⟩
    rename_i i j
    rw [show (if j < i then j else i) = min i j by split <;> omega]
    exact R.int
  case maxA =>
    obtain ⟨y, b', rfl, rfl, hr1⟩ := two hn
    cases a <;> cases b' <;> simp only [biF] at hz <;> try contradiction
    cases hz
    cases ha.int
    cases (show y = .int _ from hr1)
    refine call_max2 (hc rfl) pins s σ H _ us Q I rx ⟨_, _, rfl, ?_⟩
    rename_i i j
    rw [show (if j > i then j else i) = max i j by split <;> omega]
    exact R.int
  case minL =>
    obtain ⟨rfl, rfl⟩ := one hn
    have hz : bi1 .minL a = some z := hz
    cases a <;> simp only [bi1] at hz <;> try contradiction
    rename_i ds _
    obtain ⟨p, vs, rfl, h, r, hz1⟩ := ha.sqL eK
    cases e : ints? ds with
    | none => rw [e] at hz; cases hz
    | some l =>
      rw [e] at hz
      simp only [Option.map_eq_some_iff] at hz
      obtain ⟨i, hi, rfl⟩ := hz
      have ev := r.ints e
      subst ev
      rw [List.min?_eq_some_iff] at hi
      refine cr_min (hc rfl) pins s σ H _ us Q I rx ⟨p, l, rfl, h, List.length_pos_of_mem hi.1, fun k hk hl => ?_⟩
      rw [show k = i from Int.le_antisymm (hl i hi.1) (hi.2 k hk)]
      exact R.int
  case maxL =>
    obtain ⟨rfl, rfl⟩ := one hn
    have hz : bi1 .maxL a = some z := hz
    cases a <;> simp only [bi1] at hz <;> try contradiction
    rename_i ds _
    obtain ⟨p, vs, rfl, h, r, hz1⟩ := ha.sqL eK
    cases e : ints? ds with
    | none => rw [e] at hz; cases hz
    | some l =>
      rw [e] at hz
      simp only [Option.map_eq_some_iff] at hz
      obtain ⟨i, hi, rfl⟩ := hz
      have ev := r.ints e
      subst ev
      rw [List.max?_eq_some_iff] at hi
      refine cr_max (hc rfl) pins s σ H _ us Q I rx ⟨p, l, rfl, h, List.length_pos_of_mem hi.1, fun k hk hl => ?_⟩
      rw [show k = i from Int.le_antisymm (hi.2 k hk) (hl i hi.1)]
      exact R.int
  case sum =>
    obtain ⟨rfl, rfl⟩ := one hn
    have hz : bi1 .sum a = some z := hz
    cases a <;> simp only [bi1] at hz <;> try contradiction
    rename_i ds
    obtain ⟨p, vs, rfl, h, r, hz1⟩ := ha.sqL eK
    simp only [Option.map_eq_some_iff] at hz
    obtain ⟨l, e, rfl⟩ := hz
    have ev := r.ints e
    subst ev
    exact cr_sum (hc rfl) pins s σ H _ us Q I rx ⟨p, l, rfl, h, R.int⟩
  case all =>
    obtain ⟨rfl, rfl⟩ := one hn
    have hz : bi1 .all a = some z := hz
    cases a <;> simp only [bi1] at hz <;> try contradiction
    rename_i ds
    obtain ⟨p, vs, rfl, h, r, hz1⟩ := ha.sqL eK
    simp only [Option.map_eq_some_iff] at hz
    obtain ⟨l, e, rfl⟩ := hz
    have ev := r.bls e
    subst ev
    exact cr_all (hc rfl) pins s σ H _ us Q I rx ⟨p, l, rfl, h, R.bl⟩
  case any =>
    obtain ⟨rfl, rfl⟩ := one hn
    have hz : bi1 .any a = some z := hz
    cases a <;> simp only [bi1] at hz <;> try contradiction
    rename_i ds
    obtain ⟨p, vs, rfl, h, r, hz1⟩ := ha.sqL eK
    simp only [Option.map_eq_some_iff] at hz
    obtain ⟨l, e, rfl⟩ := hz
    have ev := r.bls e
    subst ev
    exact cr_any (hc rfl) pins s σ H _ us Q I rx ⟨p, l, rfl, h, R.bl⟩
end
end Mp

end
section
set_option Elab.async false
set_option linter.all false
set_option maxRecDepth 100000
set_option maxHeartbeats 4000000
/-! S9: what a def promises, where no guard stands (repr asks that). -/
namespace L2
open PySem PySem.Spec PyProof.Rows

structure RoomG (k : Nat) (A : Around) : Prop where
  r : Room k A
  g : A.guards = some []
theorem RoomG.mono {j k : Nat} {A : Around} (r : RoomG k A) (h : j ≤ k) : RoomG j A := ⟨r.r.mono h, r.g⟩
theorem RoomG.deeper {k : Nat} {A : Around} (r : RoomG (k + 1) A) (env : Env) : RoomG k (A.deeper env) := ⟨r.r.deeper env, r.g⟩
structure FnG (P : Program) (w : World) (K : PySem.W.Frag) (mg : Str → Option Value) (base : Heap) (CX : CXT) (k : Nat) (f : Addr) (fd : FuncData) (ps : List Str) (sp : Sp) : Prop where
  len : ∀ vs H Q E, sp vs H Q E → vs.length = ps.length
  run : ∀ (A : Around) (outer : List Env) (s : Shared) (H : Hp) (args : Args) (us : List Value) (vs : List V) (Q : VK) (E : XK), RoomG k A → Env0 P w K mg base A outer s H → BindsTo s fd args (ps.zip us) → Vals vs us → sp vs H Q E →
    codeAny (model P w) A (.call (.ref f) args) (CR CX outer P w H s Q E) s
theorem FnG.mono {P : Program} {w : World} {K : PySem.W.Frag} {mg : Str → Option Value} {base : Heap} {CX : CXT} {j k : Nat} {f : Addr} {fd : FuncData} {ps : List Str} {sp : Sp} (F : FnG P w K mg base CX j f fd ps sp) (h : j ≤ k) :
    FnG P w K mg base CX k f fd ps sp := ⟨F.len, fun A outer s H args us vs Q E hr => F.run A outer s H args us vs Q E (hr.mono h)⟩
section
variable {X : Cx} {CX : CXT} {k : Nat} {f C : Addr} {fd : FuncData} {ps : List Str} {sp : Sp} {dvs : List V} {ds : List Value} {E : XK} {x m : Str} {p pos apos : Pos} {e o : Expr} {es : List Expr} {ta : TE} {t : TA}
theorem run_fnG {pins : List (Addr × Obj)} {σ : St} {H : Hp} {s : Shared} {Q : VK} {us : List Value} {vs : List V} (F : FnG X.prog X.w X.K X.mg X.base CX k f fd ps sp) (hr : RoomG k X.A) (hb : Binds X.K fd ps ds) (hd : Vals dvs ds) (hx : Passes CX X E)
    (I : Inv X pins σ H s) (r : Vals vs us) (h : sp (vs ++ dvs) H Q E) : wpAny (model X.prog X.w) X.A (call (.ref f) us) (EP X pins σ Q) X.xe s := by
  have r2 : Vals (vs ++ dvs) (us ++ ds) := r.append hd
  have hl : (us ++ ds).length = ps.length := by rw [← r2.length]; exact F.len _ _ _ _ h
  refine wpAny_call (codeAny_mono (F.run X.A X.stack s H ⟨us, []⟩ (us ++ ds) (vs ++ dvs) Q E hr I.env0 (hb s us I.kIn hl) r2 h) fun r s' hq => ?_)
  cases r with
  | error e => exact hx pins σ H s e s' I hq
  | ok fl =>
    cases fl with
    | ret u => exact I.after hq
    | next => exact False.elim hq
    | brk => exact False.elim hq
    | cont => exact False.elim hq

theorem pe_callG (F : FnG X.prog X.w X.K X.mg X.base CX k f fd ps sp) (hr : RoomG k X.A) (hg : Gl X x) (hm : X.mg x = some (.ref f)) (hk : PySem.W.keepIn X.K (.ref f) = true) (hb : Binds X.K fd ps ds) (hd : Vals dvs ds) (hx : Passes CX X E)
    (ha : PA X (e :: es) t) (hdb : (x == ("__debug__" : Str)) = false := by decide) (he : starEach (e :: es) X.env = (false, eval e X.env) :: starEach es X.env := by rfl) (hpl : (backTo pos (starEach es X.env)).any (·.1) = false := by rfl) :
    PE X (.Call (.Name x p) (e :: es) [] pos) (tCall sp dvs E t) := by
  refine ⟨fun pins s σ H Q I h => ?_⟩
  refine wpAny_Call_Name_kw (ld_glob I hg hm ?_ hdb)
  refine PySem.W.callWith_K (h₀ := X.base) I.ok.mod.kin hk (thn (ha.run pos pins s σ H _ I h) fun us s1 ⟨vs, H1, I1, r, q⟩ => ⟨I1.kIn, ?_⟩) he hpl
  exact run_fnG F hr hb hd hx I1 r q
theorem pe_callG0 (F : FnG X.prog X.w X.K X.mg X.base CX k f fd ps sp) (hr : RoomG k X.A) (hg : Gl X x) (hm : X.mg x = some (.ref f)) (hk : PySem.W.keepIn X.K (.ref f) = true) (hb : Binds X.K fd ps ds) (hd : Vals dvs ds) (hx : Passes CX X E)
    (hdb : (x == ("__debug__" : Str)) = false := by decide) : PE X (.Call (.Name x p) [] [] pos) (tCall sp dvs E tNil) := by
  refine ⟨fun pins s σ H Q I h => ?_⟩
  refine wpAny_Call_Name_kw (ld_glob I hg hm ?_ hdb)
  exact PySem.W.callWith_K0 I.kIn hk (run_fnG (us := []) F hr hb hd hx I .nil h)

end
theorem fnG_of {CX : CXT} {P : Program} {w : World} {K : PySem.W.Frag} {mg : Str → Option Value} {base : Heap} {k : Nat} {f : Addr} {name qual : Str} {params : Arguments} {body : List Stmt} {scope : Scope} {dV kV doc pm cdv ct oc : Value} {an od : Option Addr}
    {osl : Array (Option Value)} {N ps : List Str} {sp : Sp} (lk : K.lookup f = some ⟨oc, od, .func (PySem.W.fnOf name qual params body scope dV kV doc pm an cdv ct), osl⟩) (hcd : PySem.W.codeIn K cdv qual = true) (S : FnScope N ps scope)
    (len : ∀ vs H Q E, sp vs H Q E → vs.length = ps.length)
    (hbody : ∀ (A : Around) (outer : List Env) (s : Shared) (H : Hp) (vs : List V) (Q : VK) (E : XK), RoomG k (A.deeper (envOfC qual scope s.heap.objs.size f cdv)) → sp vs H Q E →
      ∃ t, PSs (cxOf CX P w K mg base N qual scope f cdv A outer s H E) body t ∧ t { nx := fun _ H' => Q .non H', rt := Q } (start N vs) H) :
    FnG P w K mg base CX (k + 1) f (PySem.W.fnOf name qual params body scope dV kV doc pm an cdv ct) ps sp := by
  refine ⟨len, fun A outer s H args us vs Q E hr e0 hb r hsp => ?_⟩
  have hl := len _ _ _ _ hsp
  have KX : K.In s.heap := e0.mod.kin.keeps fun b o e => (e0.bs b o e).1
  have lim : s.heap.NoLimit := e0.mod.nolimit.keeps fun b o e => (e0.bs b o e).1
  have hkind : ∀ y ∈ ps.zip us, scope.names.lookup y.1 = some .local ∨ (scope.names.lookup y.1 = some .cell ∧ ((cellsFrom (s.heap.objs.size + 1) scope.names []).lookup y.1).isSome = true) := fun ⟨n, v⟩ hy => by
    rcases S.par n (List.of_mem_zip hy).1 with q | q
    · exact .inl q
    · exact .inr ⟨q, PySem.W.cellsFrom_some _ _ _ (.inl q)⟩
  refine codeAny_call_function hr.r.depth (KX _ _ lk) rfl S.co S.gen rfl (PySem.W.codeRec_of KX hcd) (hb _ _ _ _ ?_)
  refine wpAny_newFunctionEnv_cells S.kind hkind fun env he s1 x => ?_
  subst he
  refine ⟨lim.keeps x.toInCall.keep, codeAny_func ?_⟩
  obtain ⟨t, ht, hq⟩ := hbody A outer s H vs Q E (hr.deeper _) hsp
  have I : Inv (cxOf CX P w K mg base N qual scope f cdv A outer s H E) [] (start N vs) H s1 := inv_start S hr.r.hd e0 hl r x
  refine wpAny_mono (ht.run [] s1 (start N vs) H _ I hq) (fun fl s' hs => ?_) fun e s' hs => hs
  have fin : ∀ {σ' : St} {H' : Hp} {v : V} {u : Value}, Inv (cxOf CX P w K mg base N qual scope f cdv A outer s H E) [] σ' H' s' → RelV v u → Q v H' → CE outer P w H s Q u s' :=
    fun {σ' H' v u} J rv q => ⟨v, H', J.os, J.bare, J.base, J.hok, rv, q⟩
  cases fl with
  | ret u =>
    obtain ⟨v, σ', H', J, rv, q⟩ := hs
    exact fin J rv q
  | next =>
    obtain ⟨σ', H', J, q⟩ := hs
    exact fin (v := V.non) (u := Value.none) J rfl q
  | brk =>
    obtain ⟨_, _, _, q⟩ := hs
    exact False.elim q
  | cont =>
    obtain ⟨_, _, _, q⟩ := hs
    exact False.elim q
theorem law_callG {P : Program} {w : World} {K : PySem.W.Frag} {mg mb : Str → Option Value} {CX : CXT} {k : Nat} {fa a : Addr} {fd : FuncData} {x : Str} {sp : Sp} {s₁ : Shared} {vs : List Value} {ns : List Int}
    (KX : K.In s₁.heap) (hns : s₁.heap.Ns mainGlobals mg) (hb : s₁.heap.Ns builtinsNs mb) (hbb : ∀ x : Str, x ≠ "__name__" → mb x = bootBuiltins x) (hlim : s₁.heap.NoLimit) (hg : s₁.gens = #[])
    (ha : s₁.heap.get? a = some { cls := .type "list", data := .seq vs.toArray }) (hi : IntsAre vs ns) (hl : ns.length ≤ sizeLine) (hr : RoomG k callerA)
    (F : ∀ base : Heap, K.In base → base.Ns mainGlobals mg → FnG P w K mg base CX k fa fd [x] sp) (hbind : ∀ (s : Shared) (u : Value), BindsTo s fd ⟨[u], []⟩ [(x, u)])
    (hsp : ∀ H : Hp, Only H → SqL K H a (ns.map V.int) → sp [.ref a] H (fun v _ => v = .bl true) fun _ _ _ => False)
    (hCX : ∀ H e s', CX [] H s₁ (fun _ _ _ => False) e s' → False) :
    codeAny (model P w) callerA (.call (.ref fa) ⟨[.ref a], []⟩) (fun r s' => r = .ok (.ret (.bool true)) ∧ OldK s₁.heap s'.heap ∧ s'.os = s₁.os ∧ AllBare s'.gens) s₁ := by
  have rv := vals_ints hi
  have lenV := hi.length
  -- from an abstract heap in which nothing but the script may be tracked
  have core : ∀ H : Hp, Only H → SqL K H a (ns.map V.int) → HOk P w H s₁.heap → (∀ b, H b ≠ none → b = a) → (H a ≠ none → K.lookup a = none) →
      codeAny (model P w) callerA (.call (.ref fa) ⟨[.ref a], []⟩) (fun r s' => r = .ok (.ret (.bool true)) ∧ OldK s₁.heap s'.heap ∧ s'.os = s₁.os ∧ AllBare s'.gens) s₁ := by
    intro H hO hS hok hA hK
    have base_of : ∀ {b : Addr} {o : Obj}, s₁.heap.get? b = some o → H b = none → (hidT s₁.heap H).get? b = some o := fun e n => hidT_get e n
    have noA : ∀ {b : Addr} {o : Obj} {es : Array DictEntry} {ep : Nat}, s₁.heap.get? b = some o → o.data = .dict es ep → H b = none := fun {b o es ep} e d => by
      cases q : H b with
      | none => rfl
      | some u =>
        have e' : b = a := hA b (by rw [q]; simp)
        subst e'
        rw [ha] at e; cases e
        have d' : Data.seq vs.toArray _ = Data.dict es ep := d
        cases d'
    have nsK : ∀ {b : Addr} {m : Str → Option Value}, s₁.heap.Ns b m → (hidT s₁.heap H).Ns b m := fun {b m} ⟨o, es, ep, e, d, r⟩ => ⟨o, es, ep, base_of e (noA e d), d, r⟩
    have hKb : K.In (hidT s₁.heap H) := fun b o e => base_of (KX b o e) (by
      cases q : H b with
      | none => rfl
      | some u =>
        have e' : b = a := hA b (by rw [q]; simp)
        subst e'
        rw [hK (by rw [q]; simp)] at e; cases e)
    have hM : Mod K mg (hidT s₁.heap H) := ⟨hKb, nsK hns, ⟨mb, nsK hb, hbb⟩, let ⟨mc, h1, h2⟩ := hlim; ⟨mc, nsK h1, h2⟩⟩
    have e0 : Env0 P w K mg (hidT s₁.heap H) callerA [] s₁ H := ⟨rfl, hM, fun b o e => of_hidT e, Nat.le_of_eq (hidT_size _ _), trivial, fun b hb => absurd (show b ∈ ([] : List Addr) from hb) (by simp), hok, .of_eq hg⟩
    refine codeAny_mono ((F _ hKb (nsK hns)).run callerA [] s₁ H ⟨[.ref a], []⟩ [.ref a] [.ref a] _ _ hr e0 (hbind s₁ (.ref a)) (.cons rfl .nil) (hsp H hO hS)) fun r s' h => ?_
    cases r with
    | error e => exact (hCX H e s' h).elim
    | ok fl =>
      cases fl with
      | next => exact False.elim h
      | brk => exact False.elim h
      | cont => exact False.elim h
      | ret u =>
        obtain ⟨v, H', os, bare, un, hok', r', q⟩ := h
        have q' : v = .bl true := q
        subst q'
        obtain rfl : u = Value.bool true := r'
        refine ⟨rfl, OldK.of_keep fun b o e => ?_, os, bare⟩
        cases q : H b with
        | none => exact un.keep b o e q (by intro z; exact absurd (show b ∈ ([] : List Addr) from z) (by simp)) (by simp)
        | some u =>
          rcases hO b with z | ⟨ob, xs, z⟩
          · rw [q] at z; cases z
          · have z2 := un.frzs b ob _ z
            obtain ⟨e1, _⟩ := hok b _ z
            obtain ⟨e2, _⟩ := hok' b _ z2
            rw [e] at e1; cases e1
            exact e2
  cases hk : K.lookup a with
  | some o =>
    -- the script is one of the module's own objects
    have e := KX a o hk
    rw [ha] at e
    cases e
    refine core (fun _ => none) (fun _ => .inl rfl) (.inr ⟨_, vs.toArray, _, hk, rfl, rfl, rfl, by rw [List.size_toArray, lenV]; exact hl, by simpa using rv⟩) (fun b u z => by have z' : (none : Option HO) = some u := z; cases z') (fun b z => absurd rfl z) fun z => absurd rfl z
  | none =>
    refine core (fun b => if b = a then some (.frz { cls := .type "list", data := .seq vs.toArray } (.lst (ns.map V.int))) else none) (fun b => ?_) (.inl (.inr ⟨{ cls := .type "list", data := .seq vs.toArray }, if_pos rfl⟩)) (fun b u z => ?_) (fun b z => ?_) fun _ => hk
    · by_cases hb : b = a
      · exact .inr ⟨_, _, if_pos hb⟩
      · exact .inl (if_neg hb)
    · by_cases hb : b = a
      · have z' := (if_pos hb).symm.trans z
        cases z'
        subst hb
        exact ⟨ha, by rw [List.length_map]; exact hl, vs, _, rv, ha⟩
      · have z' := (if_neg hb).symm.trans z
        cases z'
    · by_cases hb : b = a
      · exact hb
      · exact absurd (if_neg hb) z
end L2

end
section
set_option Elab.async false
set_option linter.all false
set_option maxRecDepth 100000
set_option maxHeartbeats 4000000
/-! S9e: == and != of instances by an own __eq__. -/
namespace EqO
open PySem PySem.Spec PyProof.Rows
section
variable {prog : Program} {w : World} {A : Around} {E : Value → Shared → Prop} {s : Shared} {K : PySem.W.Frag} {x C f : Addr} {ox : Obj} {od : Option Obj} {b tb : Value}
theorem entry_ne {Q : Fin → Shared → Prop} (hu : A.units < cLine) (X : K.In s.heap) (I : PySem.W.InstAt s.heap x ox C od) (hs : PySem.W.findIn K (.ref C) "__eq__" = some (some (.ref f))) (hf : PySem.W.isFn K (.ref f) = true)
    (hcall : wpAny (model prog w) A (call (.ref f) [.ref x, b]) (fun v s' => ∃ t, v = .bool t ∧ Q (.done (.ret (.bool (!t)))) s') E s) :
    wpAny (model prog w) A (Builtin.«object.__ne__» ⟨[.ref x, b], []⟩) Q E s := by
  unfold Builtin.«object.__ne__»
  repeat (first
    | with_reducible refine wpAny_cRoomFor hu ?_
    | (refine wpAny_bind (m := callSpecialIfBound? (.ref x) (Str.ofString "__eq__") [b])
        (PySem.W.ifBound_K X I hs hf (wpAny_mono hcall (fun r s' hr => by
          obtain ⟨t, rfl, hq⟩ := hr
          repeat (first | exact hq | exact wpAny_pure hq | exact wpAny_truthy_bool hq | (refine wpAny_bind (m := truthy (.bool _)) (wpAny_truthy_bool ?_)) | wp_step)) fun _ _ e => e)))
    | wp_step)
theorem ifBound_ne {M : Model} {args : List Value} {Q : Option Value → Shared → Prop} (X : K.In s.heap) (I : PySem.W.InstAt s.heap x ox C od) (hs : PySem.W.findIn K (.ref C) "__ne__" = some (some (.builtin "object.__ne__")))
    (h : wpAny M A (call (.builtin "object.__ne__") (.ref x :: args)) (fun v => Q (some v)) E s) : wpAny M A (callSpecialIfBound? (.ref x) "__ne__" args) Q E s := by
  simp only [callSpecialIfBound?, bindSpecialIfBound?]
  refine wpAny_holding (wpAny_bind (wpAny_bind (wpAny_bind (I.type.here ((PySem.W.looks_findIn X hs).here ?_)))))
  refine wpAny_bind (wpAny_askSetting (wpAny_ite ?_))
  have fin : wpAny M A (call (.builtin "object.__ne__") ([.ref x] ++ args) >>= fun v => pure (some v)) Q E s := wpAny_bind (wpAny_mono h (fun v s' h' => wpAny_pure h') fun _ _ h' => h')
  split
  · exact wpAny_bind (wpAny_of_eq (F.cmp_object.ne.bind _) (wpAny_pure (by exact fin)))
  · exact wpAny_tryCatch (wpAny_bind (wpAny_of_eq (F.cmp_object.ne.bind _) (wpAny_pure (by exact fin))))
/-- x op b, x of the class at C, b of that class too -/
theorem rc_of {op : CmpOp} {Q : Value → Shared → Prop} (hu : A.units < cLine) (X : K.In s.heap) (I : PySem.W.InstAt s.heap x ox C od) (hb : PySem.W.Looks (model prog w) s.heap (typeOf b) (.ref C))
    (one : wpAny (model prog w) A (tryCompare (.ref x) (cmpInfo op).2.1 b) (fun r s' => ∃ v, r = some v ∧ Q v s') E s) : wpAny (model prog w) A (richCompare op (.ref x) b) Q E s := by
  unfold richCompare
  simp only [oneThing_ref]
  refine wpAny_holding (wpAny_bind (wpAny_cRoomFor hu ?_))
  refine wpAny_bind (I.type.here (wpAny_bind (hb.here ?_)))
  split
  · rename_i q
    simp at q
  · refine wpAny_bind (wpAny_pure ?_)
    simp only [Bool.false_eq_true, if_false]
    refine wpAny_bind (wpAny_mono one (fun r s' z => ?_) fun _ _ e => e)
    obtain ⟨v, rfl, hq⟩ := z
    exact wpAny_pure hq
theorem rc_eq {Q : Value → Shared → Prop} (hu : A.units < cLine) (X : K.In s.heap) (I : PySem.W.InstAt s.heap x ox C od) (hb : PySem.W.Looks (model prog w) s.heap (typeOf b) (.ref C))
    (hs : PySem.W.findIn K (.ref C) "__eq__" = some (some (.ref f))) (hf : PySem.W.isFn K (.ref f) = true)
    (h : wpAny (model prog w) A (call (.ref f) [.ref x, b]) (fun v s' => ∃ t, v = .bool t ∧ Q (.bool t) s') E s) : wpAny (model prog w) A (richCompare .Eq (.ref x) b) Q E s := by
  refine rc_of hu X I hb ?_
  unfold tryCompare
  refine wpAny_bind (PySem.W.ifBound_K X I hs hf (wpAny_mono h (fun v s' hv => ?_) fun _ _ e => e))
  obtain ⟨t, rfl, hq⟩ := hv
  exact wpAny_pure ⟨_, rfl, hq⟩
theorem rc_ne {Q : Value → Shared → Prop} (hu : A.units + 1 < cLine) (X : K.In s.heap) (I : PySem.W.InstAt s.heap x ox C od) (hb : PySem.W.Looks (model prog w) s.heap (typeOf b) (.ref C)) (hm : PySem.W.mroIn K C (.type "object") = some true)
    (hn : PySem.W.findIn K (.ref C) "__ne__" = some (some (.builtin "object.__ne__"))) (hs : PySem.W.findIn K (.ref C) "__eq__" = some (some (.ref f))) (hf : PySem.W.isFn K (.ref f) = true)
    (h : wpAny (model prog w) A.in1 (call (.ref f) [.ref x, b]) (fun v s' => ∃ t, v = .bool t ∧ Q (.bool (!t)) s') E s) : wpAny (model prog w) A (richCompare .NotEq (.ref x) b) Q E s := by
  refine rc_of (Nat.lt_of_succ_lt hu) X I hb ?_
  unfold tryCompare
  refine wpAny_bind (ifBound_ne X I hn (wpAny_call (codeAny_call_builtin F.cmp_object.ne.plain F.cmpEntry_ne (PySem.W.check_slot F.cmpKind_ne F.cmpSplit_ne (I.type.andThen (PySem.W.looks_mroIn X hm)) (F.cmpArgs_ne _ _) (entry_ne (A := A.in1) hu X I hs hf
    (wpAny_mono h (fun v s' hv => ?_) fun _ _ e => e))))))
  obtain ⟨t, rfl, hq⟩ := hv
  first
    | exact ⟨t, rfl, wpAny_pure ⟨_, rfl, hq⟩⟩
    | exact ⟨t, rfl, _, rfl, wpAny_pure ⟨_, rfl, hq⟩⟩
end
end EqO
namespace L2
open PySem PySem.Spec PyProof.Rows
/-- a class with an own __eq__ and no own __ne__ -/
structure EqK (K : PySem.W.Frag) (C f : Addr) : Prop where
  eq : PySem.W.findIn K (.ref C) "__eq__" = some (some (.ref f))
  ne : PySem.W.findIn K (.ref C) "__ne__" = some (some (.builtin "object.__ne__"))
  fn : PySem.W.isFn K (.ref f) = true
  mo : PySem.W.mroIn K C (.type "object") = some true
theorem RoomG.in1 {k : Nat} {A : Around} (r : RoomG (k + 1) A) : RoomG k A.in1 := ⟨r.r.in1, r.g⟩
def rOwnEq (X : Cx) (ng : Bool) : R2 := fun x y H Q => ∃ (a b C dx dx2 f : Addr) (fs fs2 : List (Str × V)) (k : Nat) (fd : FuncData) (ps : List Str) (sp : Sp), x = .ref a ∧ y = .ref b ∧ H a = some (.ins C dx fs) ∧ H b = some (.ins C dx2 fs2) ∧ EqK X.K C f ∧
  FnG X.prog X.w X.K X.mg X.base (L2N.CX X.prog X.w) k f fd ps sp ∧ RoomG (k + 1) X.A ∧ Binds X.K fd ps [] ∧ sp [.ref a, .ref b] H (fun v H' => ∃ t, v = .bl t ∧ Q (.bl (if ng then !t else t)) H') (fun _ _ _ => False)
section
variable {X : Cx} {W : WX}
theorem run_eq {A : Around} {pins : List (Addr × Obj)} {σ : St} {H : Hp} {s : Shared} {Q : V → Hp → Prop} {k : Nat} {f : Addr} {fd : FuncData} {ps : List Str} {sp : Sp} {us : List Value} {vs : List V} {P : Value → Shared → Prop} (F : FnG X.prog X.w X.K X.mg X.base (L2N.CX X.prog X.w) k f fd ps sp) (hr : RoomG k A) (hb : Binds X.K fd ps []) (tk : L2N.Takes X W)
    (I : Inv X pins σ H s) (e0 : Env0 X.prog X.w X.K X.mg X.base A X.stack s H) (r : Vals vs us) (h : sp vs H Q (fun _ _ _ => False)) (hP : ∀ v s', EP X pins σ Q v s' → P v s') : wpAny (model X.prog X.w) A (call (.ref f) us) P X.xe s := by
  have hl : us.length = ps.length := by rw [← r.length]; exact F.len _ _ _ _ h
  have hb' := hb s us I.kIn (by rw [List.append_nil]; exact hl)
  rw [List.append_nil] at hb'
  refine wpAny_call (codeAny_mono (F.run A X.stack s H ⟨us, []⟩ us vs Q _ hr e0 hb' r h) fun r s' hq => ?_)
  cases r with
  | error e => exact tk e s' (L2N.XE.of_call I (fun _ _ _ h => h.elim) hq)
  | ok fl =>
    cases fl with
    | ret u => exact hP _ _ (I.after hq)
    | next => exact False.elim hq
    | brk => exact False.elim hq
    | cont => exact False.elim hq
theorem looks_cls {pins : List (Addr × Obj)} {σ : St} {H : Hp} {s : Shared} {b C dx : Addr} {fs : List (Str × V)} (I : Inv X pins σ H s) (e : H b = some (.ins C dx fs)) : PySem.W.Looks (model X.prog X.w) s.heap (typeOf (.ref b)) (.ref C) := by
  obtain ⟨mA, J, _⟩ := ins_get I.hok e
  obtain ⟨od, J2, _⟩ := J.look
  exact J2.type
theorem op_ownEq (hu : X.A.units + 64 < cLine) (tk : L2N.Takes X W) : OpR X (compareOp .Eq) (rOwnEq X false) := by
  intro pins s σ H x y v u Q I rx ry h
  obtain ⟨a, b, C, dx, dx2, f, fs, fs2, k, fd, ps, sp, rfl, rfl, ea, eb, K, F, hr, hb, hsp⟩ := h
  obtain rfl : v = Value.ref a := rx
  obtain rfl : u = Value.ref b := ry
  obtain ⟨mA, J, _⟩ := ins_get I.hok ea
  obtain ⟨od, J2, _⟩ := J.look
  unfold compareOp
  refine EqO.rc_eq (by omega) I.kIn J2 (looks_cls I eb) K.eq K.fn ?_
  refine run_eq F (hr.mono (Nat.le_succ _)) hb tk I I.env0 (vs := [.ref a, .ref b]) (.cons rfl (.cons rfl .nil)) hsp fun v s' ⟨z, H', I', rz, t, e, q⟩ => ?_
  subst e
  obtain rfl : v = Value.bool t := rz
  exact ⟨t, rfl, .bl t, H', I', rfl, q⟩
theorem op_ownNe (hu : X.A.units + 64 < cLine) (tk : L2N.Takes X W) : OpR X (compareOp .NotEq) (rOwnEq X true) := by
  intro pins s σ H x y v u Q I rx ry h
  obtain ⟨a, b, C, dx, dx2, f, fs, fs2, k, fd, ps, sp, rfl, rfl, ea, eb, K, F, hr, hb, hsp⟩ := h
  obtain rfl : v = Value.ref a := rx
  obtain rfl : u = Value.ref b := ry
  obtain ⟨mA, J, _⟩ := ins_get I.hok ea
  obtain ⟨od, J2, _⟩ := J.look
  unfold compareOp
  refine EqO.rc_ne (by omega) I.kIn J2 (looks_cls I eb) K.mo K.ne K.eq K.fn ?_
  refine run_eq F hr.in1 hb tk I I.env0.in1 (vs := [.ref a, .ref b]) (.cons rfl (.cons rfl .nil)) hsp fun v s' ⟨z, H', I', rz, t, e, q⟩ => ?_
  subst e
  obtain rfl : v = Value.bool t := rz
  exact ⟨t, rfl, .bl (!t), H', I', rfl, q⟩
end
end L2

end
section
set_option Elab.async false
set_option linter.all false
set_option maxRecDepth 100000
set_option maxHeartbeats 4000000
/-! S10: the checker: the Mini text against the program's text. -/
namespace Mp
open PySem PySem.Spec PyProof.Rows L2

structure NmT where
  fns : List (Option Str)
  cls : List Str
  flds : List Str
  mths : List Str
  con : List Str
  ar : List Nat
  mks : List Nat
  kwx : Bool := false
structure CC where
  N : List Str
  sc : Scope
  nm : NmT
  cold : Bool
  fl : Bool
def dbg : Str := "__debug__"
def cdc : Str := "__classdict__"
def nameS : Str := "__name__"
def visB (C : CC) (i : Nat) (x : Str) : Bool := decide (C.N[i]? = some x) && (match C.sc.names.lookup x with | some .local => true | some .cell => true | some .free => true | _ => false) && !(x == dbg) && !(x == cdc)
def glB (C : CC) (x : Str) : Bool := decide (C.sc.names.lookup x = some .globalImplicit) && !(x == dbg) && !(x == nameS)
/-- an expression that needs no care where it stands -/
def okE : Expr → Bool
  | .Starred .. => false | .Set .. => false | .Slice .. => false | .GeneratorExp .. => false | .Lambda .. => false | .NamedExpr .. => false | _ => true
/-- an expression before a dot that is no name of a module .. -/
def okA : Expr → Bool
  | .Name .. => true | .Subscript .. => true | .Attribute .. => true | _ => false
/-- an expression before a method's dot -/
def okM : Expr → Bool
  | .Name .. => true | .Subscript .. => true | .Attribute .. => true | .Call f as kws _ => (match f with | .Name .. => !as.isEmpty | .Attribute .. => true | _ => false) | .Constant .. => true | _ => false
def tyNm : Ty → Option Str
  | .int => some "int" | .bool => some "bool" | .str => some "str" | .list => some "list" | .tuple => some "tuple" | .dict => some "dict" | .verr => some "ValueError" | .lerr => some "LookupError" | .rerr => some "RuntimeError" | _ => none
def patSl : Pat → List Nat
  | .v i => [i]
  | .t ps => patSlL ps
where patSlL : List Pat → List Nat
  | [] => []
  | p :: ps => patSl p ++ patSlL ps
mutual
def mtP (C : CC) : Pat → Expr → Bool
  | .v i, e => match e with | .Name x _ => decide (C.N[i]? = some x) && (match C.sc.names.lookup x with | some .local => true | some .cell => C.fl | _ => false) | _ => false
  | .t ps, e => match e with | .Tuple es _ _ => mtPL C ps es | _ => false
def mtPL (C : CC) : List Pat → List Expr → Bool
  | [], es => match es with | [] => true | _ => false
  | p :: ps, es => match es with | e :: r => okE e && mtP C p e && mtPL C ps r | _ => false
end
/-- the block's context -/
def CC.blk (C : CC) (scope : Scope) : CC := { C with sc := relS scope C.sc, fl := false }
def mtTy (C : CC) (t : Ty) (e : Expr) : Bool := match e with
  | .Name x _ => glB C x && (match t with | .cls c => decide (C.nm.cls[c]? = some x) | t => decide (tyNm t = some x))
  | _ => false
def mtTys (C : CC) : List Ty → List Expr → Bool
  | [], es => match es with | [] => true | _ => false
  | t :: ts, es => match es with | e :: r => mtTy C t e && mtTys C ts r | _ => false
/-- methods of built-in types: name, number of arguments -/
def bmNm : BI → String | .get1 => "get" | .get2 => "get" | .index => "index" | .join => "join" | _ => ""
def bmN : BI → Nat | .get1 => 1 | .get2 => 2 | .index => 1 | .join => 1 | _ => 0
/-- walks whose items are pairs made at each turn -/
def pairI : MI → Bool | .enum .. => true | .zip .. => true | .items .. => true | _ => false
def isTupE : Expr → Bool | .Tuple .. => true | _ => false
def tgOk (it : MI) (tg : Expr) : Bool := !pairI it || isTupE tg
/-- list(..) of it -/
def lsOk : MI → Bool | .rg1 _ => true | .rg2 .. => true | _ => false
mutual
def mtE (C : CC) : ME → Expr → Bool
  | .non, e => match e with | .Constant .none _ _ => true | _ => false
  | .bl b, e => match e with | .Constant (.bool c) _ _ => b == c | _ => false
  | .int i, e => match e with | .Constant (.int j) _ _ => decide (i = j) | _ => false
  | .str s, e => match e with | .Constant (.str x) _ _ => decide (x = strV s) && decide (s.length ≤ szMax) && s.all (fun c => decide (c < 1114112)) | _ => false
  | .var i, e => match e with | .Name x _ => visB C i x | _ => false
  | .bin op a b, e => match e with | .BinOp x op' y _ => decide (op' = opK op) && mtE C a x && mtE C b y | _ => false
  | .neg a, e => match e with | .UnaryOp op x _ => decide (op = .USub) && mtE C a x | _ => false
  | .cmp op a b, e => match e with | .Compare x [op'] [y] _ => decide (op' = cpK op) && okE y && mtE C a x && mtE C b y | _ => false
  | .isN a, e => match e with | .Compare x [op] [.Constant .none _ _] _ => decide (op = .Is) && mtE C a x | _ => false
  | .notN a, e => match e with | .Compare x [op] [.Constant .none _ _] _ => decide (op = .IsNot) && mtE C a x | _ => false
  | .neR a b, e => match e with | .Compare (.Call (.Name x _) [y] [] _) [op] [.Call (.Name x2 _) [z] [] _] _ => decide (op = .NotEq) && decide (x = ("repr" : Str)) && decide (x2 = ("repr" : Str)) && glB C x && okE y && okE z && mtE C a y && mtE C b z | _ => false
  | .and es, e => match e with | .BoolOp op l _ => decide (op = .And) && !l.isEmpty && mtL C es l | _ => false
  | .or es, e => match e with | .BoolOp op l _ => decide (op = .Or) && !l.isEmpty && mtL C es l | _ => false
  | .not a, e => match e with | .UnaryOp op x _ => decide (op = .Not) && mtE C a x | _ => false
  | .ife c a b, e => match e with | .IfExp x y z _ => mtE C c x && mtE C a y && mtE C b z | _ => false
  | .tup es, e => match e with | .Tuple l _ _ => decide (es.length ≤ szMax) && mtL C es l | _ => false
  | .lst es, e => match e with | .List l _ => decide (es.length ≤ szMax) && mtL C es l | _ => false
  | .fld a k, e => match e with | .Attribute x y _ => decide (C.nm.flds[k]? = some y) && okA x && mtE C a x | _ => false
  | .sub a i, e => match e with | .Subscript x y _ => okE y && mtE C a x && mtE C i y | _ => false
  | .slU a hi, e => match e with | .Subscript x (.Slice none (some z) none _) _ => mtE C a x && mtE C hi z | _ => false
  | .slL a lo, e => match e with | .Subscript x (.Slice (some y) none none _) _ => mtE C a x && mtE C lo y | _ => false
  | .slB a lo hi, e => match e with | .Subscript x (.Slice (some y) (some z) none _) _ => mtE C a x && mtE C lo y && mtE C hi z | _ => false
  | .call f es, e => match e with | .Call (.Name x _) l [] _ => C.cold && decide (C.nm.fns[f]? = some (some x)) && glB C x && mtL C es l | _ => false
  | .calv i es, e => match e with | .Call (.Name x _) l [] _ => C.cold && visB C i x && !l.isEmpty && mtL C es l | _ => false
  | .fnv g, e => match e with | .Name x _ => decide (C.nm.fns[g]? = some (some x)) && glB C x | _ => false
  | .meth a k es, e => match e with | .Call (.Attribute x y p) l [] q => C.cold && decide (C.nm.flds[k]? = some y) && okM x && (p.endLine == q.line) && decide (l.length < 30) && mtE C a x && mtL C es l | _ => false
  | .make c es, e => match e with | .Call (.Name x _) l [] _ => C.cold && decide (C.nm.cls[c]? = some x) && C.nm.mks.contains c && glB C x && mtL C es l | _ => false
  | .chn o1 o2 a b c, e => match e with | .Compare x [p1, p2] [y, z] _ => decide (p1 = cpK o1) && decide (p2 = cpK o2) && okE y && okE z && mtE C a x && mtE C b y && mtE C c z | _ => false
  | .bi b es, e => match e with | .Call (.Name x _) l [] _ => decide (x = ((biNm b).1 : Str)) && decide (biN b ≠ 0) && decide (l.length = biN b) && glB C x && (!biCalm b || C.cold) && mtL C es l | _ => false
  | .rev a, e => match e with | .Subscript x (.Slice none none (some (.UnaryOp op (.Constant (.int 1) _ _) _)) _) _ => decide (op = .USub) && mtE C a x | _ => false
  | .eqo ng a b, e => match e with | .Compare x [op'] [y] _ => C.cold && decide (op' = cpK (if ng then .ne else .eq)) && okE y && mtE C a x && mtE C b y | _ => false
  | .bm b a es, e => match e with | .Call (.Attribute x y p) l [] q => decide (y = (bmNm b : Str)) && okM x && (p.endLine == q.line) && decide (l.length = bmN b) && decide (bmN b ≠ 0) && mtE C a x && mtL C es l | _ => false
  | .dct ks vs, e => match e with | .Dict [] [] _ => ks.isEmpty && vs.isEmpty | _ => false
  | .isi a ts, e => match e with
    | .Call (.Name x _) [y, z] [] _ => decide (x = ("isinstance" : Str)) && glB C x && okE y && mtE C a y && (match ts with
      | [t] => mtTy C t z
      | ts => match z with | .Tuple l _ _ => decide (2 ≤ ts.length) && decide (ts.length ≤ 64) && mtTys C ts l | _ => false)
    | _ => false
  | .lsI it, e => match e with | .Call (.Name x _) [y] [] _ => decide (x = ("list" : Str)) && glB C x && okE y && C.cold && lsOk it && mtI C it y | _ => false
  | .lc a p it, e => match e with | .ListComp x [⟨tg, iter, [], 0⟩] scope _ => C.cold && tgOk it tg && mtI C it iter && blkC C.N C.sc scope ((patSl p).map fun i => (C.N.getD i "", i)) && decide (patSl p).Nodup && mtP (C.blk scope) p tg && mtE (C.blk scope) a x && okE x | _ => false
  | .lcf a p it c, e => match e with | .ListComp x [⟨tg, iter, [y], 0⟩] scope _ => C.cold && tgOk it tg && mtI C it iter && blkC C.N C.sc scope ((patSl p).map fun i => (C.N.getD i "", i)) && decide (patSl p).Nodup && mtP (C.blk scope) p tg && mtE (C.blk scope) a x && okE x && mtE (C.blk scope) c y | _ => false
  | .xfl c ks es k, e => match e with | .Attribute (.Call (.Name x _) [] kws _) y _ => C.nm.kwx && C.cold && C.fl && decide (C.nm.cls[c]? = some x) && glB C x && decide (C.nm.flds[k]? = some y) && ks.contains k && decide (kws.map (·.arg) = ks.map fun k => C.nm.flds[k]?) && ks.all (fun k => (C.nm.flds[k]?).isSome) && mtL C es (kws.map (·.value)) | _ => false
  | .cell a, e => mtE C a e
  | .con c, e => match e with | .Name x _ => decide (C.nm.con[c]? = some x) && glB C x | _ => false
  | _, _ => false
def mtL (C : CC) : List ME → List Expr → Bool
  | [], es => match es with | [] => true | _ => false
  | m :: ms, es => match es with | e :: r => okE e && mtE C m e && mtL C ms r | _ => false
def mtI (C : CC) : MI → Expr → Bool
  | .ex a, e => okE e && mtE C a e
  | .rg1 a, e => match e with | .Call (.Name x _) [y] [] _ => decide (x = ("range" : Str)) && glB C x && okE y && mtE C a y | _ => false
  | .rg2 a b, e => match e with | .Call (.Name x _) [y, z] [] _ => decide (x = ("range" : Str)) && glB C x && okE y && okE z && mtE C a y && mtE C b z | _ => false
  | .items a, e => match e with | .Call (.Attribute x y p) [] [] q => decide (y = ("items" : Str)) && okM x && (p.endLine == q.line) && mtE C a x | _ => false
  | .vals a, e => match e with | .Call (.Attribute x y p) [] [] q => decide (y = ("values" : Str)) && okM x && (p.endLine == q.line) && mtE C a x | _ => false
  | .enum a, e => match e with | .Call (.Name x _) [y] [] _ => decide (x = ("enumerate" : Str)) && glB C x && okE y && mtE C a y | _ => false
  | _, _ => false
end
theorem okE_mark {e : Expr} {op : CmpOp} (h : okE e = true) : behindInMarks op e = false := by cases e <;> simp [okE] at h <;> rfl
theorem okE_star {e : Expr} (h : okE e = true) (es : List Expr) (env : PySem.Env) : starEach (e :: es) env = (false, eval e env) :: starEach es env := by cases e <;> simp [okE] at h <;> rfl
theorem okE_ix {e : Expr} (h : okE e = true) : PlainIx e := by cases e <;> simp [okE] at h <;> intro o i <;> rfl
end Mp

end
section
set_option Elab.async false
set_option linter.all false
set_option maxRecDepth 100000
set_option maxHeartbeats 4000000
/-! S11: the context; expressions one by one. -/
namespace Mp
open PySem PySem.Spec PyProof.Rows L2

def bltN : List Str := ["len", "abs", "int", "tuple", "min", "max", "sum", "any", "all", "isinstance", "list", "range", "repr", "bool", "str", "dict", "sorted", "set", "enumerate", "zip", "ValueError", "LookupError", "RuntimeError"]
/-- what a call hands back -/
def OutRep (L : Lk) (m : List Addr) (F : Addr → Prop) (H : Hp) (H0 : Hp) : Val → V → Prop
  | .dat d, x => Rep L m F H d x
  | .new d, x => ∃ a, x = .ref a ∧ ORep L m F H a d ∧ ¬ F a ∧ a ∉ m ∧ H0 a = none
  | _, _ => False
def PostC (L : Lk) (m : List Addr) (F : Addr → Prop) (H : Hp) (r : ER Val) (Q : V → Hp → Prop) (E : XK) : Prop :=
  match r with
  | .ok v st => ∀ m' F' x H', Ext m F H m' F' H' → Wd L m' F' st H' → OutRep L m' F' H' H v x → Q x H'
  | .ex xc st => ∀ m' F' H' cls d, Ext m F H m' F' H' → Wd L m' F' st H' → XRep L m' F' H' xc.c xc.fs cls d → E cls d H'
  | .bad => False
/-- the promise of a def -/
def spM (L : Lk) (call : List D → Sto → ER Val) : Sp := fun vs H Q E => ∃ m F st ds, Wd L m F st H ∧ RepL L m F H ds vs ∧ PostC L m F H (call ds st) Q E
/-- a def may be called -/
structure FC (X : Cx) (L : Lk) (o : Orc) (f : Nat) : Prop where
  kp : PySem.W.keepIn X.K (.ref (L.fad f)) = true
  fn : ∃ (k : Nat) (fd : FuncData) (ps : List Str), RoomG (k + 1) X.A ∧ FnG X.prog X.w X.K X.mg X.base (L2N.CX X.prog X.w) k (L.fad f) fd ps (fun vs H Q E => vs.length = ps.length ∧ spM L (o.call f) vs H Q E) ∧ Binds X.K fd ps [] ∧ ∀ ds st, o.call f ds st ≠ .bad → ds.length = ps.length
/-- an instance made by a call, its cell let go: what the caller gets -/
def PostM (L : Lk) (m : List Addr) (F : Addr → Prop) (H H0 : Hp) (x : Addr) (r : ER Val) (Q : V → Hp → Prop) (E : XK) : Prop :=
  match r with
  | .ok v st => ∀ m' F' H', Ext m F H0 m' F' H' → Wd L m' F' st H' → OutRep L m' F' H' H0 v (.ref x) → Q .non H'
  | .ex xc st => ∀ m' F' H' cls d, Ext m F H0 m' F' H' → Wd L m' F' st H' → XRep L m' F' H' xc.c xc.fs cls d → E cls d H'
  | .bad => False
/-- the promise of an __init__ -/
def spI (L : Lk) (c : Nat) (mk : List D → Sto → ER Val) : Sp := fun vs H Q E => ∃ m F H0 st ds x dx vs', vs = .ref x :: vs' ∧ Wd L m F st H0 ∧ RepL L m F H0 ds vs' ∧ H0 x = none ∧ H0 dx = none ∧ dx ≠ x ∧
  H = upd (upd H0 dx (.own x)) x (.ins (L.cad c) dx []) ∧ PostM L m F H H0 x (mk ds st) Q E
/-- a class may be called -/
structure MC (X : Cx) (L : Lk) (o : Orc) (c : Nat) : Prop where
  ex : ∃ g, L2.Mk X.K (L.cad c) g ∧ ∃ (k : Nat) (fd : FuncData) (ps : List Str), RoomG (k + 1) X.A ∧ FnG X.prog X.w X.K X.mg X.base (L2N.CX X.prog X.w) k g fd ps (fun vs H Q E => vs.length = ps.length ∧ spI L c (o.make c) vs H Q E) ∧ Binds X.K fd ps [] ∧ ∀ ds st, o.make c ds st ≠ .bad → ds.length + 1 = ps.length
/-- a class that isinstance is asked about, as a value -/
def tyVal (L : Lk) : Ty → Option Value
  | .int => some (.type "int") | .bool => some (.type "bool") | .str => some (.type "str") | .list => some (.type "list") | .tuple => some (.type "tuple") | .dict => some (.type "dict")
  | .verr => some (.type "ValueError") | .lerr => some (.type "LookupError") | .rerr => some (.type "RuntimeError") | .cls c => some (.ref (L.cad c))
/-- own exception classes: what is asked of each -/
structure XcOk (K : PySem.W.Frag) (L : Lk) (o : Orc) (n : Nat) (c : Nat) : Prop where
  ex : L2.ExcC K (L.cad c)
  xf : L2.XfC K (L.cad c)
  no : ∀ k ∈ o.flds c, PySem.W.findIn K (.ref (L.cad c)) (L.nm k) = some none
  ty : ∀ t v b, (∀ c', t = .cls c' → c' < n) → tyX (o.sup c) t = some b → tyVal L t = some v → PySem.W.kitOne K (.ref (L.cad c)) v = some b
/-- C(k = v, ..).f of an own exception class -/
def XfMk (X : Cx) (L : Lk) (o : Orc) (c : Nat) (x : Str) : Prop := ∀ (kws : List Keyword) (ks : List Nat) (k : Nat) (p p2 p3 : Pos) (tk : TA), Gl X x → (x == ("__debug__" : Str)) = false → PK X kws tk → kws.map (·.arg) = ks.map (fun k => some (L.nm k)) → ks ≠ [] → kwOk (o.flds c) ks = true →
  PE X (.Attribute (.Call (.Name x p) [] kws p2) (L.nm k) p3) (fun σ H Q => tk σ H fun vs H1 => vs.length = ks.length ∧ ∃ v, ((ks.map L.nm).zip vs).lookup (L.nm k) = some v ∧ Q v H1)
def XfM (P : Program) (w : World) (K : PySem.W.Frag) (mg : Str → Option Value) (base : Heap) (A : Around) (L : Lk) (o : Orc) (c : Nat) (x : Str) : Prop := ∀ X : Cx, X.prog = P → X.w = w → X.K = K → X.mg = mg → X.base = base → X.A = A → XfMk X L o c x
structure Fx (C : CC) (L : Lk) (o : Orc) (B : Bs) (X : Cx) (W : WX) : Prop where
  K : L.K = X.K
  hu : X.A.units + 66 < cLine
  gd : X.A.guards = some []
  N : X.N = C.N
  nd : C.N.Nodup
  sc : X.env.scope = C.sc
  cold : C.cold = true → X.calm = true
  fl : C.fl = true → ∀ x, X.fn x = true
  tk : L2N.Takes X W
  blt : ∀ x, x ∈ bltN → X.mg x = none
  fn : C.cold = true → ∀ f, o.fnk f = true → FC X L o f
  fng : ∀ f x, C.nm.fns[f]? = some (some x) → X.mg x = some (.ref (L.fad f)) ∧ o.fnk f = true
  oc : ∀ c k, k ∈ o.cf c → L2.Cls X.K (L.cad c) ∧ L2.NoAttr X.K (L.cad c) (L.nm k)
  mt : ∀ c m g, o.mth c m = some g → L2.Cls X.K (L.cad c) ∧ L2.Meth X.K (L.cad c) (L.nm m) (L.fad g) ∧ o.fnk g = true
  mkc : C.cold = true → ∀ c, C.nm.mks.contains c = true → MC X L o c
  cx : C.cold = true → B.x = none
  xs : ∀ q, B.x = some q → ∃ (X0 : Cx) (oe : Obj) (pn : List (Addr × Obj)), X = X0.suite q.a ((q.a, oe) :: pn) ∧ Zc q.cls q.d oe ∧ ∃ vs, oe.data = .fields vs
  cl : ∀ c x, C.nm.cls[c]? = some x → X.mg x = some (.ref (L.cad c))
  xk : ∀ c, (o.sup c).contains c = true → XcOk X.K L o C.nm.cls.length c
  xf : ∀ c k, k ∈ o.flds c → (o.sup c).contains c = true
  fi : ∀ j k, L.nm j = L.nm k → j = k
  nm : ∀ k y, C.nm.flds[k]? = some y → L.nm k = y
  eq : ∀ c g, o.eqm c = some g → L2.EqK X.K (L.cad c) (L.fad g) ∧ o.fnk g = true
  con : ∀ c x, C.nm.con[c]? = some x → ∃ u d v, X.mg x = some u ∧ o.con c = some d ∧ RelV v u ∧ ∀ m F H, Rep L m F H d v
  xfm : C.nm.kwx = true → C.cold = true → C.fl = true → ∀ c x, C.nm.cls[c]? = some x → XfM X.prog X.w X.K X.mg X.base X.A L o c x
theorem Fx.hu4 {C : CC} {L : Lk} {o : Orc} {B : Bs} {X : Cx} {W : WX} (f : Fx C L o B X W) : X.A.units + 64 < cLine := by have := f.hu; omega
theorem Fx.blk {C : CC} {L : Lk} {o : Orc} {B : Bs} {X : Cx} {W : WX} (f : Fx C L o B X W) (hc : C.cold = true) (s : Shared) (H : Hp) (scope : Scope) (cl : List (Str × Addr)) (a : Addr) (fp : List Addr) : Fx (C.blk scope) L o B (X.blk s H scope (compEnvC scope cl a X.env) fp) (fun _ _ _ _ => False) := by
  refine ⟨f.K, f.hu, f.gd, f.N, f.nd, ?_, f.cold, (fun z => absurd (show false = true from z) Bool.false_ne_true), ?_, f.blt, fun c i e => ?_, f.fng, f.oc, f.mt, fun c i e => ?_, f.cx, fun q e => ?_, f.cl, f.xk, f.xf, f.fi, f.nm, f.eq, f.con, fun _ _ z => absurd (show false = true from z) Bool.false_ne_true⟩
  · show relabel scope X.env = relS scope C.sc
    rw [← f.sc]
    rfl
  · rintro u s' ⟨_, _, _, _, _, _, _, _, _, _, _, _, _, _, _, _, w⟩
    exact w
  · obtain ⟨h2, h3⟩ := f.fn c i e
    exact ⟨h2, h3⟩
  · obtain ⟨g, h1, h2⟩ := f.mkc c i e
    exact ⟨g, h1, h2⟩
  · rw [f.cx hc] at e; cases e
section
variable {C : CC} {L : Lk} {B : Bs} {W : WX} {o : Orc} {X : Cx} {m m0 m1 m2 m' : List Addr} {F F0 F1 F2 F' : Addr → Prop} {H H0 H1 H2 H' : Hp} {E : Env} {st st' : Sto} {σ : L2.St} {Q : V → Hp → Prop} {me a b c : ME}
theorem Fx.gl (f : Fx C L o B X W) {x : Str} (h : glB C x = true) : Gl X x ∧ (x == ("__debug__" : Str)) = false ∧ x ≠ ("__name__" : Str) := by
  unfold glB at h
  simp only [Bool.and_eq_true, decide_eq_true_eq, Bool.not_eq_true'] at h
  obtain ⟨⟨h1, h2⟩, h3⟩ := h
  refine ⟨?_, h2, fun e => ?_⟩
  · show X.env.scope.names.lookup x = _
    rw [f.sc]
    exact h1
  · rw [e] at h3
    simp [nameS] at h3
theorem Fx.vis (f : Fx C L o B X W) {i : Nat} {x : Str} (h : visB C i x = true) : X.N[i]? = some x ∧ Vis X.env.scope x ∧ (x == ("__debug__" : Str)) = false ∧ (x == ("__classdict__" : Str)) = false := by
  unfold visB at h
  simp only [Bool.and_eq_true, decide_eq_true_eq, Bool.not_eq_true'] at h
  obtain ⟨⟨⟨h1, h2⟩, h3⟩, h4⟩ := h
  refine ⟨by rw [f.N]; exact h1, ?_, h3, h4⟩
  rw [f.sc]
  unfold Vis
  split at h2
  · exact .inl ‹_›
  · exact .inr (.inl ‹_›)
  · exact .inr (.inr ‹_›)
  · cases h2

theorem VRep.lk {v : Val} {x : V} (S : Sim L B m F E st σ H) (h : VRep L m F H E σ H0 v x) (n : v.d ≠ .bad) : Look L m F H v.d x := (h.look S).resolve_right n
theorem Wd.deref (w : Wd L m F st H) {d e : D} {x : V} (h : Look L m F H d x) (q : drf st d = some e) : Look L m F H e x := by
  cases d <;> simp only [drf] at q <;> first | (cases q; exact h) | cases q | skip
  · simp only [Look, Rep] at h
    obtain ⟨a, rfl, hm⟩ := h
    obtain ⟨a', e1, r⟩ := w.ce _ _ q
    rw [hm] at e1; cases e1
    exact r.look
theorem VRep.drf {v : Val} {x : V} {d : D} (S : Sim L B m F E st σ H) (h : VRep L m F H E σ H0 v x) (q : drf st v.d = some d) : Look L m F H d x := by
  rcases h.look S with r | r
  · exact S.wd.deref r q
  · rw [r] at q; cases q
theorem drf_bad : drf st .bad = none := rfl
/-- two operands -/
theorem tE2 {f : Val → Val → Sto → ER Val} {R : R2} (e : ∀ E st, evE o me E st = (evE o a E st).bind fun x st1 => (evE o b E st1).bind fun y st2 => f x y st2)
    (hR : ∀ {m0 F0 H0 m F H E st σ Q v w x y Hx Hy}, Ext m0 F0 H0 m F H → Sim L B m F E st σ H → VRep L m F H E σ Hx v x → VRep L m F H E σ Hy w y → Post L B W m0 F0 H0 E σ (f v w st) Q → R x y H Q)
    (h : tE L B W o me σ H Q) : tOp R (tE L B W o a) (tE L B W o b) σ H Q := by
  obtain ⟨m, F, E, st, S, h⟩ := h
  rw [e] at h
  refine tE.mono (fun x H1 ⟨m1, F1, st1, v, X1, X01, S1, r1, h1⟩ => ?_) (tE_bind Ext.refl S h)
  refine tE.mono (fun y H2 ⟨m2, F2, st2, w, X2, X02, S2, r2, h2⟩ => ?_) (tE_bind X01 S1 h1)
  exact hR X02 S2 (r1.ext X2) r2 h2
theorem tE1 {f : Val → Sto → ER Val} {R : V → Hp → VK → Prop} (e : ∀ E st, evE o me E st = (evE o a E st).bind fun x st1 => f x st1)
    (hR : ∀ {m0 F0 H0 m F H E st σ Q v x Hx}, Ext m0 F0 H0 m F H → Sim L B m F E st σ H → VRep L m F H E σ Hx v x → Post L B W m0 F0 H0 E σ (f v st) Q → R x H Q)
    (h : tE L B W o me σ H Q) : tUn R (tE L B W o a) σ H Q := by
  obtain ⟨m, F, E, st, S, h⟩ := h
  rw [e] at h
  refine tE.mono (fun x H1 ⟨m1, F1, st1, v, X1, X01, S1, r1, h1⟩ => ?_) (tE_bind Ext.refl S h)
  exact hR X01 S1 r1 h1
theorem binF_lb {op : Op} {x y : D} {z : Val} (h : binF op x y = some z) : x ≠ .bad ∧ y ≠ .bad := by
  constructor
  · rintro rfl; cases op <;> simp [binF] at h
  · rintro rfl; cases op <;> cases x <;> simp [binF] at h
theorem cmpF_lb {op : Cp} {x y : D} {z : Bool} (h : cmpF op x y = some z) : x ≠ .bad ∧ y ≠ .bad := by
  constructor
  · rintro rfl; cases op <;> cases y <;> simp [cmpF, ordF, numD, eqT, pd, memD, isKey] at h
  · rintro rfl; cases op <;> cases x <;> simp [cmpF, ordF, numD, eqT, pd] at h
theorem pe_binM (f : Fx C L o B X W) {op : Op} {x y : Expr} {p : Pos} (ha : PE X x (tE L B W o a)) (hb : PE X y (tE L B W o b)) : PE X (.BinOp x (opK op) y p) (tE L B W o (.bin op a b)) := by
  refine (pe_op (op_binM op) ha hb).imp fun σ H Q h => tE2 (f := fun x y st2 => ER.opt (binF op x.d y.d) st2) (fun E st => by rw [evE]) ?_ h
  intro m0 F0 H0 m F H E st σ Q v w x y Hx Hy X0 S r1 r2 h
  obtain ⟨z, ez, R⟩ := Post.resO X0 S h
  obtain ⟨n1, n2⟩ := binF_lb ez
  exact ⟨L, m, F, v.d, w.d, z, f.K, r1.lk S n1, r2.lk S n2, ez, R⟩
theorem Post.bl {t : Bool} (X0 : Ext m0 F0 H0 m F H) (S : Sim L B m F E st σ H) (h : Post L B W m0 F0 H0 E σ (.ok (.dat (.bl t)) st) Q) : Q (.bl t) H := Post.dat X0 S h (by simp [Rep])
theorem Post.blO {t : Option Bool} (X0 : Ext m0 F0 H0 m F H) (S : Sim L B m F E st σ H) (h : Post L B W m0 F0 H0 E σ (ER.opt (t.map fun t => .dat (.bl t)) st) Q) : ∃ b, t = some b ∧ Q (.bl b) H := by
  cases t with
  | none => exact h.elim
  | some b => exact ⟨b, rfl, Post.bl X0 S h⟩
theorem eqC_b {x y : D} : eqC o x y st = ER.opt ((eqT x y).map fun t => .dat (.bl t)) st := rfl
theorem cmp_R (f : Fx C L o B X W) (op : Cp) {m0 F0 H0 m F H E st σ Q v w x y Hx Hy} (X0 : Ext m0 F0 H0 m F H) (S : Sim L B m F E st σ H) (r1 : VRep L m F H E σ Hx v x) (r2 : VRep L m F H E σ Hy w y)
    (h : Post L B W m0 F0 H0 E σ (match op with
      | .eq => eqC o v.d w.d st
      | .ne => (eqC o v.d w.d st).bind fun t st3 => notV t st3
      | _ => ER.opt ((drf st w.d).bind fun z => (cmpF op v.d z).map fun t => .dat (.bl t)) st) Q) : rCmp X.K op x y H Q := by
  have gen : ∀ (d : D), Look L m F H d y → (∃ t, cmpF op v.d d = some t ∧ Q (.bl t) H) → rCmp X.K op x y H Q := fun d hl ⟨t, ht, q⟩ => by
    obtain ⟨n1, n2⟩ := cmpF_lb ht
    exact ⟨L, m, F, v.d, d, t, f.K, r1.lk S n1, hl, ht, q⟩
  have rest : Post L B W m0 F0 H0 E σ (ER.opt ((drf st w.d).bind fun z => (cmpF op v.d z).map fun t => .dat (.bl t)) st) Q → rCmp X.K op x y H Q := fun h => by
    cases e : Mp.drf st w.d with
    | none => rw [e] at h; exact h.elim
    | some d =>
      rw [e] at h
      exact gen d (r2.drf S e) (Post.blO X0 S h)
  cases op with
  | eq =>
    obtain ⟨t, ht, q⟩ := Post.blO (t := eqT v.d w.d) X0 S h
    have ht' : cmpF .eq v.d w.d = some t := ht
    exact gen _ (r2.lk S (cmpF_lb ht').2) ⟨t, ht', q⟩
  | ne =>
    have h : Post L B W m0 F0 H0 E σ ((ER.opt ((eqT v.d w.d).map fun t => .dat (.bl t)) st).bind fun t st3 => notV t st3) Q := h
    cases e : eqT v.d w.d with
    | none => rw [e] at h; exact h.elim
    | some t =>
      rw [e] at h
      have ht' : cmpF .ne v.d w.d = some (!t) := by simp [cmpF, e]
      exact gen _ (r2.lk S (cmpF_lb ht').2) ⟨!t, ht', Post.bl X0 S h⟩
  | _ => exact rest h
theorem evE_cmp {op : Cp} {E : Env} {st : Sto} : evE o (.cmp op a b) E st = (evE o a E st).bind fun x st1 => (evE o b E st1).bind fun y st2 => match op with
      | .eq => eqC o x.d y.d st2
      | .ne => (eqC o x.d y.d st2).bind fun t st3 => notV t st3
      | _ => ER.opt ((drf st2 y.d).bind fun z => (cmpF op x.d z).map fun t => .dat (.bl t)) st2 := by rw [evE]; all_goals (cases op <;> rfl)
theorem pe_cmpM (f : Fx C L o B X W) {op : Cp} {x y : Expr} {p : Pos} (ha : PE X x (tE L B W o a)) (hb : PE X y (tE L B W o b)) (hy : okE y = true) : PE X (.Compare x [cpK op] [y] p) (tE L B W o (.cmp op a b)) :=
  (pe_cmpR (op_cmpM f.hu4 op) ha hb (okE_mark hy)).imp fun σ H Q h => tE2 (fun E st => evE_cmp) (fun X0 S r1 r2 h => cmp_R f op X0 S r1 r2 h) h
theorem pt_cmpM (f : Fx C L o B X W) {op : Cp} {x y : Expr} {p : Pos} (ha : PE X x (tE L B W o a)) (hb : PE X y (tE L B W o b)) (hy : okE y = true) : PT X (.Compare x [cpK op] [y] p) (tTest (tE L B W o (.cmp op a b))) :=
  (pt_cmpR (op_cmpM f.hu4 op) ha hb (okE_mark hy)).imp fun σ H Q h => tE2 (fun E st => evE_cmp) (fun X0 S r1 r2 h => cmp_R f op X0 S r1 r2 h) h
theorem isNon_lk {d : D} {x : V} {t : Bool} (h : d.isNon = some t) (r : Look L m F H d x) : decide (x = .non) = t := by
  cases d <;> simp [D.isNon] at h <;> subst h <;> simp [Look, Rep] at r
  · simp [r]
  · simp [r]
  · simp [r]
  · simp [r.1]
  · obtain ⟨a, rfl, _⟩ := r; simp
  · obtain ⟨a, rfl, _⟩ := r; simp
  · obtain ⟨a, rfl, _⟩ := r; simp
  · obtain ⟨a, rfl, _⟩ := r; simp
  · obtain ⟨a, rfl, _⟩ := r; simp
  · obtain ⟨a, rfl, _⟩ := r; simp
  · simp [r]
  · obtain ⟨a, rfl, _⟩ := r; simp
theorem isN_lb {d : D} {t : Bool} (h : d.isNon = some t) : d ≠ .bad := by rintro rfl; cases h
theorem isN_R {m0 F0 H0 m F H E st σ Q v x Hx} (X0 : Ext m0 F0 H0 m F H) (S : Sim L B m F E st σ H) (r1 : VRep L m F H E σ Hx v x) (h : Post L B W m0 F0 H0 E σ (ER.opt (v.d.isNon.map fun t => .dat (.bl t)) st) Q) : Q (.bl (decide (x = .non))) H := by
  obtain ⟨t, ht, q⟩ := Post.blO X0 S h
  rw [isNon_lk ht (r1.lk S (isN_lb ht))]
  exact q
theorem notN_R {m0 F0 H0 m F H E st σ Q v x Hx} (X0 : Ext m0 F0 H0 m F H) (S : Sim L B m F E st σ H) (r1 : VRep L m F H E σ Hx v x) (h : Post L B W m0 F0 H0 E σ (ER.opt (v.d.isNon.map fun t => .dat (.bl (!t))) st) Q) : Q (.bl (!decide (x = .non))) H := by
  cases e : v.d.isNon with
  | none => rw [e] at h; exact h.elim
  | some t =>
    rw [e] at h
    rw [isNon_lk e (r1.lk S (isN_lb e))]
    exact Post.bl X0 S h
theorem evE_isN {E : Env} {st : Sto} : evE o (.isN a) E st = (evE o a E st).bind fun x st1 => ER.opt (x.d.isNon.map fun t => .dat (.bl t)) st1 := by rw [evE]
theorem evE_notN {E : Env} {st : Sto} : evE o (.notN a) E st = (evE o a E st).bind fun x st1 => ER.opt (x.d.isNon.map fun t => .dat (.bl (!t))) st1 := by rw [evE]
theorem pe_isNM {x : Expr} {p j q} (ha : PE X x (tE L B W o a)) : PE X (.Compare x [.Is] [.Constant .none j q] p) (tE L B W o (.isN a)) :=
  (pe_cmp (pc_isN ha) rfl).imp fun σ H Q h => tE1 (R := fun x H Q => Q (.bl (decide (x = .non))) H) (fun E st => evE_isN) (fun X0 S r1 h => isN_R X0 S r1 h) h
theorem pe_notNM {x : Expr} {p j q} (ha : PE X x (tE L B W o a)) : PE X (.Compare x [.IsNot] [.Constant .none j q] p) (tE L B W o (.notN a)) :=
  (pe_cmp (pc_notN ha) rfl).imp fun σ H Q h => tE1 (R := fun x H Q => Q (.bl (!decide (x = .non))) H) (fun E st => evE_notN) (fun X0 S r1 h => notN_R X0 S r1 h) h
theorem pt_isNM {x : Expr} {p j q} (ha : PE X x (tE L B W o a)) : PT X (.Compare x [.Is] [.Constant .none j q] p) (tTest (tE L B W o (.isN a))) :=
  (pt_cmp (pc_isN ha) rfl).imp fun σ H Q h => tE1 (R := fun x H Q => Q (.bl (decide (x = .non))) H) (fun E st => evE_isN) (fun X0 S r1 h => isN_R X0 S r1 h) h
theorem pt_notNM {x : Expr} {p j q} (ha : PE X x (tE L B W o a)) : PT X (.Compare x [.IsNot] [.Constant .none j q] p) (tTest (tE L B W o (.notN a))) :=
  (pt_cmp (pc_notN ha) rfl).imp fun σ H Q h => tE1 (R := fun x H Q => Q (.bl (!decide (x = .non))) H) (fun E st => evE_notN) (fun X0 S r1 h => notN_R X0 S r1 h) h
/-! leaves -/
theorem pe_intM {i : Int} {j p} : PE X (.Constant (.int i) j p) (tE L B W o (.int i)) := pe_int.imp fun σ H Q ⟨m, F, E, st, S, h⟩ => by
  rw [evE] at h; exact Post.dat Ext.refl S h (by simp [Rep])
theorem pe_blM {i : Bool} {j p} : PE X (.Constant (.bool i) j p) (tE L B W o (.bl i)) := pe_bl.imp fun σ H Q ⟨m, F, E, st, S, h⟩ => by
  rw [evE] at h; exact Post.dat Ext.refl S h (by simp [Rep])
theorem pe_nonM {j p} : PE X (.Constant .none j p) (tE L B W o .non) := pe_non.imp fun σ H Q ⟨m, F, E, st, S, h⟩ => by
  rw [evE] at h; exact Post.dat Ext.refl S h (by simp [Rep])
theorem pe_strM {s : List Nat} {j p} (h1 : s.length ≤ szMax) (h2 : ∀ c ∈ s, c < 1114112) : PE X (.Constant (.str (strV s)) j p) (tE L B W o (.str s)) := pe_str.imp fun σ H Q ⟨m, F, E, st, S, h⟩ => by
  rw [evE] at h; exact Post.dat Ext.refl S h (by simp only [Rep]; exact ⟨trivial, h1, h2⟩)
theorem pe_varM (f : Fx C L o B X W) {i : Nat} {x : Str} {p} (h : visB C i x = true) : PE X (.Name x p) (tE L B W o (.var i)) := by
  obtain ⟨h1, h2, h3, h4⟩ := f.vis h
  refine (pe_var h1 h2 h3 h4).imp fun σ H Q ⟨m, F, E, st, S, h⟩ => ?_
  rw [evE] at h
  split at h
  · rename_i d e
    obtain ⟨x, e1, r⟩ := S.sl i _ e
    exact ⟨x, e1, h m F x H Ext.refl S r⟩
  · rename_i d e
    obtain ⟨x, e1, r⟩ := S.sl i _ e
    exact ⟨x, e1, h m F x H Ext.refl S ⟨i, e, e1⟩⟩
  · rename_i c fs e
    obtain ⟨x, e1, r⟩ := S.sl i _ e
    exact ⟨x, e1, h m F x H Ext.refl S ⟨i, e, e1⟩⟩
  · exact h.elim
theorem pe_negM {x : Expr} {p} (ha : PE X x (tE L B W o a)) : PE X (.UnaryOp .USub x p) (tE L B W o (.neg a)) :=
  (pe_un un_neg ha).imp fun σ H Q h => tE1 (f := fun x st1 => match x.d with | .int i => .ok (.dat (.int (-i))) st1 | _ => .bad) (fun E st => by rw [evE]; try rfl) (fun {m0 F0 H0 m F H E st σ Q v x Hx} X0 S r1 h => by
    cases e : v.d with
    | int i =>
      rw [e] at h
      have r := r1.lk S (by rw [e]; exact fun z => nomatch z)
      rw [e] at r
      exact ⟨i, r.int, Post.dat X0 S h (by simp [Rep])⟩
    | _ => rw [e] at h; exact h.elim) h
/-! by a truth -/
theorem Post.ifV {v : Val} {r1 r2 : ER Val} (h : Post L B W m0 F0 H0 E σ (Mp.ifV v r1 r2 .bad) Q) : ∃ t, v = .dat (.bl t) ∧ Post L B W m0 F0 H0 E σ (if t then r1 else r2) Q := by
  unfold Mp.ifV at h
  split at h
  · exact ⟨_, rfl, h⟩
  · exact h.elim
theorem VRep.bl {t : Bool} {x : V} (h : VRep L m F H E σ H0 (.dat (.bl t)) x) : x = .bl t := h
theorem pe_notM {x : Expr} {p} (ha : PE X x (tE L B W o a)) : PE X (.UnaryOp .Not x p) (tE L B W o (.not a)) :=
  (pe_not ha).imp fun σ H Q h => tE1 (f := fun x st1 => notV x st1) (R := fun x H Q => ∃ c, x = .bl c ∧ Q (.bl (!c)) H) (fun E st => by rw [evE]) (fun {m0 F0 H0 m F H E st σ Q v x Hx} X0 S r1 h => by
    unfold notV at h
    split at h
    · exact ⟨_, r1.bl, Post.bl X0 S h⟩
    · exact h.elim) h
theorem pt_notM {x : Expr} {p} (ha : PT X x (tTest (tE L B W o a))) : PT X (.UnaryOp .Not x p) (tTest (tE L B W o (.not a))) :=
  (pt_not ha).imp fun σ H Q h => by
    have z := tE1 (a := a) (f := fun x st1 => notV x st1) (R := fun x H Q => ∃ k, x = .bl k ∧ Q (.bl (!k)) H) (fun E st => by rw [evE]) (fun {m0 F0 H0 m F H E st σ Q v x Hx} X0 S r1 h => by
      unfold notV at h
      split at h
      · exact ⟨_, r1.bl, Post.bl X0 S h⟩
      · exact h.elim) h
    refine tE.mono (fun x H1 ⟨k, e, k', e', q⟩ => ⟨k, e, ?_⟩) z
    cases e'
    exact q
end
end Mp

end
section
set_option Elab.async false
set_option linter.all false
set_option maxRecDepth 100000
set_option maxHeartbeats 4000000
/-! S12: expressions: displays, items, calls. -/
namespace Mp
open PySem PySem.Spec PyProof.Rows L2
section
variable {C : CC} {L : Lk} {B : Bs} {W : WX} {o : Orc} {X : Cx} {m m0 m1 m2 m' : List Addr} {F F0 F1 F2 F' : Addr → Prop} {H H0 H1 H2 H' : Hp} {E : Env} {st st' : Sto} {σ : L2.St} {Q : V → Hp → Prop} {me a b c : ME} {es : List ME}
theorem VsL.len : ∀ {vs : List Val} {xs : List V}, VsL L m F H E σ H0 vs xs → vs.length = xs.length
  | [], [], _ => rfl
  | _ :: _, _ :: _, h => by simp [VsL.len h.2]
  | [], _ :: _, h => h.elim
  | _ :: _, [], h => h.elim
theorem evL_len : ∀ {es : List ME} {E : Env} {st st1 : Sto} {vs : List Val}, evL o es E st = .ok vs st1 → vs.length = es.length
  | [], E, st, st1, vs, h => by rw [evL] at h; cases h; rfl
  | e :: es, E, st, st1, vs, h => by
    rw [evL] at h
    cases e1 : evE o e E st with
    | ok v st2 =>
      rw [e1] at h
      have h : ((evL o es E st2).bind fun vs st2 => .ok (v :: vs) st2) = .ok vs st1 := h
      cases e2 : evL o es E st2 with
      | ok ws st3 =>
        rw [e2] at h
        cases h
        rw [List.length_cons, evL_len e2, List.length_cons]
      | ex x st3 => rw [e2] at h; cases h
      | bad => rw [e2] at h; cases h
    | ex x st2 => rw [e1] at h; cases h
    | bad => rw [e1] at h; cases h
theorem kpL_len : ∀ {vs : List Val} {ds : List D}, kpL vs = some ds → vs.length = ds.length
  | [], ds, h => by cases h; rfl
  | v :: vs, ds, h => by
    unfold kpL at h
    cases e1 : v.kp with
    | none => rw [e1] at h; cases h
    | some d =>
      cases e2 : kpL vs with
      | none => rw [e1, e2] at h; cases h
      | some es => rw [e1, e2] at h; cases h; simp [kpL_len e2]
/-- a row of values that are kept -/
theorem Post.kpl {xs : List V} {vs : List Val} {f : List D → Sto → ER Val} (X01 : Ext m F H m1 F1 H1) (S : Sim L B m F E st σ H) (S1 : Sim L B m1 F1 E st' σ H1) (r : VsRep L m1 F1 H1 E σ H vs xs)
    (h : Post L B W m F H E σ (match kpL vs with | some ds => f ds st' | none => .bad) Q) :
    ∃ ds F', kpL vs = some ds ∧ Ext m F H m1 F' H1 ∧ Sim L B m1 F' E st' σ H1 ∧ RepL L m1 F' H1 ds xs ∧ Post L B W m F H E σ (f ds st') Q := by
  cases e : kpL vs with
  | none => rw [e] at h; exact h.elim
  | some ds =>
    rw [e] at h
    obtain ⟨F', X', S', r', _⟩ := VsRep.kept X01 S.beg S1 r.al r.nd e
    exact ⟨ds, F', rfl, X', S', r', h⟩
theorem pe_tupM {l : List Expr} {k p} (hl : es.length ≤ szMax) (ha : PA X l (tL L B W o es)) : PE X (.Tuple l k p) (tE L B W o (.tup es)) := by
  refine (pe_tup ha).imp fun σ H Q ⟨m, F, E, st, S, h⟩ => ?_
  rw [evE] at h
  refine tL.mono (fun xs H1 ⟨m1, F1, st1, vs, X1, X01, S1, r1, e1, h1⟩ => ?_) (tL_bind Ext.refl S h)
  have h1 : Post L B W m F H E σ (match kpL vs with | some ds => .ok (.dat (.tup ds)) st1 | none => .bad) Q := by cases e : kpL vs <;> (rw [e] at h1; exact h1)
  obtain ⟨ds, F', ek, X', S', r', h2⟩ := Post.kpl (f := fun ds st => .ok (.dat (.tup ds)) st) X01 S S1 r1 h1
  have hz : ds.length ≤ szMax := by rw [← kpL_len ek, evL_len e1]; exact hl
  exact ⟨by rw [← r'.len]; exact Nat.le_trans hz szLine, fun p hp => (Post.res X' S' h2).n p _ hp ⟨xs, rfl, r', hz⟩⟩
theorem pe_lstM {l : List Expr} {p} (hl : es.length ≤ szMax) (ha : PA X l (tL L B W o es)) : PE X (.List l p) (tE L B W o (.lst es)) := by
  refine (pe_lst ha).imp fun σ H Q ⟨m, F, E, st, S, h⟩ => ?_
  rw [evE] at h
  refine tL.mono (fun xs H1 ⟨m1, F1, st1, vs, X1, X01, S1, r1, e1, h1⟩ => ?_) (tL_bind Ext.refl S h)
  have h1 : Post L B W m F H E σ (match kpL vs with | some ds => .ok (.new (.lst ds)) st1 | none => .bad) Q := by cases e : kpL vs <;> (rw [e] at h1; exact h1)
  obtain ⟨ds, F', ek, X', S', r', h2⟩ := Post.kpl (f := fun ds st => .ok (.new (.lst ds)) st) X01 S S1 r1 h1
  have hz : ds.length ≤ szMax := by rw [← kpL_len ek, evL_len e1]; exact hl
  exact ⟨by rw [← r'.len]; exact Nat.le_trans hz szLine, fun p hp => (Post.res X' S' h2).n p _ hp ⟨xs, rfl, r', hz⟩⟩
theorem getF_lb {x y d : D} (h : getF x y = some d) : y ≠ .bad := by
  rintro rfl; cases x <;> simp [getF, isKey] at h
theorem pe_subM (f : Fx C L o B X W) {x y : Expr} {p} (ha : PE X x (tE L B W o a)) (hb : PE X y (tE L B W o b)) (hy : okE y = true) : PE X (.Subscript x y p) (tE L B W o (.sub a b)) := by
  refine (pe_ix (ix_any f.hu4) ha hb (okE_ix hy)).imp fun σ H Q h => tE2 (f := fun x y st2 => ER.opt (((drf st2 x.d).bind fun d => getF d y.d).map .dat) st2) (fun E st => by rw [evE]) ?_ h
  intro m0 F0 H0 m F H E st σ Q v w x y Hx Hy X0 S r1 r2 h
  cases e : drf st v.d with
  | none => rw [e] at h; exact h.elim
  | some d =>
    rw [e] at h
    cases e2 : getF d w.d with
    | none => simp only [Option.bind_some, e2] at h; exact h.elim
    | some z =>
      simp only [Option.bind_some, e2, Option.map_some] at h
      exact ⟨L, m, F, d, w.d, z, f.K, r1.drf S e, r2.lk S (getF_lb e2), e2, fun v r => Post.dat X0 S h r⟩
theorem VRep.int {v : Val} {x : V} {i : Int} (S : Sim L B m F E st σ H) (r : VRep L m F H E σ H0 v x) (e : v.d = .int i) : x = .int i := by
  have r := r.lk S (by rw [e]; exact fun z => nomatch z)
  rw [e] at r
  exact r.int
theorem slc_R (f : Fx C L o B X W) {v : Val} {x : V} {lo hi : Option Int} {Hx : Hp} (X0 : Ext m0 F0 H0 m F H) (S : Sim L B m F E st σ H) (r1 : VRep L m F H E σ Hx v x) (h : Post L B W m0 F0 H0 E σ (ER.opt ((drf st v.d).bind fun d => slcF d lo hi) st) Q) : rSlc X.K x lo hi H Q := by
  obtain ⟨z, ez, R⟩ := Post.resO X0 S h
  cases e : drf st v.d with
  | none => rw [e] at ez; cases ez
  | some d =>
    rw [e] at ez
    exact ⟨L, m, F, d, z, f.K, r1.drf S e, ez, R⟩
theorem pe_slUM (f : Fx C L o B X W) {x y : Expr} {p p2} (ha : PE X x (tE L B W o a)) (hb : PE X y (tE L B W o b)) : PE X (.Subscript x (.Slice none (some y) none p2) p) (tE L B W o (.slU a b)) := by
  refine (pe_slice sl_any ha po_none (po_some hb)).imp fun σ H Q h => ?_
  have z := tE2 (a := a) (b := b) (R := fun x y H Q => ∃ i, y = .int i ∧ rSlc X.K x none (some i) H Q) (f := fun x y st2 => match y.d with | .int j => ER.opt ((drf st2 x.d).bind fun d => slcF d none (some j)) st2 | _ => .bad) (fun E st => by rw [evE]; try rfl) (fun {m0 F0 H0 m F H E st σ Q v w x y Hx Hy} X0 S r1 r2 h => by
    cases e : w.d with
    | int i => rw [e] at h; exact ⟨i, r2.int S e, slc_R f X0 S r1 h⟩
    | _ => rw [e] at h; exact h.elim) h
  exact z
theorem pe_slLM (f : Fx C L o B X W) {x y : Expr} {p p2} (ha : PE X x (tE L B W o a)) (hb : PE X y (tE L B W o b)) : PE X (.Subscript x (.Slice (some y) none none p2) p) (tE L B W o (.slL a b)) := by
  refine (pe_slice sl_any ha (po_some hb) po_none).imp fun σ H Q h => ?_
  have z := tE2 (a := a) (b := b) (R := fun x y H Q => ∃ i, y = .int i ∧ rSlc X.K x (some i) none H Q) (f := fun x y st2 => match y.d with | .int j => ER.opt ((drf st2 x.d).bind fun d => slcF d (some j) none) st2 | _ => .bad) (fun E st => by rw [evE]; try rfl) (fun {m0 F0 H0 m F H E st σ Q v w x y Hx Hy} X0 S r1 r2 h => by
    cases e : w.d with
    | int i => rw [e] at h; exact ⟨i, r2.int S e, slc_R f X0 S r1 h⟩
    | _ => rw [e] at h; exact h.elim) h
  exact z
theorem pe_slBM (f : Fx C L o B X W) {x y w : Expr} {p p2} (ha : PE X x (tE L B W o a)) (hb : PE X y (tE L B W o b)) (hc : PE X w (tE L B W o c)) : PE X (.Subscript x (.Slice (some y) (some w) none p2) p) (tE L B W o (.slB a b c)) := by
  refine (pe_slice sl_any ha (po_some hb) (po_some hc)).imp fun σ H Q ⟨m, F, E, st, S, h⟩ => ?_
  rw [evE] at h
  refine tE.mono (fun x H1 ⟨m1, F1, st1, v, X1, X01, S1, r1, h1⟩ => ?_) (tE_bind Ext.refl S h)
  refine tE.mono (fun y H2 ⟨m2, F2, st2, w, X2, X02, S2, r2, h2⟩ => ?_) (tE_bind X01 S1 h1)
  cases e : w.d with
  | int i =>
    rw [e] at h2
    refine ⟨i, r2.int S2 e, ?_⟩
    refine tE.mono (fun z H3 ⟨m3, F3, st3, u, X3, X03, S3, r3, h4⟩ => ?_) (tE_bind X02 S2 h2)
    cases e2 : u.d with
    | int j =>
      rw [e2] at h4
      exact ⟨j, r3.int S3 e2, slc_R f X03 S3 ((r1.ext X2).ext X3) h4⟩
    | _ => rw [e2] at h4; exact h4.elim
  | _ => rw [e] at h2; exact h2.elim
theorem pe_oneM {op x p} (ha : PE X x (tE L B W o a)) : PE X (.BoolOp op [x] p) (tE L B W o a) := pe_one ha
def tAndM (L : Lk) (B : Bs) (W : WX) (o : Orc) (es : List ME) : TE := fun σ H Q => ∃ m F E st, Sim L B m F E st σ H ∧ Post L B W m F H E σ (evAnd o es E st) Q
def tOrM (L : Lk) (B : Bs) (W : WX) (o : Orc) (es : List ME) : TE := fun σ H Q => ∃ m F E st, Sim L B m F E st σ H ∧ Post L B W m F H E σ (evOr o es E st) Q
theorem tAnd1 (h : tAndM L B W o [a] σ H Q) : tE L B W o a σ H Q := by
  obtain ⟨m, F, E, st, S, h⟩ := h; rw [evAnd] at h; exact ⟨m, F, E, st, S, h⟩
theorem tOr1 (h : tOrM L B W o [a] σ H Q) : tE L B W o a σ H Q := by
  obtain ⟨m, F, E, st, S, h⟩ := h; rw [evOr] at h; exact ⟨m, F, E, st, S, h⟩
theorem tAnd2 (h : tAndM L B W o (a :: b :: es) σ H Q) : tE L B W o a σ H fun x H1 => ∃ c, x = .bl c ∧ if c = true then tAndM L B W o (b :: es) σ H1 Q else Q (.bl false) H1 := by
  obtain ⟨m, F, E, st, S, h⟩ := h
  rw [evAnd] at h
  refine tE.mono (fun x H1 ⟨m1, F1, st1, v, X1, X01, S1, r1, h1⟩ => ?_) (tE_bind Ext.refl S h)
  obtain ⟨t, rfl, h2⟩ := Post.ifV h1
  refine ⟨t, r1.bl, ?_⟩
  cases t with
  | true => exact ⟨m1, F1, E, st1, S1, Post.at X01 h2⟩
  | false => exact Post.bl X01 S1 h2
theorem tOr2 (h : tOrM L B W o (a :: b :: es) σ H Q) : tE L B W o a σ H fun x H1 => ∃ c, x = .bl c ∧ if c = true then Q (.bl true) H1 else tOrM L B W o (b :: es) σ H1 Q := by
  obtain ⟨m, F, E, st, S, h⟩ := h
  rw [evOr] at h
  refine tE.mono (fun x H1 ⟨m1, F1, st1, v, X1, X01, S1, r1, h1⟩ => ?_) (tE_bind Ext.refl S h)
  obtain ⟨t, rfl, h2⟩ := Post.ifV h1
  refine ⟨t, r1.bl, ?_⟩
  cases t with
  | false => exact ⟨m1, F1, E, st1, S1, Post.at X01 h2⟩
  | true => exact Post.bl X01 S1 h2
theorem pe_ifeM {x y w : Expr} {p} (hc : PT X x (tTest (tE L B W o c))) (ha : PE X y (tE L B W o a)) (hb : PE X w (tE L B W o b)) : PE X (.IfExp x y w p) (tE L B W o (.ife c a b)) := by
  refine (pe_ifExp hc ha hb).imp fun σ H Q ⟨m, F, E, st, S, h⟩ => ?_
  rw [evE] at h
  refine tE.mono (fun x H1 ⟨m1, F1, st1, v, X1, X01, S1, r1, h1⟩ => ?_) (tE_bind Ext.refl S h)
  obtain ⟨t, rfl, h2⟩ := Post.ifV h1
  refine ⟨t, r1.bl, ?_⟩
  cases t with
  | true => exact ⟨m1, F1, E, st1, S1, Post.at X01 h2⟩
  | false => exact ⟨m1, F1, E, st1, S1, Post.at X01 h2⟩
/-! calls of defs -/
theorem Sim.call (S : Sim L B m F E st σ H) (X1 : Ext m F H m' F' H') (w : Wd L m' F' st' H') : Sim L B m' F' E st' σ H' := by
  have M := X1.mono
  refine ⟨w, S.ex.trans X1, fun i v e => ?_, S.ln, S.ij⟩
  obtain ⟨x, e1, r⟩ := S.sl i v e
  refine ⟨x, e1, ?_⟩
  cases v with
  | dat d => exact Rep.mono M _ _ r
  | new d =>
    obtain ⟨a, rfl, r, nf, nm, n0⟩ := r
    obtain ⟨k, nf', nm'⟩ := X1.own r.there nm nf
    exact ⟨a, rfl, r.mono M k, nf', nm', n0⟩
  | bor d => exact r
  | xv c fs => obtain ⟨q, e, e2, e3, r⟩ := r; exact ⟨q, e, e2, e3, r.mono M⟩
theorem Post.call {r : ER Val} (X1 : Ext m0 F0 H0 m F H) (S : Sim L B m F E st σ H) (h : Post L B W m0 F0 H0 E σ r Q) : PostC L m F H r Q (fun cls d H' => W cls d σ H') := by
  cases r with
  | ok v st' =>
    intro m' F' x H' X2 w r
    refine h m' F' x H' (X1.trans X2) (S.call X2 w) ?_
    cases v with
    | dat d => exact r
    | new d => obtain ⟨a, e, r, nf, nm, n0⟩ := r; exact ⟨a, e, r, nf, nm, X1.tr a n0⟩
    | bor d => exact r.elim
    | xv c fs => exact r.elim
  | ex xc st' => exact fun m' F' H' cls d X2 w r => h m' F' H' cls d (X1.trans X2) (S.call X2 w) r
  | bad => exact h
end
end Mp

end
section
set_option Elab.async false
set_option linter.all false
set_option maxRecDepth 100000
set_option maxHeartbeats 4000000
/-! S12c: == and != of instances. -/
namespace Mp
open PySem PySem.Spec PyProof.Rows L2
section
variable {C : CC} {L : Lk} {B : Bs} {W : WX} {o : Orc} {X : Cx} {m m0 m1 m2 m' : List Addr} {F F0 F1 F2 F' : Addr → Prop} {H H0 H1 H2 H' : Hp} {E : Env} {st st' : Sto} {σ : L2.St} {Q : V → Hp → Prop} {me a b c : ME} {es : List ME}
def ngC (ng : Bool) : Cp := if ng then .ne else .eq
def rEqo (X : Cx) (ng : Bool) : R2 := fun x y H Q => rCmp X.K (ngC ng) x y H Q ∨ rOwnEq X ng x y H Q
theorem op_eqo (f : Fx C L o B X W) (ng : Bool) : OpR X (compareOp (cpK (ngC ng))) (rEqo X ng) := by
  intro pins s σ H x y v u Q I rx ry q
  rcases q with q | q
  · exact op_cmpM f.hu4 (ngC ng) pins s σ H x y v u Q I rx ry q
  · cases ng with
    | false => exact op_ownEq f.hu4 f.tk pins s σ H x y v u Q I rx ry q
    | true => exact op_ownNe f.hu4 f.tk pins s σ H x y v u Q I rx ry q
theorem ins_of {d : Mp.D} {x : V} {c : Nat} (w : Wd L m F st H) (h : clsOf st d = some c) (r : Rep L m F H d x) : ∃ a dx fv, x = .ref a ∧ H a = some (.ins (L.cad c) dx fv) := by
  unfold clsOf at h
  cases e : drf st d with
  | none => rw [e] at h; cases h
  | some d' =>
    rw [e] at h
    cases d' <;> simp only at h <;> try contradiction
    cases h
    obtain ⟨a, dx, fv, e1, e2, _⟩ := w.deref (Rep.look r) e
    exact ⟨a, dx, fv, e1, e2⟩
theorem kp_d {v : Val} {d : Mp.D} (h : v.kp = some d) : v.d = d := by
  cases v with
  | dat e => cases h; rfl
  | new e => obtain ⟨rfl, _⟩ := kp_new h; rfl
  | bor e => cases h
  | xv c fs => cases h
theorem ev2L {f : Val → Val → Sto → ER Val} {E : Env} {st : Sto} : ((evE o a E st).bind fun x st1 => (evE o b E st1).bind fun y st2 => f x y st2) = (evL o [a, b] E st).bind fun vs st2 => match vs with | [x, y] => f x y st2 | _ => .bad := by
  simp only [evL]
  cases evE o a E st with
  | ok v st1 =>
    simp only [ER.bind]
    cases evE o b E st1 with
    | ok w st2 => simp only [ER.bind]
    | ex x st2 => rfl
    | bad => rfl
  | ex x st1 => rfl
  | bad => rfl
theorem eqo_R (f : Fx C L o B X W) (hc : C.cold = true) {ng : Bool} (h : tE L B W o (.eqo ng a b) σ H Q) : tOp (rEqo X ng) (tE L B W o a) (tE L B W o b) σ H Q := by
  obtain ⟨m, F, E, st, S, h⟩ := h
  rw [evE, ev2L] at h
  refine tE.mono (fun x H1 h3 => tE.mono (fun y H2 h4 => ?_) (tL_cons h3)) (tL_cons (tL_bind Ext.refl S h))
  obtain ⟨m1, F1, st1, vs, X1, X01, S1, r1, e1, h1⟩ := tL_nil h4
  have hlen : vs.length = 2 := VsL.len r1.al
  match vs, hlen with
  | [v, w], _ =>
    have rv : VRep L m1 F1 H2 E σ H v x := r1.al.1
    have rw' : VRep L m1 F1 H2 E σ H w y := r1.al.2.1
    have h1 : Post L B W m F H E σ (eqO o ng v w st1) Q := h1
    unfold eqO at h1
    cases hcl : clsOf st1 v.d with
    | none =>
      rw [hcl] at h1
      simp only at h1
      cases et : eqT v.d w.d with
      | none => rw [et] at h1; exact h1.elim
      | some t =>
        rw [et] at h1
        have q : Q (.bl (if ng then !t else t)) H2 := Post.bl X01 S1 h1
        have hcm : cmpF (ngC ng) v.d w.d = some (if ng then !t else t) := by cases ng <;> simp [ngC, cmpF, et]
        obtain ⟨n1, n2⟩ := cmpF_lb hcm
        exact .inl ⟨L, m1, F1, v.d, w.d, _, f.K, rv.lk S1 n1, rw'.lk S1 n2, hcm, q⟩
    | some c =>
      rw [hcl] at h1
      simp only at h1
      cases ek : kpL [v, w] with
      | none => rw [ek] at h1; exact h1.elim
      | some ds =>
        cases eq : o.eqm c with
        | none => rw [ek, eq] at h1; exact h1.elim
        | some g =>
          rw [ek, eq] at h1
          simp only at h1
          by_cases hcl2 : clsOf st1 w.d = some c
          · rw [if_pos hcl2] at h1
            obtain ⟨ds', F', ek', X', S', r', h2⟩ := Post.kpl (f := fun ds st1 => ((o.call g ds st1).nox).bind fun v st1 => (match v with | .dat (.bl t) => .ok (.dat (.bl (if ng then !t else t))) st1 | _ => .bad)) X01 S S1 r1 (by rw [ek]; exact h1)
            rw [ek] at ek'
            cases ek'
            simp only [kpL] at ek
            cases k1 : v.kp with
            | none => rw [k1] at ek; cases ek
            | some d1 =>
              cases k2 : w.kp with
              | none => rw [k1, k2] at ek; cases ek
              | some d2 =>
                rw [k1, k2] at ek
                simp only [Option.some.injEq] at ek
                subst ek
                rw [kp_d k1] at hcl
                rw [kp_d k2] at hcl2
                have r2 := r'
                simp only [RepL] at r2
                obtain ⟨a1, dx, fv, rfl, ea⟩ := ins_of S'.wd hcl r2.1
                obtain ⟨a2, dx2, fv2, rfl, eb⟩ := ins_of S'.wd hcl2 r2.2.1
                obtain ⟨K, gk⟩ := f.eq c g eq
                obtain ⟨_, k, fd, ps, hr, FN, hb, hn⟩ := f.fn hc g gk
                refine .inr ⟨a1, a2, L.cad c, dx, dx2, L.fad g, fv, fv2, k, fd, ps, _, rfl, rfl, ea, eb, K, FN, hr, hb, ?_, m1, F', st1, [d1, d2], S'.wd, r', ?_⟩
                · refine (hn [d1, d2] st1 fun z => ?_)
                  rw [z] at h2
                  exact h2
                · cases er : o.call g [d1, d2] st1 with
                  | bad => rw [er] at h2; exact h2
                  | ex xc st2 => rw [er] at h2; exact h2.elim
                  | ok z st2 =>
                    rw [er] at h2
                    cases z with
                    | dat dz =>
                      cases dz with
                      | bl t =>
                        have h3 : Post L B W m F H E σ (.ok (.dat (.bl (if ng then !t else t))) st2) Q := h2
                        have h4 := Post.call X' S' h3
                        intro m2 F2 x2 H3 X2 w2 r3
                        have e3 : x2 = .bl t := r3
                        exact ⟨t, e3, h4 m2 F2 _ H3 X2 w2 (by show Rep L m2 F2 H3 (.bl _) _; simp only [Rep])⟩
                      | _ => exact h2.elim
                    | _ => exact h2.elim
          · rw [if_neg hcl2] at h1
            exact h1.elim
theorem pe_eqoM (f : Fx C L o B X W) (hc : C.cold = true) {ng : Bool} {x y : Expr} {p : Pos} (ha : PE X x (tE L B W o a)) (hb : PE X y (tE L B W o b)) (hy : okE y = true) :
    PE X (.Compare x [cpK (if ng then .ne else .eq)] [y] p) (tE L B W o (.eqo ng a b)) ∧ PT X (.Compare x [cpK (if ng then .ne else .eq)] [y] p) (tTest (tE L B W o (.eqo ng a b))) :=
  ⟨(pe_cmpR (op_eqo f ng) ha hb (okE_mark hy)).imp fun σ H Q h => eqo_R f hc h, (pt_cmpR (op_eqo f ng) ha hb (okE_mark hy)).imp fun σ H Q h => eqo_R f hc h⟩
end
end Mp

end
section
set_option Elab.async false
set_option linter.all false
set_option maxRecDepth 100000
set_option maxHeartbeats 4000000
/-! S13: expressions: calls, isinstance, fields, cells. -/
namespace L2
open PySem PySem.Spec PyProof.Rows
section
variable {X : Cx} {k : Nat} {f : Addr} {fd : FuncData} {ps : List Str} {sp : Sp} {W : WX} {x : Str} {p pos : Pos} {e : Expr} {es : List Expr} {t : TA}
theorem run_fnGS {pins : List (Addr × Obj)} {σ : St} {H : Hp} {s : Shared} {Q : VK} {us : List Value} {vs : List V} (F : FnG X.prog X.w X.K X.mg X.base (L2N.CX X.prog X.w) k f fd ps sp) (hr : RoomG k X.A) (hb : Binds X.K fd ps []) (tk : L2N.Takes X W)
    (I : Inv X pins σ H s) (r : Vals vs us) (h : sp vs H Q (fun cls d H' => W cls d σ H')) : wpAny (model X.prog X.w) X.A (call (.ref f) us) (EP X pins σ Q) X.xe s := by
  have hl : us.length = ps.length := by rw [← r.length]; exact F.len _ _ _ _ h
  have hb' := hb s us I.kIn (by rw [List.append_nil]; exact hl)
  rw [List.append_nil] at hb'
  refine wpAny_call (codeAny_mono (F.run X.A X.stack s H ⟨us, []⟩ us vs Q _ hr I.env0 hb' r h) fun r s' hq => ?_)
  cases r with
  | error e => exact tk e s' (L2N.XE.of_call I (fun _ _ _ h => h) hq)
  | ok fl =>
    cases fl with
    | ret u => exact I.after hq
    | next => exact False.elim hq
    | brk => exact False.elim hq
    | cont => exact False.elim hq
theorem pe_callGS (F : FnG X.prog X.w X.K X.mg X.base (L2N.CX X.prog X.w) k f fd ps sp) (hr : RoomG k X.A) (hg : Gl X x) (hm : X.mg x = some (.ref f)) (hk : PySem.W.keepIn X.K (.ref f) = true) (hb : Binds X.K fd ps []) (tk : L2N.Takes X W)
    (ha : PA X (e :: es) t) (hdb : (x == ("__debug__" : Str)) = false) (he : starEach (e :: es) X.env = (false, eval e X.env) :: starEach es X.env) (hpl : (backTo pos (starEach es X.env)).any (·.1) = false) :
    PE X (.Call (.Name x p) (e :: es) [] pos) (fun σ H Q => t σ H fun vs H1 => sp vs H1 Q (fun cls d H' => W cls d σ H')) := by
  refine ⟨fun pins s σ H Q I h => ?_⟩
  refine wpAny_Call_Name_kw (ld_glob I hg hm ?_ hdb)
  refine PySem.W.callWith_K (h₀ := X.base) I.ok.mod.kin hk (thn (ha.run pos pins s σ H _ I h) fun us s1 ⟨vs, H1, I1, r, q⟩ => ⟨I1.kIn, ?_⟩) he hpl
  exact run_fnGS F hr hb tk I1 r q
theorem pe_callGS0 (F : FnG X.prog X.w X.K X.mg X.base (L2N.CX X.prog X.w) k f fd ps sp) (hr : RoomG k X.A) (hg : Gl X x) (hm : X.mg x = some (.ref f)) (hk : PySem.W.keepIn X.K (.ref f) = true) (hb : Binds X.K fd ps []) (tk : L2N.Takes X W)
    (hdb : (x == ("__debug__" : Str)) = false) :
    PE X (.Call (.Name x p) [] [] pos) (fun σ H Q => sp [] H Q (fun cls d H' => W cls d σ H')) := by
  refine ⟨fun pins s σ H Q I h => ?_⟩
  refine wpAny_Call_Name_kw (ld_glob I hg hm ?_ hdb)
  exact PySem.W.callWith_K0 I.kIn hk (run_fnGS (us := []) F hr hb tk I .nil h)
end
end L2
namespace Mp
open PySem PySem.Spec PyProof.Rows L2
section
variable {C : CC} {L : Lk} {B : Bs} {W : WX} {o : Orc} {X : Cx} {m m0 m1 m2 m' : List Addr} {F F0 F1 F2 F' : Addr → Prop} {H H0 H1 H2 H' : Hp} {E : Env} {st st' : Sto} {σ : L2.St} {Q : V → Hp → Prop} {me a b c : ME} {es : List ME}
theorem allOk_any {es : List Expr} {env : PySem.Env} {pos : Pos} (h : es.all okE = true) : (backTo pos (starEach es env)).any (·.1) = false := by
  induction es with
  | nil => rfl
  | cons e es ih =>
    rw [List.all_cons, Bool.and_eq_true] at h
    rw [okE_star h.1]
    exact ih h.2
theorem mtArgs (f : Fx C L o B X W) {g : Nat} {es : List ME} {fd : FuncData} {ps : List Str} (hn : ∀ ds st, o.call g ds st ≠ .bad → ds.length = ps.length) (h : tE L B W o (.call g es) σ H Q) :
    tL L B W o es σ H fun vs H1 => vs.length = ps.length ∧ spM L (o.call g) vs H1 Q (fun cls d H' => W cls d σ H') := by
  obtain ⟨m, F, E, st, S, h⟩ := h
  rw [evE] at h
  refine tL.mono (fun xs H1 ⟨m1, F1, st1, vs, X1, X01, S1, r1, e1, h1⟩ => ?_) (tL_bind Ext.refl S h)
  obtain ⟨ds, F', ek, X', S', r', h2⟩ := Post.kpl (f := fun ds st => o.call g ds st) X01 S S1 r1 (by cases e : kpL vs <;> (rw [e] at h1; exact h1))
  refine ⟨?_, m1, F', st1, ds, S'.wd, r', Post.call X' S' h2⟩
  rw [← r'.len]
  exact hn ds st1 fun z => by rw [z] at h2; exact h2
theorem pe_callM (f : Fx C L o B X W) {g : Nat} {x : Str} {l : List Expr} {p p2} (hc : C.cold = true) (hf : C.nm.fns[g]? = some (some x)) (hx : glB C x = true) (hll : es.length = l.length) (hl : l.all okE = true) (ha : PA X l (tL L B W o es)) : PE X (.Call (.Name x p) l [] p2) (tE L B W o (.call g es)) := by
  obtain ⟨g1, gk⟩ := f.fng g x hf
  obtain ⟨g2, k, fd, ps, hr1, F, hb, hn⟩ := f.fn hc g gk
  have hr := hr1.mono (Nat.le_succ k)
  obtain ⟨h1, h2, h3⟩ := f.gl hx
  cases l with
  | nil =>
    obtain rfl : es = [] := List.eq_nil_of_length_eq_zero hll
    exact (pe_callGS0 F hr h1 g1 g2 hb f.tk h2).imp fun σ H Q h => tL_nil (mtArgs (fd := fd) f hn h)
  | cons e l =>
    rw [List.all_cons, Bool.and_eq_true] at hl
    exact (pe_callGS F hr h1 g1 g2 hb f.tk ha h2 (okE_star hl.1 _ _) (allOk_any hl.2)).imp fun σ H Q h => mtArgs (fd := fd) f hn h
/-- the first looked at, the rest kept -/
theorem Post.biv {xs : List V} {vs : List Val} {f : List D → Sto → ER Val} (X01 : Ext m F H m1 F1 H1) (S : Sim L B m F E st σ H) (S1 : Sim L B m1 F1 E st' σ H1) (r : VsRep L m1 F1 H1 E σ H vs xs)
    (h : Post L B W m F H E σ (match biV st' vs with | some ds => f ds st' | none => .bad) Q) :
    ∃ d ds x xr F', xs = x :: xr ∧ biV st' vs = some (d :: ds) ∧ Ext m F H m1 F' H1 ∧ Sim L B m1 F' E st' σ H1 ∧ Look L m1 F' H1 d x ∧ RepL L m1 F' H1 ds xr ∧ Post L B W m F H E σ (f (d :: ds) st') Q := by
  cases vs with
  | nil => exact h.elim
  | cons v vs =>
    cases xs with
    | nil => exact r.al.elim
    | cons x xr =>
      cases e1 : drf st' v.d with
      | none => simp only [biV, e1] at h; exact h.elim
      | some d =>
        cases e2 : kpL vs with
        | none => simp only [biV, e1, e2] at h; exact h.elim
        | some ds =>
          have eb : biV st' (v :: vs) = some (d :: ds) := by simp only [biV, e1, e2]
          rw [eb] at h
          have nd := r.nd
          simp only [news] at nd
          rw [List.nodup_append] at nd
          obtain ⟨n1, n2, n3⟩ := nd
          obtain ⟨F', X', S', r', mF, hF⟩ := VsRep.kept X01 S.beg S1 r.al.2 n2 e2
          have M1 : Mono m1 F1 H1 m1 F' H1 := ⟨fun _ _ z => z, mF, fun _ _ => Stay.refl⟩
          have v1 : VsL L m1 F1 H1 E σ H [v] [x] := ⟨r.al.1, trivial⟩
          have v2 := VsL.keepF M1 (vs := [v]) (xs := [x]) (fun a fa => (hF a fa).imp id fun hz z => by
            simp only [news, List.append_nil] at z
            exact n3 _ z _ hz rfl) v1
          exact ⟨d, ds, x, xr, F', rfl, eb, X', S', v2.1.drf S' e1, r', h⟩
theorem bnm_mem {b : BI} (h : biN b ≠ 0) : ((biNm b).1 : Str) ∈ bltN := by
  cases b <;> first | exact absurd rfl h | decide +kernel
theorem bnm_boot {b : BI} (h : biN b ≠ 0) : bootBuiltins ((biNm b).1 : Str) = some (biV' b) := by
  cases b <;> first | exact absurd rfl h | (first | rfl | kernel_rfl | with_unfolding_all rfl)
theorem pe_biM (f : Fx C L o B X W) {g : BI} {x : Str} {l : List Expr} {p p2} (hb : biN g ≠ 0) (hx : x = ((biNm g).1 : Str)) (hlen : l.length = biN g) (hes : es.length = biN g) (hg : glB C x = true) (hc : biCalm g = true → C.cold = true) (hl : l.all okE = true) (ha : PA X l (tL L B W o es)) :
    PE X (.Call (.Name x p) l [] p2) (tE L B W o (.bi g es)) := by
  obtain ⟨h1, h2, h3⟩ := f.gl hg
  have cr := call_biM (X := X) f.hu4 g (biN g) hb rfl (fun z => f.cold (hc z))
  have hm : X.mg x = none := by rw [hx]; exact f.blt _ (bnm_mem hb)
  have hv : bootBuiltins x = some (biV' g) := by rw [hx]; exact bnm_boot hb
  have fin : ∀ {σ H Q}, tE L B W o (.bi g es) σ H Q → tCB (fun xs H Q => xs.length = biN g ∧ rBi X.K g xs H Q) (tL L B W o es) σ H Q := fun {σ H Q} ⟨m, F, E, st, S, h⟩ => by
    rw [evE] at h
    refine tL.mono (fun xs H1 ⟨m1, F1, st1, vs, X1, X01, S1, r1, e1, h1⟩ => ⟨?_, ?_⟩) (tL_bind Ext.refl S h)
    · rw [← VsL.len r1.al, evL_len e1, hes]
    · obtain ⟨d, ds, x, xr, F', rfl, eb, X', S', hlk, r', h2⟩ := Post.biv (f := fun ds st => ER.opt (biF g ds) st) X01 S S1 r1 (by
        cases e : biV st1 vs with
        | none => rw [e] at h1; exact h1
        | some z => rw [e] at h1; exact h1)
      obtain ⟨z, ez, R⟩ := Post.resO X' S' h2
      exact ⟨L, m1, F', d, ds, x, xr, z, rfl, f.K, hlk, r', ez, R⟩
  cases l with
  | nil => rw [← hlen] at hb; exact absurd rfl hb
  | cons e l =>
    rw [List.all_cons, Bool.and_eq_true] at hl
    unfold biV' at cr hv
    by_cases ht : (biNm g).2 = true
    · rw [if_pos ht] at cr hv
      exact (pe_callTy cr h1 hm hv ha h3 h2 (okE_star hl.1 _ _) (allOk_any hl.2)).imp fun σ H Q h => fin h
    · rw [if_neg ht] at cr hv
      exact (pe_callB cr h1 hm hv ha h3 h2 (okE_star hl.1 _ _) (allOk_any hl.2)).imp fun σ H Q h => fin h
/-! isinstance -/
def tyD : D → String
  | .non => "NoneType" | .bl _ => "bool" | .int _ => "int" | .str _ => "str" | .tup _ => "tuple" | .lst _ => "list" | .dct _ => "dict" | _ => ""
theorem tyx_of {sup : Nat → List Nat} {t : Ty} {d : D} {b : Bool} {x : V} (eK : L.K = X.K) (h : tyF sup t d = some b) (r : Look L m F H d x) : TyX X.K H x (.type (tyD d)) := by
  cases d with
  | non => cases (show x = .non from r); exact .base .non
  | bl z => cases (show x = .bl z from r); exact .base (.bl z)
  | int z => cases r.int; exact .base (.int z)
  | str z =>
    simp only [Look, Rep] at r
    obtain ⟨rfl, _⟩ := r
    exact .base (.str _)
  | tup xs =>
    simp only [Look, Rep] at r
    obtain ⟨a, vs, rfl, q, _⟩ := r
    rcases q with ⟨_, q | ⟨ob, q⟩⟩ | ⟨ob, its, n, q, c, _⟩
    · exact .base (.tup q)
    · exact .fTuple q
    · rw [eK] at q; exact .kTuple q c
  | lst xs => obtain ⟨a, vs, rfl, q, _⟩ := r; exact .base (.lst q)
  | dct xs =>
    obtain ⟨a, vs, rfl, q, _⟩ := r
    rcases q with q | ⟨ob, q⟩
    · exact .base (.dK q)
    · exact .fDict q
  | _ => cases t <;> simp [tyF] at h
theorem kit_ofD {sup : Nat → List Nat} {t : Ty} {d : D} {b : Bool} {u : Value} (h : tyF sup t d = some b) (hu : tyVal L t = some u) : PySem.W.kitOne X.K (.type (tyD d)) u = some b := by
  cases d <;> cases t <;> simp [tyF] at h <;> subst h <;> simp [tyVal] at hu <;> subst hu <;> exact kit_ty (by simp only [tyD]; decide +kernel)
theorem kits_ofD {sup : Nat → List Nat} {d : D} : ∀ {ts : List Ty} {b : Bool} {us : List Value}, tysF sup ts d = some b → ts.map (tyVal L) = us.map some → PySem.W.kitAny X.K (.type (tyD d)) us = some b
  | [], b, us, h, hu => by
    cases us with
    | nil => simp [tysF] at h; subst h; rfl
    | cons => simp at hu
  | t :: ts, b, us, h, hu => by
    cases us with
    | nil => simp at hu
    | cons u us =>
      simp only [List.map_cons, List.cons.injEq] at hu
      unfold tysF at h
      split at h
      · rename_i e
        cases h
        exact kitAny_cons (kit_ofD e hu.1) (fun z => nomatch z) (fun _ => rfl)
      · rename_i e
        exact kitAny_cons (kit_ofD e hu.1) (fun _ => kits_ofD h hu.2) (fun z => nomatch z)
      · cases h
theorem tys_tyx {sup : Nat → List Nat} {ts : List Ty} {d : D} {b : Bool} {x : V} (eK : L.K = X.K) (h : tysF sup ts d = some b) (hne : ts ≠ []) (r : Look L m F H d x) : TyX X.K H x (.type (tyD d)) := by
  cases ts with
  | nil => exact absurd rfl hne
  | cons t ts =>
    unfold tysF at h
    split at h
    · exact tyx_of eK ‹_› r
    · exact tyx_of eK ‹_› r
    · cases h
/-- a class as a value -/
def tyV (L : Lk) : Ty → V
  | .int => .ty "int" | .bool => .ty "bool" | .str => .ty "str" | .list => .ty "list" | .tuple => .ty "tuple" | .dict => .ty "dict"
  | .verr => .ty "ValueError" | .lerr => .ty "LookupError" | .rerr => .ty "RuntimeError" | .cls c => .ref (L.cad c)
def tyU (L : Lk) : Ty → Value
  | .int => .type "int" | .bool => .type "bool" | .str => .type "str" | .list => .type "list" | .tuple => .type "tuple" | .dict => .type "dict"
  | .verr => .type "ValueError" | .lerr => .type "LookupError" | .rerr => .type "RuntimeError" | .cls c => .ref (L.cad c)
theorem tyU_val (t : Ty) : tyVal L t = some (tyU L t) := by cases t <;> rfl
theorem tyV_cls (t : Ty) : ClsV (tyV L t) (tyU L t) := by cases t <;> first | exact .ty _ | exact .own _
theorem tyV_rel (t : Ty) : RelV (tyV L t) (tyU L t) := by cases t <;> rfl
theorem tyV_inj (t : Ty) {u : Value} (h : RelV (tyV L t) u) : u = tyU L t := by cases t <;> exact h
theorem pe_tyM (f : Fx C L o B X W) {t : Ty} {e : Expr} (h : mtTy C t e = true) : PE X e (tC (tyV L t)) ∧ okE e = true := by
  unfold mtTy at h
  split at h
  · rename_i x p
    rw [Bool.and_eq_true] at h
    obtain ⟨h1, h2, h3⟩ := f.gl h.1
    refine ⟨?_, rfl⟩
    have hn := h.2
    cases t with
    | cls c =>
      have hn : C.nm.cls[c]? = some x := of_decide_eq_true hn
      exact pe_glob h1 (f.cl c x hn) (tyV_rel _) h2
    | _ =>
      have hn := of_decide_eq_true hn
      simp only [tyNm, Option.some.injEq] at hn
      subst hn
      exact pe_bltn h1 (f.blt _ (by decide +kernel)) (by first | rfl | kernel_rfl | with_unfolding_all rfl) (tyV_rel _) h3 h2
  · cases h
theorem pa_tysM (f : Fx C L o B X W) : ∀ {ts : List Ty} {l : List Expr}, mtTys C ts l = true → PA X l (fun σ H Q => Q (ts.map (tyV L)) H) ∧ ts.length = l.length
  | [], [], _ => ⟨pa_nil.imp fun _ _ _ h => h, rfl⟩
  | t :: ts, e :: l, h => by
    simp only [mtTys, Bool.and_eq_true] at h
    obtain ⟨h1, h2⟩ := pe_tyM f h.1
    obtain ⟨h3, h4⟩ := pa_tysM f h.2
    exact ⟨(pa_cons h1 h3 (okE_star h2 _ _)).imp fun _ _ _ h => h, by simp [h4]⟩
  | [], _ :: _, h => by simp [mtTys] at h
  | _ :: _, [], h => by simp [mtTys] at h
theorem paired_tys : ∀ (ts : List Ty), Paired ClsV (ts.map (tyV L)) (ts.map (tyU L))
  | [] => .nil
  | t :: ts => .cons (tyV_cls t) (paired_tys ts)
/-- isinstance of the exception that the suite holds -/
def rIsX (K : PySem.W.Frag) (L : Lk) (o : Orc) (B : Bs) : List V → Hp → VK → Prop := fun xs H Q => ∃ (q : Xi) (m : List Addr) (F : Addr → Prop) (n c : Nat) (fs : List (Nat × D)) (t : Ty) (b : Bool), B.x = some q ∧ XRep L m F H c fs q.cls q.d ∧ xs = [.ref q.a, tyV L t] ∧ tyX (o.sup c) t = some b ∧ (∀ c', t = .cls c' → c' < n) ∧ XcOk K L o n c ∧ Q (.bl b) H
theorem call_isXM (f : Fx C L o B X W) : CallR X (.builtin "isinstance") (rIsX X.K L o B) := by
  intro pins s σ H xs us Q I r h
  obtain ⟨q, m, F, n, c, fs, t, b, eq, ⟨ec, hx⟩, rfl, ht, hn, T, hQ⟩ := h
  obtain ⟨X0, oe, pn, rfl, hz, vs, hv⟩ := f.xs q eq
  obtain ⟨u1, u2, rfl, r1, r2⟩ := vals2 r
  cases (show u1 = Value.ref q.a from r1)
  cases tyV_inj t r2
  obtain ⟨hget, _⟩ := I.pin (q.a, oe) (List.mem_append.mpr (.inl List.mem_cons_self))
  have e := T.ty t _ b hn ht (tyU_val t)
  have J : ∃ od, PySem.W.InstAt s.heap q.a oe (L.cad c) od := by
    cases ed : q.d with
    | none => exact ⟨none, hget, by rw [hz.1, ec], by unfold PySem.W.notCls; rw [hv] <;> rfl, by rw [hz.2, ed]; trivial⟩
    | some dd =>
      rw [ed] at hx
      obtain ⟨fd, fv, e1, _⟩ := hx
      obtain ⟨mA, hns, hr⟩ := (show ObjOk _ _ H s.heap dd (.xd fv) from I.hok dd _ e1)
      obtain ⟨od, ho, hl⟩ := lookIn_ns hns
      exact ⟨some od, hget, by rw [hz.1, ec], by unfold PySem.W.notCls; rw [hv] <;> rfl, by rw [hz.2, ed]; exact ho⟩
  obtain ⟨od, J⟩ := J
  have E := T.ex
  have hcl : (PySem.W.clsIn X0.K (L.cad c)).isSome = true := by obtain ⟨cd, hc, _⟩ := PySem.W.any_some E.hd; rw [hc]; rfl
  exact PySem.W.kia_one (PySem.W.kitx_exc hcl E.hg E.hk E.hs E.ha E.hn E.ht E.hm) I.kIn J e (fun z => nomatch z) fun tk => ⟨.bl b, H, I.kept (t' := tk) fun _ _ z => z, rfl, hQ⟩
/-- what kind of class a caught exception has -/
theorem SlR.xc (f : Fx C L o B X W) {i c : Nat} {fs : List (Nat × D)} {x : V} (S : Sim L B m F E st σ H) (e : E[i]? = some (some (.xv c fs))) (e2 : σ[i]? = some (some x)) : ∃ q, B.x = some q ∧ x = .ref q.a ∧ XRep L m F H c fs q.cls q.d := by
  obtain ⟨y, e3, q, h1, h2, h3, h4⟩ := S.sl i _ e
  rw [e2] at e3; cases e3
  exact ⟨q, h1, h3, h4⟩
theorem isi_R (f : Fx C L o B X W) {t : Ty} (hn : ∀ c', t = .cls c' → c' < C.nm.cls.length) {v : Val} {x : V} {Hx : Hp} (X0 : Ext m0 F0 H0 m F H) (S : Sim L B m F E st σ H) (r : VRep L m F H E σ Hx v x) (h : Post L B W m0 F0 H0 E σ (ER.opt ((isiV o.sup [t] st v).map fun t => .dat (.bl t)) st) Q) :
    rIsi X.K [x, tyV L t] H Q ∨ rIsX X.K L o B [x, tyV L t] H Q := by
  obtain ⟨b, hb, q⟩ := Post.blO X0 S h
  have gen : ∀ d, drf st v.d = some d → tysF o.sup [t] d = some b → rIsi X.K [x, tyV L t] H Q := fun d e1 e2 => by
    have r1 := r.drf S e1
    have e3 : tyF o.sup t d = some b := by
      unfold tysF at e2
      split at e2
      · cases e2; assumption
      · unfold tysF at e2; cases e2; assumption
      · cases e2
    exact ⟨x, tyV L t, _, _, b, rfl, tyV_cls t, tyx_of f.K e3 r1, kit_ofD e3 (tyU_val t), q⟩
  cases v with
  | xv c fs =>
    obtain ⟨i, e1, e2⟩ := r
    obtain ⟨w, h1, h2, h3⟩ := SlR.xc f S e1 e2
    subst h2
    simp only [isiV] at hb
    split at hb
    · rename_i hc
      exact .inr ⟨w, m, F, _, c, fs, t, b, h1, h3, rfl, hb, hn, f.xk c hc, q⟩
    · cases hb
  | dat d =>
    cases e : drf st d with
    | none => simp only [isiV, Val.d, e] at hb; cases hb
    | some d' => exact .inl (gen d' e (by simpa only [isiV, Val.d, e, Option.bind_some] using hb))
  | new d =>
    cases e : drf st d with
    | none => simp only [isiV, Val.d, e] at hb; cases hb
    | some d' => exact .inl (gen d' e (by simpa only [isiV, Val.d, e, Option.bind_some] using hb))
  | bor d =>
    cases e : drf st d with
    | none => simp only [isiV, Val.d, e] at hb; cases hb
    | some d' => exact .inl (gen d' e (by simpa only [isiV, Val.d, e, Option.bind_some] using hb))
theorem tyM_lt {t : Ty} {z : Expr} (h : mtTy C t z = true) : ∀ c', t = .cls c' → c' < C.nm.cls.length := fun c' e => by
  subst e
  unfold mtTy at h
  split at h
  · rw [Bool.and_eq_true] at h
    have h2 : C.nm.cls[c']? = some _ := of_decide_eq_true h.2
    exact (List.getElem?_eq_some_iff.mp h2).1
  · cases h
theorem isiNm : ("isinstance" : Str) ∈ bltN := by decide +kernel
theorem isiBt : bootBuiltins ("isinstance" : Str) = some (.builtin "isinstance") := by first | rfl | kernel_rfl | with_unfolding_all rfl
theorem CallR.or {g : Value} {r r' : List V → Hp → VK → Prop} (h : CallR X g r) (h' : CallR X g r') : CallR X g (fun xs H Q => r xs H Q ∨ r' xs H Q) := by
  intro pins s σ H xs us Q I rx q
  rcases q with q | q
  · exact h pins s σ H xs us Q I rx q
  · exact h' pins s σ H xs us Q I rx q
theorem pe_isi1M (f : Fx C L o B X W) {t : Ty} {y z : Expr} {p p2} (hg : glB C ("isinstance" : Str) = true) (hy : okE y = true) (hz : mtTy C t z = true) (ha : PE X y (tE L B W o a)) : PE X (.Call (.Name ("isinstance" : Str) p) [y, z] [] p2) (tE L B W o (.isi a [t])) := by
  obtain ⟨h1, h2, h3⟩ := f.gl hg
  obtain ⟨h4, h5⟩ := pe_tyM f hz
  refine (pe_callB (CallR.or call_isi (call_isXM f)) h1 (f.blt _ isiNm) isiBt (pa_cons ha (pa_cons h4 pa_nil (okE_star h5 _ _)) (okE_star hy _ _)) h3 h2 (okE_star hy _ _) (allOk_any (by simp [h5]))).imp fun σ H Q h => ?_
  exact tE1 (f := fun x st1 => ER.opt ((isiV o.sup [t] st1 x).map fun t => .dat (.bl t)) st1) (R := fun x H Q => rIsi X.K [x, tyV L t] H Q ∨ rIsX X.K L o B [x, tyV L t] H Q) (fun E st => by rw [evE]) (fun {m0 F0 H0 m F H E st σ Q v x Hx} X0 S r h => isi_R f (tyM_lt hz) X0 S r h) h
theorem pe_isiTM (f : Fx C L o B X W) {ts : List Ty} {y : Expr} {l : List Expr} {k p p2 p3} (hg : glB C ("isinstance" : Str) = true) (hy : okE y = true) (hz : mtTys C ts l = true) (h2 : 2 ≤ ts.length) (h64 : ts.length ≤ 64) (ha : PE X y (tE L B W o a)) :
    PE X (.Call (.Name ("isinstance" : Str) p) [y, .Tuple l k p3] [] p2) (tE L B W o (.isi a ts)) := by
  obtain ⟨h1, h2', h3⟩ := f.gl hg
  obtain ⟨h4, h5⟩ := pa_tysM f hz
  refine (pe_callB call_isiT h1 (f.blt _ isiNm) isiBt (pa_cons ha (pa_cons (pe_tup h4) pa_nil rfl) (okE_star hy _ _)) h3 h2' (okE_star hy _ _) (allOk_any rfl)).imp fun σ H Q h => ?_
  refine tE1 (f := fun x st1 => ER.opt ((isiV o.sup ts st1 x).map fun t => .dat (.bl t)) st1) (R := fun x H Q => (ts.map (tyV L)).length ≤ sizeLine ∧ ∀ p, H p = none → rIsiT X.K [x, .ref p] (upd H p (.tup (ts.map (tyV L)))) Q) (fun E st => by rw [evE]) (fun {m0 F0 H0 m F H E st σ Q v x Hx} X0 S r h => ⟨by rw [List.length_map, sizeLine_eq]; omega, fun p hp => ?_⟩) h
  obtain ⟨b, hb, q⟩ := Post.blO (H := upd H p (.tup (ts.map (tyV L)))) (X0.trans (Ext.fresh hp)) (S.fresh hp) h
  have r' : VRep L m F (upd H p (.tup (ts.map (tyV L)))) E σ Hx v x := r.ext (Ext.fresh hp)
  have hne : ts ≠ [] := fun z => by rw [z] at h2; simp at h2
  have : ∃ d, drf st v.d = some d ∧ tysF o.sup ts d = some b := by
    cases v with
    | xv c fs =>
      simp only [isiV] at hb
      split at hb
      · rename_i t' _
        simp at h2
      · cases hb
    | dat d => cases e : drf st d with | none => simp only [isiV, Val.d, e] at hb; cases hb | some d' => exact ⟨d', e, by simpa only [isiV, Val.d, e, Option.bind_some] using hb⟩
    | new d => cases e : drf st d with | none => simp only [isiV, Val.d, e] at hb; cases hb | some d' => exact ⟨d', e, by simpa only [isiV, Val.d, e, Option.bind_some] using hb⟩
    | bor d => cases e : drf st d with | none => simp only [isiV, Val.d, e] at hb; cases hb | some d' => exact ⟨d', e, by simpa only [isiV, Val.d, e, Option.bind_some] using hb⟩
  obtain ⟨d, e1, e2⟩ := this
  have hl := r'.drf (S.fresh hp) e1
  exact ⟨x, p, ts.map (tyV L), _, ts.map (tyU L), b, rfl, upd_same, paired_tys ts, tys_tyx f.K e2 hne hl, kits_ofD (L := L) e2 (by simp [tyU_val]), q⟩
/-! fields of a caught exception -/
theorem RepF.lookup (hi : ∀ j k, L.nm j = L.nm k → j = k) {k : Nat} {d : D} : ∀ {fs : List (Nat × D)} {fv : List (Str × V)}, RepF L m F H fs fv → fs.lookup k = some d → ∃ v, fv.lookup (L.nm k) = some v ∧ Rep L m F H d v
  | [], [], _, h => by cases h
  | (j, e) :: fs, (x, w) :: fv, r, h => by
    simp only [RepF] at r
    obtain ⟨rfl, r1, r2⟩ := r
    rw [List.lookup_cons] at h ⊢
    by_cases ek : k = j
    · subst ek
      simp at h ⊢
      subst h
      exact r1
    · have e1 : (k == j) = false := by simpa using ek
      have e2 : (L.nm k == L.nm j) = false := by simpa using fun z => ek (hi k j z)
      rw [e1] at h
      rw [e2]
      exact RepF.lookup hi r2 h
  | [], _ :: _, r, h => by simp only [RepF] at r
  | _ :: _, [], r, h => by simp only [RepF] at r
theorem attr_base {e : Expr} {y : Str} {env : PySem.Env} (h : okA e = true) : attributeBase e y env (eval e env) = eval e env := by cases e <;> simp [okA] at h <;> rfl
theorem Look.insF {c : Nat} {fs : List (Nat × D)} {x : V} (h : Look L m F H (.obj c fs) x) : ∃ a dx fv, x = .ref a ∧ H a = some (.ins (L.cad c) dx fv) ∧ RepF L m F H fs fv := h
/-- a field of an instance -/
theorem fldIns (f : Fx C L o B X W) {k : Nat} {y : Str} (hy : L.nm k = y) {pins : List (Addr × Obj)} {s1 : Shared} {Hx : Hp} {v : Val} {x : V} {u : Value} (I1 : Inv X pins σ H s1) (rx : RelV x u) (S : Sim L B m F E st σ H) (r : VRep L m F H E σ Hx v x) (X0 : Ext m0 F0 H0 m F H)
    (hv : ∀ c fs, v ≠ .xv c fs) (h : Post L B W m0 F0 H0 E σ (ER.opt ((fldV o.flds o.cf st v k).map .dat) st) Q) : wpAny (model X.prog X.w) X.A (getAttr u y true) (EP X pins σ Q) X.xe s1 := by
  have e0 : fldV o.flds o.cf st v k = fldO o.cf (Mp.drf st v.d) k := by cases v with | xv c fs => exact absurd rfl (hv c fs) | _ => rfl
  rw [e0] at h
  cases e : Mp.drf st v.d with
  | none => rw [e] at h; exact h.elim
  | some d =>
    rw [e] at h
    cases d <;> simp only [fldO] at h <;> try exact h.elim
    rename_i c fs
    by_cases hk : (o.cf c).contains k = true
    · rw [if_pos hk] at h
      cases el : fs.lookup k with
      | none => rw [el] at h; exact h.elim
      | some d =>
        rw [el] at h
        obtain ⟨hc, hn⟩ := f.oc c k (by simpa using hk)
        obtain ⟨a, dx, fv, rfl, eH, rf⟩ := (r.drf S e).insF
        obtain ⟨z, ez, rz⟩ := rf.lookup f.fi el
        rw [hy] at ez hn
        obtain rfl : u = Value.ref a := rx
        exact getattr_ok I1 eH hc hn ez fun u s2 I2 ru => ⟨z, H, I2, ru, Post.dat X0 S h rz⟩
    · rw [if_neg hk] at h; exact h.elim
theorem pe_fldM (f : Fx C L o B X W) {k : Nat} {e : Expr} {y : Str} {p} (hy : L.nm k = y) (hb : okA e = true) (ha : PE X e (tE L B W o a)) : PE X (.Attribute e y p) (tE L B W o (.fld a k)) := by
  refine ⟨fun pins s σ H Q I ⟨m, F, E, st, S, h⟩ => ?_⟩
  rw [evE] at h
  refine attr_of (attr_base hb) (thn (ha.run pins s σ H _ I (tE_bind Ext.refl S h)) fun u s1 ⟨x, H1, I1, rx, m1, F1, st1, v, X1, X01, S1, r1, h1⟩ => ?_)
  cases v with
  | xv c fs =>
    obtain ⟨i, e1, e2⟩ := r1
    obtain ⟨w, hx1, rfl, ec, hd⟩ := SlR.xc f S1 e1 e2
    obtain rfl : u = Value.ref w.a := rx
    cases el : fldV o.flds o.cf st1 (.xv c fs) k with
    | none => rw [el] at h1; exact h1.elim
    | some d =>
      rw [el] at h1
      simp only [fldV] at el
      split at el
      · rename_i hk
        have hk' : k ∈ o.flds c := by simpa using hk
        have T := f.xk c (f.xf c k hk')
        have TX := T.xf
        have hno := T.no k hk'
        obtain ⟨X0, oe, pn, rfl, hz, vs, hv⟩ := f.xs w hx1
        cases ed : w.d with
        | none =>
          rw [ed] at hd
          subst hd
          cases el
        | some dd =>
          rw [ed] at hd
          obtain ⟨fd, fv, e3, rf⟩ := hd
          obtain ⟨z, ez, rz⟩ := rf.lookup f.fi el
          obtain ⟨ha', _⟩ := I1.pin (w.a, oe) (List.mem_append_left _ List.mem_cons_self)
          obtain ⟨mA, hns, hr⟩ := (show ObjOk _ _ H1 s1.heap dd (.xd fv) from I1.hok dd _ e3)
          obtain ⟨od, ho, hl⟩ := lookIn_ns hns
          rw [hy] at ez hno
          obtain ⟨u, hu, ru⟩ := RelO.some_of (v := z) (o := mA y) (by rw [← ez]; exact hr y)
          have J : PySem.W.InstAt s1.heap w.a oe (L.cad c) (some od) := ⟨ha', by rw [hz.1, ec], by unfold PySem.W.notCls; rw [hv] <;> rfl, by rw [hz.2, ed]; exact ho⟩
          exact HandSPX.exc_get I1.kIn J TX.ga TX.gg TX.exC (PySem.W.findObj_own TX.hdC hno rfl (by rw [hl, hu])) (handed_of ru) ⟨z, H1, I1.tok _, ru, Post.dat X01 S1 h1 rz⟩
      · cases el
  | dat d0 => exact fldIns f hy I1 rx S1 r1 X01 (fun _ _ z => nomatch z) h1
  | new d0 => exact fldIns f hy I1 rx S1 r1 X01 (fun _ _ z => nomatch z) h1
  | bor d0 => exact fldIns f hy I1 rx S1 r1 X01 (fun _ _ z => nomatch z) h1
end
end Mp

end
section
set_option Elab.async false
set_option linter.all false
set_option maxRecDepth 100000
set_option maxHeartbeats 4000000
/-! S13b: methods of built-in types. -/
namespace Mp
open PySem PySem.Spec PyProof.Rows L2
section
variable {C : CC} {L : Lk} {B : Bs} {W : WX} {o : Orc} {X : Cx} {m m0 m1 m2 m' : List Addr} {F F0 F1 F2 F' : Addr → Prop} {H H0 H1 H2 H' : Hp} {E : Env} {st st' : Sto} {σ : L2.St} {Q : V → Hp → Prop} {me a b c : ME} {es : List ME}
theorem okM_base {o : Expr} {m : Str} {env : PySem.Env} (h : okM o = true) : attributeBase o m env (eval o env) = eval o env := by
  cases o <;> try (first | (simp [okM] at h; done) | rfl)
  rename_i f as kws q
  cases f <;> try (first | (simp [okM] at h; done) | rfl)
  cases as with
  | nil => simp [okM] at h
  | cons a as => rfl
theorem rcv_nb {g : BI} {d : Mp.D} (h : rcv g d = true) : d ≠ .bad := by rintro rfl; cases g <;> cases h
theorem bmR {g : BI} (h : tE L B W o (.bm g a es) σ H Q) :
    tE L B W o a σ H fun x H1 => ∃ m F d, Look L m F H1 d x ∧ rcv g d = true ∧ tL L B W o es σ H1 fun xs H2 => ∃ m F ds z, Look L m F H2 d x ∧ RepL L m F H2 ds xs ∧ biF g (d :: ds) = some z ∧ Res L m F H2 z Q := by
  obtain ⟨m, F, E, st, S, h⟩ := h
  rw [evE] at h
  refine tE.mono (fun x H1 ⟨m1, F1, st1, v, X1, X01, S1, r1, h1⟩ => ?_) (tE_bind Ext.refl S h)
  cases hr : rcv g v.d with
  | false => rw [hr] at h1; exact h1.elim
  | true =>
    rw [hr, if_pos rfl] at h1
    refine ⟨m1, F1, v.d, r1.lk S1 (rcv_nb hr), hr, ?_⟩
    refine tL.mono (fun xs H2 ⟨m2, F2, st2, vs, X2, X02, S2, r2, e2, h2⟩ => ?_) (tL_bind Ext.refl S1 (Post.at X01 h1))
    obtain ⟨ds, F', ek, X', S', r', h3⟩ := Post.kpl (f := fun ds st => ER.opt (biF g (v.d :: ds)) st) X02 S1 S2 r2 (by
      cases e : kpL vs with
      | none => rw [e] at h2; exact h2
      | some ds => rw [e] at h2; exact h2)
    obtain ⟨z, ez, R⟩ := Post.resO X' S' h3
    exact ⟨m2, F', ds, z, (r1.ext X').lk S' (rcv_nb hr), r', ez, R⟩
theorem RepL.two_inv {d e : Mp.D} {vs : List V} (h : RepL L m F H [d, e] vs) : ∃ x y, vs = [x, y] ∧ Rep L m F H d x ∧ Rep L m F H e y := by
  cases vs with
  | nil => simp only [RepL] at h
  | cons x vs =>
    simp only [RepL] at h
    obtain ⟨y, rfl, h2⟩ := RepL.one_inv h.2
    exact ⟨x, y, rfl, h.1, h2⟩
theorem getR {k x : Mp.D} {kvs : List (Mp.D × Mp.D)} {y : V} {z : V} {p : V} (hl : Look L m F H (.dct kvs) p) (hk : isKey k = true) (rk : Rep L m F H k y) (rx : Rep L m F H x z) (R : Res L m F H (.dat ((dGet k kvs).getD x)) Q) :
    ∃ a, p = .ref a ∧ ∃ ov, DGet H a y ov ∧ Q (ov.getD z) H := by
  obtain ⟨a, ks, rfl, e1, r, hz⟩ := hl
  obtain ⟨q, hq⟩ := keyOf_some hk
  refine ⟨a, rfl, valV ks q, dget_of hq (keyOf_kV hq (Rep.look rk)) e1, R.v _ ?_⟩
  have := dGet_rep hq r
  cases e : dGet k kvs with
  | none => rw [e] at this; simp only at this; rw [this]; simpa [ResV] using rx
  | some d => rw [e] at this; obtain ⟨v, e2, rv⟩ := this; rw [e2]; simpa [ResV] using rv
theorem pe_get1M (f : Fx C L o B X W) {e1 e2 : Expr} {p q : Pos} (ho : okM e1 = true) (hp : (p.endLine == q.line) = true) (he : okE e2 = true) (ha : PE X e1 (tE L B W o a)) (hb : PE X e2 (tE L B W o b)) : PE X (.Call (.Attribute e1 ("get" : Str) p) [e2] [] q) (tE L B W o (.bm .get1 a [b])) := by
  refine (pe_dget1 (by have := f.hu4; omega) ha hb ⟨okM_base ho, by rw [okE_star he]; rfl, hp, by rw [okE_star he]; rfl⟩).imp fun σ H Q h => ?_
  refine tE.mono (fun x H1 ⟨m, F, d, hl, hr, h2⟩ => ?_) (bmR h)
  cases d <;> try (cases hr; done)
  rename_i kvs
  obtain ⟨a1, ks, rfl, e1', r, hz⟩ := hl
  refine ⟨a1, rfl, .inl ⟨ks, e1'⟩, ?_⟩
  refine tE.mono (fun y H2 h3 => ?_) (tL_cons h2)
  obtain ⟨m2, F2, ds, z, hl2, r2, ez, R⟩ := tL_nil h3
  cases ds with
  | nil => simp only [RepL] at r2
  | cons k ds =>
    simp only [RepL] at r2
    obtain ⟨rk, r3⟩ := r2
    cases ds with
    | cons => simp only [RepL] at r3
    | nil =>
      simp only [biF] at ez
      split at ez
      · rename_i hk
        cases ez
        obtain ⟨a2, e2', ov, g, q'⟩ := getR (z := .non) hl2 hk rk (by simp only [Rep]) R
        cases e2'
        exact ⟨ov, g, q'⟩
      · cases ez
theorem pe_get2M (f : Fx C L o B X W) {e1 e2 e3 : Expr} {p q : Pos} (ho : okM e1 = true) (hp : (p.endLine == q.line) = true) (he : okE e2 = true) (he3 : okE e3 = true) (ha : PE X e1 (tE L B W o a)) (hb : PE X e2 (tE L B W o b)) (hc : PE X e3 (tE L B W o c)) :
    PE X (.Call (.Attribute e1 ("get" : Str) p) [e2, e3] [] q) (tE L B W o (.bm .get2 a [b, c])) := by
  refine (pe_dget2 (by have := f.hu4; omega) ha hb hc ⟨okM_base ho, by rw [okE_star he, okE_star he3]; rfl, hp, by rw [okE_star he, okE_star he3]; rfl⟩).imp fun σ H Q h => ?_
  refine tE.mono (fun x H1 ⟨m, F, d, hl, hr, h2⟩ => ?_) (bmR h)
  cases d <;> try (cases hr; done)
  rename_i kvs
  obtain ⟨a1, ks, rfl, e1', r, hz⟩ := hl
  refine ⟨a1, rfl, .inl ⟨ks, e1'⟩, ?_⟩
  refine tE.mono (fun y H2 h3 => tE.mono (fun w H3 h4 => ?_) (tL_cons h3)) (tL_cons h2)
  obtain ⟨m2, F2, ds, z, hl2, r2, ez, R⟩ := tL_nil h4
  match ds, r2 with
  | [k, x], r2 =>
    simp only [RepL] at r2
    simp only [biF] at ez
    split at ez
    · rename_i hk
      cases ez
      obtain ⟨a2, e2', ov, g, q'⟩ := getR (z := w) hl2 hk r2.1 r2.2.1 R
      cases e2'
      exact ⟨ov, g, q'⟩
    · cases ez
  | [], r2 => simp only [RepL] at r2
  | [_], r2 => simp [RepL] at r2
  | _ :: _ :: _ :: _, r2 => simp [RepL] at r2
theorem toPDL_get : ∀ {xs : List Mp.D} {j : Nat}, (toPDL xs)[j]? = (xs[j]?).map toPD
  | [], j => by simp [toPDL]
  | x :: xs, 0 => by simp [toPDL]
  | x :: xs, j + 1 => by simp only [toPDL, List.getElem?_cons_succ]; exact toPDL_get
theorem allPd_L {xs : List Mp.D} (h : allPd xs = true) : pdL xs pdMax = true := by
  induction xs with
  | nil => rfl
  | cons x xs ih =>
    unfold allPd at h ih
    rw [List.all_cons, Bool.and_eq_true] at h
    simp only [pdL, Bool.and_eq_true]
    exact ⟨h.1, ih h.2⟩
theorem pe_indexM (f : Fx C L o B X W) {e1 e2 : Expr} {p q : Pos} (ho : okM e1 = true) (hp : (p.endLine == q.line) = true) (he : okE e2 = true) (ha : PE X e1 (tE L B W o a)) (hb : PE X e2 (tE L B W o b)) : PE X (.Call (.Attribute e1 ("index" : Str) p) [e2] [] q) (tE L B W o (.bm .index a [b])) := by
  refine (pe_bm (T := "list") PySem.F.plainAttrs_list PySem.F.slot_list_index PySem.F.type_list_index (mt_indexD (by have := f.hu; omega)) ha (pa_cons hb pa_nil (okE_star he _ _)) (okM_base ho) (by rw [okE_star he]; rfl) hp (okE_star he _ _) rfl).imp fun σ H Q h => ?_
  refine tE.mono (fun x H1 ⟨m, F, d, hl, hr, h2⟩ => ?_) (bmR h)
  cases d <;> try (cases hr; done)
  rename_i xs
  obtain ⟨a1, vs, rfl, e1', r, hz⟩ := hl
  refine ⟨.inl ⟨rfl, vs, .inl (.inl e1')⟩, ?_⟩
  refine tE.mono (fun y H2 h3 => ?_) (tL_cons h2)
  obtain ⟨m2, F2, ds, z, hl2, r2, ez, R⟩ := tL_nil h3
  match ds, r2 with
  | [k], r2 =>
    simp only [RepL] at r2
    have ez : ((indexD k xs).map fun (k : Nat) => Val.dat (.int k)) = some z := by
      cases k <;> exact ez
    simp only [Option.map_eq_some_iff] at ez
    obtain ⟨j, hj, rfl⟩ := ez
    unfold indexD at hj
    split at hj
    · rename_i hk
      rw [Bool.and_eq_true] at hk
      obtain ⟨p1, hk2⟩ := hk
      obtain ⟨a2, vs2, e2', e3, r3, hz2⟩ := hl2
      cases e2'
      have dpx : Dp X.K H2 (.ref a1) (.list (toPDL xs)) := .lst (.of e3) (f.K ▸ dp_ofL xs _ vs2 (allPd_L hk2) r3)
      have dpk : Dp X.K H2 y (toPD k) := f.K ▸ dp_of k _ y p1 r2.1
      rw [List.findIdx?_eq_some_iff_getElem] at hj
      obtain ⟨hlt, h1, h2'⟩ := hj
      have sx : SeqAt.shaped (.list (toPDL xs)) = true := by
        unfold SeqAt.shaped
        have q1 := lay_ofL xs _ vs2 (allPd_L hk2) r3
        have q2 := dep_ofL xs _ (allPd_L hk2)
        unfold pdMax at q2
        rw [show PyData.canLay0 (.list (toPDL xs)) = PyData.canLayAll0 (toPDL xs) by simp only [PyData.canLay0], q1]
        simp only [PyData.depth, Bool.true_and]
        exact decide_eq_true (by omega)
      refine ⟨a1, y, toPD k, toPDL xs, j, toPD xs[j], rfl, rfl, dpx, dpk, sx, shaped_of p1 (Rep.look r2.1), ?_, ?_, ?_, R.int⟩
      · rw [toPDL_get, List.getElem?_eq_getElem hlt]; rfl
      · rw [eqv_of _ pdMax _ pdMax (List.all_eq_true.mp hk2 _ (List.getElem_mem hlt)) p1]; exact h1
      · intro m z' hm hz'
        rw [toPDL_get] at hz'
        obtain ⟨d, hd, rfl⟩ := Option.map_eq_some_iff.mp hz'
        have hml := (List.getElem?_eq_some_iff.mp hd).1
        have hmd : xs[m] = d := (List.getElem?_eq_some_iff.mp hd).2
        rw [eqv_of _ pdMax _ pdMax (List.all_eq_true.mp hk2 _ (List.mem_of_getElem? hd)) p1]
        have := h2' m hm
        rw [hmd] at this
        simpa using this
    · cases hj
  | [], r2 => simp only [RepL] at r2
  | _ :: _ :: _, r2 => simp [RepL] at r2
theorem strs_rep : ∀ {ds : List Mp.D} {vs : List V} {ss : List (List Nat)}, RepL L m F H ds vs → strs? ds = some ss → vs = (ss.map strV).map V.str ∧ ∀ s ∈ ss, ∀ c ∈ s, c < 1114112
  | [], [], ss, _, h => by
    simp only [strs?, Option.some.injEq] at h
    subst h
    exact ⟨rfl, fun s hs => by simp at hs⟩
  | d :: ds, v :: vs, ss, r, h => by
    simp only [RepL] at r
    cases d <;> simp only [strs?] at h <;> try contradiction
    rename_i s
    obtain ⟨ss', h2, rfl⟩ := Option.map_eq_some_iff.mp h
    obtain ⟨e, ok⟩ := strs_rep r.2 h2
    have r1 := r.1
    simp only [Rep] at r1
    refine ⟨by rw [e, r1.1]; rfl, fun t ht => ?_⟩
    rcases List.mem_cons.mp ht with h3 | h3
    · rw [h3]; exact r1.2.2
    · exact ok t h3
  | [], _ :: _, _, r, _ => by simp only [RepL] at r
  | _ :: _, [], _, r, _ => by simp only [RepL] at r
theorem joinS_eq (sep : List Nat) : ∀ ss : List (List Nat), joinS sep ss = TL.joinL sep ss
  | [] => rfl
  | [_] => rfl
  | x :: y :: r => by
    show x ++ sep ++ joinS sep (y :: r) = x ++ (sep ++ TL.joinL sep (y :: r))
    rw [joinS_eq sep (y :: r), List.append_assoc]
theorem join_strV (sep : List Nat) (ss : List (List Nat)) : Txt.join (strV sep) (ss.map strV) = strV (joinS sep ss) := by
  rw [TL.join_eq]
  refine Str.ext' (Array.toList_inj.mp ?_)
  have := TL.tl_join (strV sep) (ss.map strV)
  rw [joinS_eq]
  show TL.tl _ = _
  rw [this]
  have e1 : TL.tl (strV sep) = sep := by simp [TL.tl, strV]
  have e2 : (ss.map strV).map TL.tl = ss := by
    rw [List.map_map]
    conv => rhs; rw [← List.map_id ss]
    refine List.map_congr_left fun x _ => ?_
    simp [TL.tl, strV]
  rw [e1, e2]
  simp [strV]
theorem joinS_len (sep : List Nat) : ∀ ss : List (List Nat), (ss.map List.length).sum + ss.length * sep.length ≤ (joinS sep ss).length + sep.length
  | [] => by simp
  | [x] => by simp [joinS]
  | x :: y :: r => by
    have := joinS_len sep (y :: r)
    simp only [joinS, List.map_cons, List.sum_cons, List.length_cons, List.length_append, Nat.add_mul] at this ⊢
    omega
theorem joinS_ok (sep : List Nat) (h : ∀ c ∈ sep, c < 1114112) : ∀ ss : List (List Nat), (∀ s ∈ ss, ∀ c ∈ s, c < 1114112) → ∀ c ∈ joinS sep ss, c < 1114112
  | [], _, c, hc => by simp [joinS] at hc
  | [x], hs, c, hc => hs x (by simp) c hc
  | x :: y :: r, hs, c, hc => by
    have hc : c ∈ x ++ sep ++ joinS sep (y :: r) := hc
    rcases List.mem_append.mp hc with h1 | h1
    · rcases List.mem_append.mp h1 with h2 | h2
      · exact hs x (by simp) c h2
      · exact h c h2
    · exact joinS_ok sep h (y :: r) (fun s hs' => hs s (List.mem_cons_of_mem _ hs')) c h1
theorem pe_joinM (f : Fx C L o B X W) {e1 e2 : Expr} {p q : Pos} (ho : okM e1 = true) (hp : (p.endLine == q.line) = true) (he : okE e2 = true) (ha : PE X e1 (tE L B W o a)) (hb : PE X e2 (tE L B W o b)) : PE X (.Call (.Attribute e1 ("join" : Str) p) [e2] [] q) (tE L B W o (.bm .join a [b])) := by
  refine (pe_join ha hb (by rw [okE_star he] <;> rfl) (okM_base ho) hp).imp fun σ H Q h => ?_
  refine tE.mono (fun x H1 ⟨m, F, d, hl, hr, h2⟩ => ?_) (bmR h)
  cases d <;> try (cases hr; done)
  rename_i sep
  have hl0 := hl
  simp only [Look, Rep] at hl0
  obtain ⟨rfl, hz, hok⟩ := hl0
  refine ⟨⟨_, rfl⟩, ?_⟩
  refine tE.mono (fun y H2 h3 => ?_) (tL_cons h2)
  obtain ⟨m2, F2, ds, z, hl2, r2, ez, R⟩ := tL_nil h3
  match ds, r2 with
  | [k], r2 =>
    simp only [RepL] at r2
    have ez : (((seqOf k).bind strs?)).bind (fun ss => if (joinS sep ss).length ≤ szMax then some (Val.dat (.str (joinS sep ss))) else none) = some z := by
      cases k <;> exact ez
    cases e1 : seqOf k with
    | none => rw [e1] at ez; cases ez
    | some xs =>
      rw [e1, Option.bind_some] at ez
      cases e2 : strs? xs with
      | none => rw [e2] at ez; cases ez
      | some ss =>
        rw [e2, Option.bind_some] at ez
        split at ez
        · rename_i hlen
          cases ez
          have fin : ∀ (p : Addr) (vs : List V), y = .ref p → (SqL X.K H2 p vs ∨ SqT X.K H2 p vs) → RepL L m2 F2 H2 xs vs → ∃ a p, ∃ ys : List Str, (V.str (strV sep)) = .str a ∧ [y] = [.ref p] ∧ (SqL X.K H2 p (ys.map V.str) ∨ SqT X.K H2 p (ys.map V.str)) ∧
              (ys.map (·.length)).sum + ys.length * a.length ≤ 16777216 ∧ Q (.str (Txt.join a ys)) H2 := fun p vs ey hs r => by
            obtain ⟨ev, ok⟩ := strs_rep r e2
            refine ⟨strV sep, p, ss.map strV, rfl, by rw [ey], by rw [← ev]; exact hs, ?_, ?_⟩
            · have := joinS_len sep ss
              rw [List.map_map, List.length_map, strV_len]
              have e3 : (ss.map ((fun x : Str => x.length) ∘ strV)) = ss.map List.length := List.map_congr_left fun x _ => strV_len x
              rw [e3]
              unfold szMax at hlen hz
              omega
            · rw [join_strV]
              refine R.v _ ?_
              simp only [ResV, Rep]
              exact ⟨trivial, hlen, joinS_ok sep hok ss ok⟩
          cases k <;> simp only [seqOf] at e1 <;> try contradiction
          · cases e1
            obtain ⟨p, vs, ey, h5, r5, _⟩ := (Rep.look r2.1).sqT f.K
            exact fin p vs ey (.inr h5) r5
          · cases e1
            obtain ⟨p, vs, ey, h5, r5, _⟩ := (Rep.look r2.1).sqL f.K
            exact fin p vs ey (.inl h5) r5
        · cases ez
  | [], r2 => simp only [RepL] at r2
  | _ :: _ :: _, r2 => simp [RepL] at r2
theorem pe_dct0M {pos : Pos} : PE X (.Dict [] [] pos) (tE L B W o (.dct [] [])) := by
  refine pe_dnewK.imp fun σ H Q ⟨m, F, E, st, S, h⟩ => fun p hp => ?_
  have h : Post L B W m F H E σ (ER.opt (some (Val.new (.dct []))) st) Q := by
    have e : evE o (.dct [] []) E st = ER.opt (some (Val.new (.dct []))) st := by simp [evE, evL, ER.bind, kpL, dOfL]
    rw [e] at h; exact h
  obtain ⟨z, ez, R⟩ := Post.resO Ext.refl S h
  cases ez
  exact R.n p _ hp ⟨_, rfl, by simp only [RepK], by simp [szMax]⟩
theorem pe_revM (f : Fx C L o B X W) {e : Expr} {k : Nat} {p1 p2 p3 pos : Pos} (ha : PE X e (tE L B W o a)) : PE X (.Subscript e (.Slice none none (some (.UnaryOp .USub (.Constant (.int 1) k p1) p2)) p3) pos) (tE L B W o (.rev a)) := by
  refine (pe_revL ha).imp fun σ H Q ⟨m, F, E, st, S, h⟩ => ?_
  rw [evE] at h
  refine tE.mono (fun x H1 ⟨m1, F1, st1, v, X1, X01, S1, r1, h1⟩ => ?_) (tE_bind Ext.refl S h)
  obtain ⟨z, ez, R⟩ := Post.resO X01 S1 h1
  cases ed : drf st1 v.d with
  | none => rw [ed] at ez; cases ez
  | some d =>
    rw [ed, Option.bind_some] at ez
    have hl := r1.drf S1 ed
    cases d <;> simp only [revF] at ez <;> try contradiction
    cases ez
    obtain ⟨q, vs, rfl, h2, r, hz⟩ := hl.sqL f.K
    exact ⟨q, vs, rfl, h2, fun l hl => R.n l _ hl ⟨_, rfl, r.rev, by rw [List.length_reverse]; exact hz⟩⟩
end
end Mp

end
section
set_option Elab.async false
set_option linter.all false
set_option maxRecDepth 100000
set_option maxHeartbeats 4000000
/-! S14: cells, targets, walks. -/
namespace Mp
open PySem PySem.Spec PyProof.Rows L2
section
variable {C : CC} {L : Lk} {B : Bs} {W : WX} {o : Orc} {X : Cx} {m m0 m1 m2 m' : List Addr} {F F0 F1 F2 F' : Addr → Prop} {H H0 H1 H2 H' : Hp} {E : Env} {st st' : Sto} {σ : L2.St} {Q : V → Hp → Prop} {me a b c : ME} {es : List ME}
theorem Ext.cell {p : Addr} (X1 : Ext m0 F0 H0 m F H) (hp : H0 p = none) : Ext m0 F0 H0 (m ++ [p]) F H := by
  obtain ⟨l, rfl, hl⟩ := X1.mp
  refine ⟨⟨l ++ [p], by rw [List.append_assoc], fun a ha => ?_⟩, X1.fm, X1.fn, X1.kp, X1.st, X1.tr⟩
  rcases List.mem_append.mp ha with h | h
  · exact hl a h
  · have e : a = p := by simpa using h
    subst e
    exact hp
theorem Mono.cell {p : Addr} : Mono m F H (m ++ [p]) F H := ⟨fun n a h => by rw [List.getElem?_append_left (List.getElem?_eq_some_iff.mp h).1]; exact h, fun _ h => h, fun _ _ => Stay.refl⟩
theorem Sim.cell {p : Addr} {d : D} (S : Sim L B m F E st σ H) (r : ORep L m F H p d) (nf : ¬ F p) (nm : p ∉ m) (hb : B.H p = none) (ho : ∀ i, ¬ OwnAt E σ i p) : Sim L B (m ++ [p]) F E (st ++ [d]) σ H := by
  have M : Mono m F H (m ++ [p]) F H := Mono.cell
  refine ⟨⟨fun n e h => ?_, by simp [S.wd.ln], ?_, fun a f => ⟨(S.wd.ft a f).1, fun z => ?_⟩⟩, S.ex.cell hb, fun i v e => ?_, S.ln, S.ij⟩
  · by_cases hn : n < st.length
    · rw [List.getElem?_append_left hn] at h
      obtain ⟨a, e1, r1⟩ := S.wd.ce n e h
      exact ⟨a, M.mp n a e1, r1.mono M fun o q => q⟩
    · rw [List.getElem?_append_right (by omega)] at h
      have en : n - st.length = 0 := by
        have := (List.getElem?_eq_some_iff.mp h).1
        simp at this
        omega
      rw [en] at h
      simp at h
      subst h
      have en : n = m.length := by rw [S.wd.ln]; omega
      subst en
      exact ⟨p, by simp, r.mono M fun o q => q⟩
  · rw [List.nodup_append]
    exact ⟨S.wd.nd, by simp, fun a ha b hb e => by simp at hb; subst hb; subst e; exact nm ha⟩
  · rcases List.mem_append.mp z with z | z
    · exact (S.wd.ft a f).2 z
    · have e : a = p := by simpa using z
      subst e
      exact nf f
  · obtain ⟨x, e1, r1⟩ := S.sl i v e
    refine ⟨x, e1, ?_⟩
    cases v with
    | dat d => exact Rep.mono M _ _ r1
    | new d =>
      obtain ⟨a, rfl, r1, nf1, nm1, n0⟩ := r1
      refine ⟨a, rfl, r1.mono M fun o q => q, nf1, fun z => ?_, n0⟩
      rcases List.mem_append.mp z with z | z
      · exact nm1 z
      · have ea : a = p := by simpa using z
        subst ea
        exact ho i ⟨⟨d, e⟩, e1⟩
    | bor d => exact r1
    | xv c fs => obtain ⟨q, e, e2, e3, r1⟩ := r1; exact ⟨q, e, e2, e3, r1.mono M⟩
theorem tE_cell (h : tE L B W o (.cell a) σ H Q) : tE L B W o a σ H Q := by
  obtain ⟨m, F, E, st, S, h⟩ := h
  rw [evE] at h
  refine tE.mono (fun x H1 ⟨m1, F1, st1, v, X1, X01, S1, r1, h1⟩ => ?_) (tE_bind Ext.refl S h)
  cases v with
  | new d =>
    obtain ⟨p, rfl, r, nf, nm, n0⟩ := r1
    have G := S.beg
    refine h1 (m1 ++ [p]) F1 _ H1 (X01.cell n0) (S1.cell r nf nm (G.tr p n0) fun i q => G.ow i p q n0) ?_
    show Rep L (m1 ++ [p]) F1 H1 (.ref st1.length) (.ref p)
    simp only [Rep]
    exact ⟨p, rfl, by rw [← S1.wd.ln]; simp⟩
  | _ => exact h1.elim

/-! targets of data -/
def setV : List (Nat × V) → L2.St → L2.St
  | [], σ => σ
  | (i, v) :: r, σ => setV r (σ.set i (some v))
def PairA (L : Lk) (m : List Addr) (F : Addr → Prop) (H : Hp) : List (Nat × D) → List (Nat × V) → Prop
  | [], [] => True
  | (i, d) :: r, (j, v) :: s => j = i ∧ Rep L m F H d v ∧ PairA L m F H r s
  | _, _ => False
theorem PairA.append : ∀ {l l2 : List (Nat × D)} {k k2 : List (Nat × V)}, PairA L m F H l k → PairA L m F H l2 k2 → PairA L m F H (l ++ l2) (k ++ k2)
  | [], _, [], _, _, h => h
  | _ :: _, _, _ :: _, _, h, g => ⟨h.1, h.2.1, PairA.append h.2.2 g⟩
theorem setV_app : ∀ (k k2 : List (Nat × V)) (σ : L2.St), setV (k ++ k2) σ = setV k2 (setV k σ)
  | [], _, _ => rfl
  | (_, _) :: k, k2, σ => by simp only [List.cons_append, setV]; exact setV_app k k2 _
def tgP (K : PySem.W.Frag) (p : Pat) : TG := fun v σ H Q => ∃ L m F d l, L.K = K ∧ Rep L m F H d v ∧ patA p d = some l ∧ ∀ vl, PairA L m F H l vl → Q (setV vl σ) H
def tgPL (K : PySem.W.Frag) (ps : List Pat) : TGs := fun vs σ H Q => ∃ L m F ds l, L.K = K ∧ RepL L m F H ds vs ∧ patAL ps ds = some l ∧ ∀ vl, PairA L m F H l vl → Q (setV vl σ) H
theorem okE_asg {e : Expr} (h : okE e = true) (es : List Expr) (env : PySem.Env) : assignEach (e :: es) env = (false, assign e env) :: assignEach es env := by cases e <;> simp [okE] at h <;> rfl
theorem asg_okL {es : List Expr} {env : PySem.Env} (h : es.all okE = true) : (assignEach es env).length = es.length ∧ (assignEach es env).findIdx? (·.1) = none := by
  induction es with
  | nil => exact ⟨rfl, rfl⟩
  | cons e es ih =>
    rw [List.all_cons, Bool.and_eq_true] at h
    rw [okE_asg h.1]
    obtain ⟨h1, h2⟩ := ih h.2
    refine ⟨by simp [h1], ?_⟩
    rw [List.findIdx?_cons, h2]
    rfl
theorem patAL_len : ∀ {ps : List Pat} {ds : List D} {l}, patAL ps ds = some l → ps.length = ds.length
  | [], [], _, _ => rfl
  | [], _ :: _, _, h => by simp [patAL] at h
  | _ :: _, [], _, h => by simp [patAL] at h
  | p :: ps, d :: ds, l, h => by
    simp only [patAL] at h
    cases e1 : patA p d with
    | none => rw [e1] at h; cases h
    | some a =>
      cases e2 : patAL ps ds with
      | none => rw [e1, e2] at h; cases h
      | some b => simp [patAL_len e2]
/-- what storing asks of the context -/
structure StX (C : CC) (X : Cx) : Prop where
  N : X.N = C.N
  nd : C.N.Nodup
  sc : X.env.scope = C.sc
  fl : C.fl = true → ∀ x, X.fn x = true
  calm : X.calm = true
theorem mtPL_len {C : CC} : ∀ {ps : List Pat} {es : List Expr}, mtPL C ps es = true → ps.length = es.length ∧ es.all okE = true
  | [], [], _ => ⟨rfl, rfl⟩
  | [], _ :: _, h => by simp [mtPL] at h
  | _ :: _, [], h => by simp [mtPL] at h
  | p :: ps, e :: es, h => by
    simp only [mtPL, Bool.and_eq_true] at h
    obtain ⟨h1, h2⟩ := mtPL_len h.2
    exact ⟨by simp [h1], by simp [h.1.1, h2]⟩
theorem PairA.split : ∀ {l l2 : List (Nat × D)} {k : List (Nat × V)}, PairA L m F H (l ++ l2) k → ∃ k1 k2, k = k1 ++ k2 ∧ PairA L m F H l k1 ∧ PairA L m F H l2 k2
  | [], _, k, h => ⟨[], k, rfl, trivial, h⟩
  | (i, d) :: l, l2, (j, v) :: k, h => by
    obtain ⟨k1, k2, rfl, h1, h2⟩ := PairA.split h.2.2
    exact ⟨(j, v) :: k1, k2, rfl, ⟨h.1, h.2.1, h1⟩, h2⟩
  | _ :: _, _, [], h => h.elim
mutual
theorem pgM (f : StX C X) : ∀ {p : Pat} {e : Expr}, mtP C p e = true → PG X e (tgP X.K p)
  | .v i, e, h => by
    unfold mtP at h
    split at h
    · rename_i x pos
      rw [Bool.and_eq_true, decide_eq_true_eq] at h
      have hl : Loc X.env.scope x ∧ (X.fn x = true ∨ X.env.scope.names.lookup x = some .local) := by
        rw [f.sc]
        have h2 := h.2
        split at h2
        · rename_i e; exact ⟨.inl e, .inr e⟩
        · rename_i e; exact ⟨.inr e, .inl (f.fl h2 x)⟩
        · cases h2
      have g := pg_name (X := X) (pos := pos) (i := i) (by rw [f.N]; exact f.nd) (by rw [f.N]; exact h.1) hl.1 hl.2
      refine ⟨fun pins s σ H v u Q I r ⟨L, m, F, d, l, _, rd, hp, hq⟩ => g.run pins s σ H v u Q I r ?_⟩
      simp only [patA, Option.some.injEq] at hp
      subst hp
      exact hq [(i, v)] ⟨rfl, rd, trivial⟩
    · cases h
  | .t ps, e, h => by
    unfold mtP at h
    split at h
    · rename_i es k pos
      obtain ⟨h1, h2⟩ := mtPL_len h
      have g := pg_tup (X := X) (k := k) (pos := pos) f.calm (pgLM f h) (asg_okL h2).1 (asg_okL h2).2
      refine ⟨fun pins s σ H v u Q I r ⟨L, m, F, d, l, eK, rd, hp, hq⟩ => g.run pins s σ H v u Q I r ?_⟩
      unfold patA at hp
      split at hp
      · rename_i ds
        obtain ⟨a, vs, rfl, hs, rl, _⟩ := (Rep.look rd).sqT eK
        exact ⟨a, vs, rfl, hs, by rw [← rl.len, ← patAL_len hp, h1], L, m, F, ds, l, eK, rl, hp, hq⟩
      · cases hp
    · cases h
theorem pgLM (f : StX C X) : ∀ {ps : List Pat} {es : List Expr}, mtPL C ps es = true → PGs X es (tgPL X.K ps)
  | [], [], _ => by
    refine ⟨fun pins s σ H vs us Q I r ⟨L, m, F, ds, l, eK, rl, hp, hq⟩ => pgs_nil.run pins s σ H vs us Q I r ?_⟩
    cases ds with
    | nil =>
      simp only [patAL, Option.some.injEq] at hp
      subst hp
      exact ⟨rl.nil_inv, hq [] trivial⟩
    | cons => simp [patAL] at hp
  | p :: ps, e :: es, h => by
    simp only [mtPL, Bool.and_eq_true] at h
    have g := pgs_cons (pgM f h.1.2) (pgLM f h.2) (by rw [okE_asg h.1.1]; rfl)
    refine ⟨fun pins s σ H vs us Q I r ⟨L, m, F, ds, l, eK, rl, hp, hq⟩ => g.run pins s σ H vs us Q I r ?_⟩
    cases ds with
    | nil => simp [patAL] at hp
    | cons d ds =>
      cases vs with
      | nil => simp only [RepL] at rl
      | cons v vs =>
        simp only [RepL] at rl
        simp only [patAL] at hp
        cases e1 : patA p d with
        | none => rw [e1] at hp; cases hp
        | some l1 =>
          cases e2 : patAL ps ds with
          | none => rw [e1, e2] at hp; cases hp
          | some l2 =>
            rw [e1, e2] at hp
            cases hp
            refine ⟨v, vs, rfl, L, m, F, d, l1, eK, rl.1, e1, fun v1 h1 => ⟨L, m, F, ds, l2, eK, rl.2, e2, fun v2 h2 => ?_⟩⟩
            rw [← setV_app]
            exact hq (v1 ++ v2) (h1.append h2)
  | [], _ :: _, h => by simp [mtPL] at h
  | _ :: _, [], h => by simp [mtPL] at h
end
/-- where a list of stores puts a value -/
theorem setL_get : ∀ {l : List (Nat × D)} {vl : List (Nat × V)} {E E' : Env} {σ : L2.St}, PairA L m F H l vl → setL l E = some E' → E.length = σ.length →
    E'.length = E.length ∧ (setV vl σ).length = σ.length ∧ ∀ i, (i ∈ l.map (·.1) ∧ ∃ d x, E'[i]? = some (some (.dat d)) ∧ (setV vl σ)[i]? = some (some x) ∧ Rep L m F H d x) ∨ (i ∉ l.map (·.1) ∧ E'[i]? = E[i]? ∧ (setV vl σ)[i]? = σ[i]?)
  | [], [], E, E', σ, _, h, hl => by cases h; exact ⟨rfl, rfl, fun i => .inr ⟨by simp, rfl, rfl⟩⟩
  | (j, d) :: l, (k, v) :: vl, E, E', σ, p, h, hl => by
    obtain ⟨rfl, r, p⟩ := p
    simp only [setL] at h
    split at h
    · rename_i hj
      obtain ⟨h1, h2, h3⟩ := setL_get (σ := σ.set k (some v)) p h (by simp [hl])
      refine ⟨by rw [h1]; simp, by simp only [setV]; rw [h2]; simp, fun i => ?_⟩
      simp only [setV, List.map_cons, List.mem_cons]
      rcases h3 i with ⟨h4, h5⟩ | ⟨h4, h5, h6⟩
      · exact .inl ⟨.inr h4, h5⟩
      · by_cases e : i = k
        · subst e
          refine .inl ⟨.inl rfl, d, v, ?_, ?_, r⟩
          · rw [h5, List.getElem?_set_self hj]
          · rw [h6, List.getElem?_set_self (by rw [← hl]; exact hj)]
        · refine .inr ⟨fun z => z.elim e h4, ?_, ?_⟩
          · rw [h5, List.getElem?_set_ne (Ne.symm e)]
          · rw [h6, List.getElem?_set_ne (Ne.symm e)]
    · cases h
  | [], _ :: _, _, _, _, h, _, _ => h.elim
  | _ :: _, [], _, _, _, h, _, _ => h.elim
theorem Sim.pat {l : List (Nat × D)} {vl : List (Nat × V)} {E' : Env} {σ0 : L2.St} (S : Sim L B m F E st σ H) (p : PairA L m F H l vl) (h : setL l E = some E') (hl : σ0.length = σ.length) (he : ∀ i, i ∉ l.map (·.1) → σ0[i]? = σ[i]?) : Sim L B m F E' st (setV vl σ0) H := by
  obtain ⟨h1, h2, h3⟩ := setL_get p h (σ := σ0) (by rw [hl, S.ln])
  refine ⟨S.wd, S.ex, fun i v e => ?_, by rw [h1, h2, S.ln, hl], fun i j a hi hj => ?_⟩
  · rcases h3 i with ⟨_, d, x, e1, e2, r⟩ | ⟨hn, e1, e2⟩
    · rw [e1] at e
      cases e
      exact ⟨x, e2, r⟩
    · rw [e1] at e
      obtain ⟨x, e3, r⟩ := S.sl i v e
      exact ⟨x, by rw [e2, he i hn]; exact e3, r⟩
  · have back : ∀ k, OwnAt E' (setV vl σ0) k a → OwnAt E σ k a := fun k ⟨⟨d, q1⟩, q2⟩ => by
      rcases h3 k with ⟨_, d', x, e1, _⟩ | ⟨hn, e1, e2⟩
      · rw [e1] at q1; cases q1
      · exact ⟨⟨d, by rw [← e1]; exact q1⟩, by rw [← he k hn, ← e2]; exact q2⟩
    exact S.ij i j a (back i hi) (back j hj)
end
end Mp

end
section
set_option Elab.async false
set_option linter.all false
set_option maxRecDepth 100000
set_option maxHeartbeats 4000000
/-! S15: walks, comprehensions. -/
namespace Mp
open PySem PySem.Spec PyProof.Rows L2
/-- an iterator yields the items ds, while kept objects stay and the looked-at ones (O) stay as they are -/
structure ItOk (L : Lk) (m : List Addr) (F : Addr → Prop) (H : Hp) (O : Addr → Prop) (J : It) (ds : List D) : Prop where
  len : ds.length ≤ szMax
  stop : ∀ m' F' H', Mono m F H m' F' H' → (∀ a, O a → ∀ o, H a = some o → H' a = some o) → J.stop ds.length H'
  go : ∀ (i : Nat) (d : D), ds[i]? = some d → ∀ m' F' H', Mono m F H m' F' H' → (∀ a, O a → ∀ o, H a = some o → H' a = some o) →
    J.go i H' ∧ ∀ x H2, J.yld i H' x H2 → (H2 = H' ∧ Rep L m' F' H' d x) ∨ ∃ p es vs, H' p = none ∧ H2 = upd H' p (.tup vs) ∧ x = .ref p ∧ d = .tup es ∧ RepL L m' F' H' es vs ∧ es.length ≤ szMax
def OwnS (k : Bool) (E : Env) (σ : L2.St) (a : Addr) : Prop := k = false ∧ ∃ i, OwnAt E σ i a
def PostI (L : Lk) (B : Bs) (W : WX) (k : Bool) (m : List Addr) (F : Addr → Prop) (H : Hp) (E : Env) (σ : L2.St) (r : ER (List D)) (R : It → Hp → Prop) : Prop :=
  match r with
  | .ok ds st => ∀ m' F' J H', Ext m F H m' F' H' → Sim L B m' F' E st σ H' → ItOk L m' F' H' (OwnS k E σ) J ds → R J H'
  | .ex xc st => ∀ m' F' H' cls d, Ext m F H m' F' H' → Sim L B m' F' E st σ H' → XRep L m' F' H' xc.c xc.fs cls d → W cls d σ H'
  | .bad => False
def tI (L : Lk) (B : Bs) (W : WX) (o : Orc) (k : Bool) (it : MI) : TI := fun σ H R => ∃ m F E st, Sim L B m F E st σ H ∧ PostI L B W k m F H E σ (evI o k it E st) R
section
variable {C : CC} {L : Lk} {B : Bs} {W : WX} {o : Orc} {X : Cx} {m m0 m1 m2 m' : List Addr} {F F0 F1 F2 F' : Addr → Prop} {H H0 H1 H2 H' : Hp} {E : Env} {st st' : Sto} {σ : L2.St} {Q : V → Hp → Prop} {R : It → Hp → Prop} {me a b c : ME} {es : List ME} {k : Bool}
theorem tI_bind {f : Val → Sto → ER (List D)} (X : Ext m0 F0 H0 m F H) (S : Sim L B m F E st σ H) (h : PostI L B W k m0 F0 H0 E σ ((evE o me E st).bind f) R) :
    tE L B W o me σ H (fun x H1 => ∃ m1 F1 st1 v, Ext m F H m1 F1 H1 ∧ Ext m0 F0 H0 m1 F1 H1 ∧ Sim L B m1 F1 E st1 σ H1 ∧ VRep L m1 F1 H1 E σ H v x ∧ PostI L B W k m0 F0 H0 E σ (f v st1) R) := by
  refine ⟨m, F, E, st, S, ?_⟩
  cases e : evE o me E st with
  | ok v st1 =>
    rw [e] at h
    exact fun m1 F1 x H1 a b c => ⟨m1, F1, st1, v, a, X.trans a, b, c, h⟩
  | ex xc st1 =>
    rw [e] at h
    exact fun m1 F1 H1 cls d a b c => h m1 F1 H1 cls d (X.trans a) b c
  | bad =>
    rw [e] at h
    exact h
/-- data that is walked over -/
def Wk (L : Lk) (m : List Addr) (F : Addr → Prop) (H : Hp) (O : Addr → Prop) : D → V → Prop
  | .lst xs, v => ∃ a vs, v = .ref a ∧ (F a ∨ O a) ∧ H a = some (.lst vs) ∧ RepL L m F H xs vs ∧ xs.length ≤ szMax
  | .tup xs, v => Rep L m F H (.tup xs) v
  | .str s, v => Rep L m F H (.str s) v
  | _, _ => False
theorem sqT_inj {pins : List (Addr × Obj)} {s : Shared} {p : Addr} {xs ys : List V} (I : Inv X pins σ H s) (h : SqT X.K H p xs) (g : SqT X.K H p ys) : xs = ys := I.tuple_inj h g
theorem PostI.wk {v : Val} {x : V} (X0 : Ext m0 F0 H0 m1 F1 H1) (S0 : Sim L B m0 F0 E st σ H0) (S : Sim L B m1 F1 E st' σ H1) (r : VRep L m1 F1 H1 E σ H0 v x)
    (h : PostI L B W k m0 F0 H0 E σ (ER.opt ((v.it k).bind itemsOf) st') R) :
    ∃ d ds F', v.it k = some d ∧ itemsOf d = some ds ∧ Ext m0 F0 H0 m1 F' H1 ∧ Sim L B m1 F' E st' σ H1 ∧ Wk L m1 F' H1 (OwnS k E σ) d x ∧ PostI L B W k m0 F0 H0 E σ (.ok ds st') R := by
  cases e : v.it k with
  | none => rw [e] at h; exact h.elim
  | some d =>
    rw [e] at h
    cases e2 : itemsOf d with
    | none => simp only [Option.bind_some, e2] at h; exact h.elim
    | some ds =>
      simp only [Option.bind_some, e2] at h
      have kept : v.kp = some d → ∃ d' ds' F', some d = some d' ∧ itemsOf d' = some ds' ∧ Ext m0 F0 H0 m1 F' H1 ∧ Sim L B m1 F' E st' σ H1 ∧ Wk L m1 F' H1 (OwnS k E σ) d' x ∧ PostI L B W k m0 F0 H0 E σ (.ok ds' st') R := fun ek => by
        obtain ⟨F', X', S', r', _⟩ := VRep.kept X0 S0.beg S r ek
        refine ⟨d, ds, F', rfl, e2, X', S', ?_, h⟩
        cases d <;> simp only [itemsOf] at e2 <;> try contradiction
        · exact r'
        · exact r'
        · simp only [Rep] at r'
          obtain ⟨a, vs, e, fa, q⟩ := r'
          exact ⟨a, vs, e, .inl fa, q⟩
      cases k with
      | true => exact kept e
      | false =>
        cases v with
        | dat d' => exact kept e
        | new d' =>
          have : d' = d := by simpa [Val.it, Val.d] using e
          subst this
          refine kept ?_
          cases d' <;> simp only [itemsOf] at e2 <;> first | contradiction | rfl
        | bor d' =>
          have : d' = d := by simpa [Val.it, Val.d] using e
          subst this
          obtain ⟨i, e3, e4⟩ := r
          obtain ⟨y, e5, a, rfl, r, nf, nm, n0⟩ := S.sl i _ e3
          rw [e4] at e5; cases e5
          refine ⟨d', ds, F1, rfl, e2, X0, S, ?_, h⟩
          cases d' <;> simp only [itemsOf] at e2 <;> try contradiction
          all_goals try (simp only [ORep] at r; done)
          · simp only [ORep] at r
            obtain ⟨vs, e6, r⟩ := r
            exact ⟨a, vs, rfl, .inr ⟨rfl, i, ⟨_, e3⟩, e4⟩, e6, r⟩
        | xv c fs => cases e
theorem it_list {O : Addr → Prop} {p : Addr} {xs : List D} {vs : List V} (hf : F p ∨ O p) (e : H p = some (.lst vs)) (r : RepL L m F H xs vs) (z : xs.length ≤ szMax) : ItOk L m F H O (Itl X.K p) xs := by
  have there : ∀ m' F' H', Mono m F H m' F' H' → (∀ a, O a → ∀ o, H a = some o → H' a = some o) → H' p = some (.lst vs) := fun m' F' H' M hO => by
    rcases hf with f | f
    · exact (M.st p f).lst e
    · exact hO p f _ e
  have sq : ∀ m' F' H', Mono m F H m' F' H' → (∀ a, O a → ∀ o, H a = some o → H' a = some o) → SqL X.K H' p vs := fun m' F' H' M hO => .inl (.inl (there m' F' H' M hO))
  refine ⟨z, fun m' F' H' M hO => ⟨vs, sq m' F' H' M hO, by rw [r.len]; exact Nat.le_refl _⟩, fun i d ei m' F' H' M hO => ?_⟩
  obtain ⟨v, ev, rv⟩ := r.get ei
  refine ⟨⟨vs, v, sq m' F' H' M hO, ev⟩, fun x H2 ⟨e1, e2⟩ => .inl ⟨e1, ?_⟩⟩
  have := e2 vs (sq m' F' H' M hO)
  rw [ev] at this
  cases this
  exact Rep.mono M _ _ rv
theorem it_tup {O : Addr → Prop} {v : V} {xs : List D} (eK : L.K = X.K) (r : Rep L m F H (.tup xs) v) : ∃ p vs, v = .ref p ∧ SqT X.K H p vs ∧ ItOk L m F H O (Itt X.K p) xs := by
  have r0 := r
  simp only [Rep] at r
  obtain ⟨p, vs, rfl, q, r, z⟩ := r
  have sq : ∀ m' F' H', Mono m F H m' F' H' → SqT X.K H' p vs := fun m' F' H' M => by
    rw [← eK]
    exact q.imp (fun w => (M.st p w.1).rd w.2) id
  refine ⟨p, vs, rfl, sq m F H Mono.refl, z, fun m' F' H' M hO => ⟨vs, sq m' F' H' M, by rw [r.len]; exact Nat.le_refl _⟩, fun i d ei m' F' H' M hO => ?_⟩
  obtain ⟨w, ew, rw'⟩ := r.get ei
  refine ⟨⟨vs, w, sq m' F' H' M, ew⟩, fun x H2 ⟨e1, e2⟩ => .inl ⟨e1, ?_⟩⟩
  have := e2 vs (sq m' F' H' M)
  rw [ew] at this
  cases this
  exact Rep.mono M _ _ rw'
theorem it_str {O : Addr → Prop} {s : List Nat} (h : Rep L m F H (.str s) (.str (strV s))) : ItOk L m F H O (Its (strV s)) (s.map fun c => .str [c]) := by
  simp only [Rep] at h
  refine ⟨by rw [List.length_map]; exact h.2.1, fun m' F' H' M hO => ?_, fun i d ei m' F' H' M hO => ?_⟩
  · show (strV s).cps.size ≤ _
    simp [strV]
  · rw [List.getElem?_map] at ei
    cases e : s[i]? with
    | none => rw [e] at ei; cases ei
    | some c =>
      rw [e] at ei
      cases ei
      have hi := (List.getElem?_eq_some_iff.mp e).1
      have hc := h.2.2 c (List.mem_of_getElem? e)
      refine ⟨by show i < (strV s).cps.size; simpa [strV] using hi, fun x H2 ⟨e1, c', e2, e3⟩ => .inl ⟨e1, ?_⟩⟩
      have e4 : (strV s).cps[i]? = some c := by simp [strV, e]
      rw [e4] at e2
      cases e2
      subst e3
      simp only [Rep]
      refine ⟨rfl, by simp [szMax], fun z hz => ?_⟩
      have : z = c := by simpa using hz
      rw [this]; exact hc
theorem pi_exM (f : Fx C L o B X W) {tg e : Expr} (ha : PE X e (tE L B W o a)) : PI X tg e (tI L B W o k (.ex a)) := by
  refine ⟨fun pins s σ H R I ⟨m, F, E, st, S, h⟩ => ?_⟩
  rw [evI] at h
  refine thn (ha.run pins s σ H _ I (tI_bind Ext.refl S h)) fun v s1 ⟨x, H1, I1, rx, m1, F1, st1, w, X1, X01, S1, r1, h1⟩ => ?_
  obtain ⟨d, ds, F', e1, e2, X', S', hw, h2⟩ := PostI.wk X01 S S1 r1 h1
  have fin : ∀ J, ItOk L m1 F' H1 (OwnS k E σ) J ds → R J H1 := fun J hJ => h2 m1 F' J H1 X' S' hJ
  cases d with
  | lst xs =>
    obtain ⟨p, vs, rfl, hf, e3, r, z⟩ := hw
    cases e2
    have q := fin _ (it_list (X := X) hf e3 r z)
    cases rx
    obtain ⟨its, rv, pl, hz⟩ := I1.list (.inl (.inl e3))
    refine wpAny_pyIter_list pl.isList ?_
    refine ⟨s1.heap.objs.size, [s1.heap.objs.size], _, _, H1, rfl, I1.kept (t' := s1.toks) fun b o e => Heap.get?_push_of_some _ e, turn_list p _, ⟨_, Heap.get?_push_size _ rfl, rfl, rfl⟩, fun b hb => ?_, q⟩
    have e : b = s1.heap.objs.size := by simpa using hb
    subst e
    exact I1.fpOk (Nat.le_refl _) (I1.hok.fresh (Nat.le_refl _))
  | tup xs =>
    cases e2
    obtain ⟨p, vs, rfl, hs, hi⟩ := it_tup (X := X) (O := OwnS k E σ) f.K hw
    have q := fin _ hi
    cases rx
    obtain ⟨its, rv, pl, hz⟩ := I1.tuple hs
    refine wpAny_pyIter_tuple (show s1.heap.IsTuple p its.toArray from pl) ?_
    refine ⟨s1.heap.objs.size, [s1.heap.objs.size], _, _, H1, rfl, I1.kept (t' := s1.toks) fun b o e => Heap.get?_push_of_some _ e, turn_tuple p _, ⟨_, Heap.get?_push_size _ rfl, rfl, rfl⟩, fun b hb => ?_, q⟩
    have e : b = s1.heap.objs.size := by simpa using hb
    subst e
    exact I1.fpOk (Nat.le_refl _) (I1.hok.fresh (Nat.le_refl _))
  | str z =>
    cases e2
    have hw0 := hw
    simp only [Wk, Rep] at hw0
    obtain ⟨rfl, _⟩ := hw0
    have q := fin _ (it_str hw)
    obtain ⟨t, rfl⟩ := rx
    cases hasc : (strV z).cps.all (· < 128)
    · exact wpAny_pyIter_wide hasc (pi_one (tk := s1.toks) I1 _ (turn_str _ (strV z) t "str_iterator" (.inr rfl)) ⟨_, Heap.get?_push_size _ rfl, rfl, rfl⟩ q)
    · exact wpAny_pyIter_ascii hasc (pi_one (tk := s1.toks) I1 _ (turn_str _ (strV z) t "str_ascii_iterator" (.inl rfl)) ⟨_, Heap.get?_push_size _ rfl, rfl, rfl⟩ q)
  | _ => cases e2
/-! ranges -/
theorem rangeL_ok {lo hi : Int} {ds : List D} (h : rangeL lo hi = some ds) : ((hi - lo).toNat ≤ szMax ∧ -(2 ^ 60) ≤ lo ∧ lo ≤ 2 ^ 60 ∧ -(2 ^ 60) ≤ hi ∧ hi ≤ 2 ^ 60) ∧ ds = (List.range (hi - lo).toNat).map fun (k : Nat) => .int (lo + k) := by
  unfold rangeL at h
  split at h
  · cases h; exact ⟨‹_›, rfl⟩
  · cases h
theorem it_range {O : Addr → Prop} {lo hi : Int} {ds : List D} (h : rangeL lo hi = some ds) : ItOk L m F H O (Itr lo (hi - lo).toNat) ds := by
  obtain ⟨h1, rfl⟩ := rangeL_ok h
  refine ⟨by rw [List.length_map, List.length_range]; exact h1.1, fun m' F' H' M hO => ?_, fun i d ei m' F' H' M hO => ?_⟩
  · show (hi - lo).toNat ≤ _
    simp
  · have hi' : i < (hi - lo).toNat := by
      have := (List.getElem?_eq_some_iff.mp ei).1
      simpa using this
    rw [List.getElem?_map, List.getElem?_range hi'] at ei
    cases ei
    refine ⟨hi', fun x H2 ⟨e1, e2⟩ => .inl ⟨e1, ?_⟩⟩
    simp only [Rep]
    exact e2
theorem rngNm : ("range" : Str) ∈ bltN := by decide +kernel
theorem PostI.opt {o' : Option (List D)} (h : PostI L B W k m0 F0 H0 E σ (ER.opt o' st) R) : ∃ ds, o' = some ds ∧ PostI L B W k m0 F0 H0 E σ (.ok ds st) R := by
  cases o' with
  | none => exact h.elim
  | some ds => exact ⟨ds, rfl, h⟩
/-- range(a), range(a, b): the bounds' reading -/
theorem rg1_R (h : tI L B W o k (.rg1 a) σ H R) : tE L B W o a σ H fun x H1 => ∃ n : Int, x = .int n ∧ ∃ ds, rangeL 0 n = some ds ∧ R (Itr 0 (n - 0).toNat) H1 := by
  obtain ⟨m, F, E, st, S, h⟩ := h
  rw [evI] at h
  refine tE.mono (fun x H1 ⟨m1, F1, st1, v, X1, X01, S1, r1, h1⟩ => ?_) (tI_bind Ext.refl S h)
  cases e : v.d with
  | int n =>
    rw [e] at h1
    obtain ⟨ds, e2, h2⟩ := PostI.opt h1
    exact ⟨n, r1.int S1 e, ds, e2, h2 m1 F1 _ H1 X01 S1 (it_range e2)⟩
  | _ => rw [e] at h1; exact h1.elim
theorem rg2_R (h : tI L B W o k (.rg2 a b) σ H R) : tE L B W o a σ H fun x H1 => tE L B W o b σ H1 fun y H2 => ∃ i j : Int, x = .int i ∧ y = .int j ∧ ∃ ds, rangeL i j = some ds ∧ R (Itr i (j - i).toNat) H2 := by
  obtain ⟨m, F, E, st, S, h⟩ := h
  rw [evI] at h
  refine tE.mono (fun x H1 ⟨m1, F1, st1, v, X1, X01, S1, r1, h1⟩ => ?_) (tI_bind Ext.refl S h)
  refine tE.mono (fun y H2 ⟨m2, F2, st2, w, X2, X02, S2, r2, h2⟩ => ?_) (tI_bind X01 S1 h1)
  cases e : v.d with
  | int i =>
    cases e3 : w.d with
    | int j =>
      rw [e, e3] at h2
      obtain ⟨ds, e2, h3⟩ := PostI.opt h2
      exact ⟨i, j, (r1.ext X2).int S2 e, r2.int S2 e3, ds, e2, h3 m2 F2 _ H2 X02 S2 (it_range e2)⟩
    | _ => rw [e, e3] at h2; exact h2.elim
  | _ => rw [e] at h2; exact h2.elim
theorem pi_rg1M (f : Fx C L o B X W) {tg e : Expr} {p p2} (hg : glB C ("range" : Str) = true) (he : okE e = true) (ha : PE X e (tE L B W o a)) : PI X tg (.Call (.Name ("range" : Str) p) [e] [] p2) (tI L B W o k (.rg1 a)) := by
  obtain ⟨h1, h2, h3⟩ := f.gl hg
  have z := pi_range1 (X := X) (tg := tg) (p := p) (pos := p2) h1 (f.blt _ rngNm) (pa_cons ha pa_nil (okE_star he _ _)) (okE_star he _ _)
  refine ⟨fun pins s σ H R I h => z.run pins s σ H R I ?_⟩
  refine tE.mono (fun x H1 ⟨n, e1, ds, e2, q⟩ => ?_) (rg1_R h)
  obtain ⟨h4, _⟩ := rangeL_ok e2
  exact ⟨n, by rw [e1], by omega, by omega, by simpa using q⟩
theorem pi_rg2M (f : Fx C L o B X W) {tg e e' : Expr} {p p2} (hg : glB C ("range" : Str) = true) (he : okE e = true) (he' : okE e' = true) (ha : PE X e (tE L B W o a)) (hb : PE X e' (tE L B W o b)) : PI X tg (.Call (.Name ("range" : Str) p) [e, e'] [] p2) (tI L B W o k (.rg2 a b)) := by
  obtain ⟨h1, h2, h3⟩ := f.gl hg
  have z := pi_range2 (X := X) (tg := tg) (p := p) (pos := p2) h1 (f.blt _ rngNm) (pa_cons ha (pa_cons hb pa_nil (okE_star he' _ _)) (okE_star he _ _)) (by rw [okE_star he, okE_star he'] <;> rfl) (okE_star he' _ _)
  refine ⟨fun pins s σ H R I h => z.run pins s σ H R I ?_⟩
  refine tE.mono (fun x H1 h' => tE.mono (fun y H2 ⟨i, j, e1, e2, ds, e3, q⟩ => ?_) h') (rg2_R h)
  obtain ⟨h4, _⟩ := rangeL_ok e3
  exact ⟨i, j, by rw [e1, e2], ⟨by omega, by omega, by omega, by omega⟩, q⟩
/-! list(..) -/
theorem lstNm : ("list" : Str) ∈ bltN := by decide +kernel
theorem lstBt : bootBuiltins ("list" : Str) = some (.type "list") := by first | rfl | kernel_rfl | with_unfolding_all rfl
end
end Mp

end
section
set_option Elab.async false
set_option linter.all false
set_option maxRecDepth 100000
set_option maxHeartbeats 4000000
/-! S15e: enumerate(..) of a tuple; of data. -/
namespace PySem
open Sem (wp)
set_option maxHeartbeats 1000000 in
theorem meets_enumerate_new1 {v : Value} {o : Obj} {H : Heap → Prop} (B : Begins v o H) :
    Meets (Builtin.«enumerate.__new__» ⟨[.type "enumerate", v], []⟩) (fun _ R s => H s.heap ∧
      R (.ok (.ret (.ref (s.heap.push o).objs.size))) { s with heap := (s.heap.push o).push { cls := .type "enumerate", data := .fields #[.none, .bool false, .ref s.heap.objs.size, rawInt 0, .none, .none] } }) :=
  .of_wp fun prog w A R s h => by
    obtain ⟨hp, g, d, tk, os⟩ := s; obtain ⟨h1, h⟩ := h
    have hsub := sub_enumerate
    have q1 : ∀ {A' : Around} {E : Value → Shared → Prop} {Q : Value → Shared → Prop}, Q (.ref hp.objs.size) ⟨hp.push o, g, d, tk, os⟩ → wpAny (model prog w) A' (pyIter v) Q E ⟨hp, g, d, tk, os⟩ :=
      fun q => B.iter prog w _ _ ⟨hp, g, d, tk, os⟩ _ h1 q
    wp_walk using q1
    refine wpAny_stack_any fun st => wpAny_pure ?_
    split
    · rename_i c _ _ _ _ _
      cases (c == Value.type "enumerate")
      · wp_walk using q1
        exact ⟨_, rfl, h⟩
      · wp_walk using q1
        exact ⟨_, rfl, h⟩
    · wp_walk using q1
      exact ⟨_, rfl, h⟩
section
variable {prog : Program} {w : World} {A : Around} {E : Value → Shared → Prop} {s : Shared}
theorem enum_begins1 {v : Value} {o : Obj} {H : Heap → Prop} {Q : Value → Shared → Prop} (B : Begins v o H) (h1 : H s.heap)
    (h : ∀ h', IsEnum h' (s.heap.objs.size + 1) s.heap.objs.size 0 .none → h'.get? s.heap.objs.size = some o → h'.objs.size = s.heap.objs.size + 2 →
      (∀ b o, s.heap.get? b = some o → h'.get? b = some o) → Q (.ref (s.heap.objs.size + 1)) { s with heap := h' }) :
    wpAny (model prog w) A (call (.type "enumerate") [v]) Q E s := by
  refine callType_new F.called_enumerate (by decide) (F.typeCall_enumerate_1 _) (F.newCall_enumerate_1 _) (fun obj => F.args_object_init_2 obj _) F.entry_enumerate_new
    (meets_enumerate_new1 B) ⟨h1, ?_⟩
  have hz : (s.heap.push o).objs.size = s.heap.objs.size + 1 := Heap.size_push ..
  show _ ∧ _
  rw [hz]
  have he : IsEnum ((s.heap.push o).push { cls := .type "enumerate", data := .fields #[.none, .bool false, .ref s.heap.objs.size, rawInt 0, .none, .none] }) (s.heap.objs.size + 1) s.heap.objs.size 0 .none := by
    have := Heap.get?_push_size (s.heap.push o) (o := { cls := .type "enumerate", data := .fields #[.none, .bool false, .ref s.heap.objs.size, rawInt 0, .none, .none] }) rfl
    rw [hz] at this; exact this
  refine ⟨⟨_, he, rfl⟩, h _ he (Heap.get?_push_of_some _ (Heap.get?_push_size _ B.free)) (by rw [Heap.size_push, hz]) fun b o x => Heap.get?_push_of_some _ (Heap.get?_push_of_some _ x)⟩
end
end PySem
namespace L2
open PySem PySem.Spec PyProof.Rows
/-- the tuple at a, each item in a new pair -/
def IteT (K : PySem.W.Frag) (a : Addr) : It :=
  ⟨fun i H => ∃ (xs : List V) (x : V), SqT K H a xs ∧ xs[i]? = some x, fun i H v H' => ∃ T x, v = .ref T ∧ H T = none ∧ H' = upd H T (.tup [.int (i : Nat), x]) ∧ ∀ xs, SqT K H a xs → xs[i]? = some x, fun i H => ∃ xs : List V, SqT K H a xs ∧ xs.length ≤ i⟩
theorem turn_enumT {P : Program} {w : World} {K : PySem.W.Frag} {elts : List Expr} {kk : Nat} {tpos : Pos} (a e it : Addr) :
    Turn P w K (.Tuple elts kk tpos) (IteT K a) [e, it] e (fun i h => (∃ old, IsEnum h e it ((i : Nat) : Int) old) ∧ h.IsTupleIter it a i ∧ e ≠ it ∧ a ≠ it ∧ a ≠ e) where
  mem := by simp
  obj := fun i h st b hb => by
    obtain ⟨⟨old, he⟩, ⟨o, ho, hc, hd⟩, _⟩ := st
    have e' : b = e ∨ b = it := by simpa using hb
    rcases e' with z | z
    · rw [z]; exact ⟨_, he, fun v q => nomatch q⟩
    · rw [z]; exact ⟨o, ho, fun v q => by rw [hd] at q; cases q⟩
  keep := fun i h h' st k => let ⟨⟨old, he⟩, hi, hne⟩ := st; ⟨⟨old, k e (by simp) _ he⟩, hi.at fun o q => k it (by simp) o q, hne⟩
  item := by
    intro X hP hw hK hc i pins s σ H E I hf st hg
    subst hP hw hK
    obtain ⟨⟨old, he⟩, hit, hne, hai, hae⟩ := st
    obtain ⟨xs, x, hq, hx⟩ := hg
    obtain ⟨its, rv, p, hz⟩ := I.tuple hq
    obtain ⟨u, hu, ru⟩ := rv.get hx
    have hel : e < s.heap.objs.size := Heap.lt_size he
    have hil : it < s.heap.objs.size := by obtain ⟨_, q, _⟩ := hit; exact Heap.lt_size q
    have pt : s.heap.IsTuple a its.toArray := p
    have hlt : i < its.toArray.size := by
      have := (List.getElem?_eq_some_iff.mp hu).1
      simpa using this
    refine wpAny_pyNext_enum_itemD (Draws.tuple (A := X.A.in1) (by have := I.ok.hd hc; exact this) it a hai its.toArray) he ⟨hit, pt⟩ hlt hne (fun z => by
      have e' : e = it ∨ e = a := by simpa using z
      rcases e' with z | z
      · exact hne z
      · exact hae z.symm) fun y h' tk hy ho hst' hT hsz hk => ?_
    obtain rfl : u = y := by
      have hy : its.toArray[i]? = some y := hy
      rw [show its.toArray[i]? = its[i]? from by simp] at hy
      rw [hu] at hy
      exact Option.some.inj hy
    have hit' := hst'.1
    refine ⟨_, rfl, wpAny_letOwnedTupleGo_enum (s := { s with heap := h', toks := tk + 1 }) ho fun h'' he' sb => ?_⟩
    have hT2 : h''.get? s.heap.objs.size = some { cls := .type "tuple", data := .seq #[.int i tk, u] } := (sb.2 _ (Nat.ne_of_gt hel)).trans hT
    have new : ObjOk X.prog X.w (upd H s.heap.objs.size (.tup [.int (i : Nat), x])) h'' s.heap.objs.size (.tup [.int (i : Nat), x]) :=
      ⟨by show 2 ≤ sizeLine; decide, [.int i tk, u], .cons ⟨_, rfl⟩ (.cons ru .nil), ⟨_, hT2, rfl, _, rfl⟩⟩
    have I1 : Inv X pins σ (upd H s.heap.objs.size (.tup [.int (i : Nat), x])) { s with heap := h'', toks := tk + 1 } :=
      I.turnedNew (ch := [e, it]) (fun b ob hb q => (sb.2 b (fun z => hb (by simp [z]))).trans (hk b ob (fun z => hb (by simp [z])) (fun z => hb (by simp [z])) q)) hf (Nat.le_refl _) new
    refine ⟨.ref s.heap.objs.size, _, I1, rfl, ⟨_, x, rfl, I.hok.fresh (Nat.le_refl _), rfl, fun ys hy => by rw [I.tuple_inj hy hq]; exact hx⟩, ⟨⟨u, ?_⟩, hit'.at fun o q => (sb.2 it (Ne.symm hne)).trans q, hne, hai, hae⟩, fun b hb => ?_⟩
    · have e1 : ((i + 1 : Nat) : Int) = (i : Int) + 1 := by omega
      rw [e1]; exact he'
    · have hb' : b < s.heap.objs.size := by
        have e' : b = e ∨ b = it := by simpa using hb
        rcases e' with z | z
        · rw [z]; exact hel
        · rw [z]; exact hil
      rw [upd_ne (Nat.ne_of_lt hb')]
      exact (hf b hb).1
  done := by
    intro X hP hw hK hc i pins s σ H E I hf st hg
    subst hP hw hK
    obtain ⟨⟨old, he⟩, hit, hne, hai, hae⟩ := st
    obtain ⟨xs, hq, hx⟩ := hg
    obtain ⟨its, rv, p, hz⟩ := I.tuple hq
    obtain ⟨f0, f1, f2, f3, f4, f5⟩ := hf it (by simp)
    have hl := rv.length
    have pt : s.heap.IsTuple a its.toArray := p
    have hend : its.toArray[i]? = none := by simp; omega
    have hT : s.TypeIs (.ref e) "enumerate" := ⟨_, he, rfl⟩
    unfold pyNext
    refine wpAny_bind (wpAny_attempt (wpAny_callSpecial?_slot (name := Str.ofString "__next__") hT F.slot_enumerate_next
      (wpAny_call_entry F.slot_enumerate_next hT F.entry_enumerate_next ?_ (F.args_enumerate_next_1 _))))
    show wpAny _ _ (field (.ref e) 2 >>= _) _ _ _
    refine wpAny_bind (wpAny_field he rfl (x := .ref it) rfl ?_)
    refine wpAny_bind (wpAny_nextOf_tuple_end (A := _) (by have := I.ok.hd hc; exact this) hit pt hend fun h' x he' hx' => ?_)
    obtain ⟨o, ho, hc'⟩ := hx'
    refine wpAny_bind (wpAny_isInstance (T := "StopIteration") (b := true) ⟨o, ho, hc'⟩ isSubtype_stop ?_)
    exact wpAny_pure ⟨rfl, I.turned (t' := s.toks) (fun b o hb q => he' b o hb q) f0 f1 f3 f4 f5⟩
  self := fun A i s Q E st h => let ⟨⟨_, he⟩, _⟩ := st; wpAny_pyIter_enum he h
def iEnumT (K : PySem.W.Frag) (ta : TA) : TI := fun σ H R => ta σ H fun vs H1 => ∃ a xs, vs = [.ref a] ∧ SqT K H1 a xs ∧ R (IteT K a) H1
theorem enumT_end {X : Cx} {pins : List (Addr × Obj)} {σ : St} {H1 : Hp} {s1 : Shared} {elts : List Expr} {kk : Nat} {tpos : Pos} {a : Addr} {xs : List V} {R : It → Hp → Prop} (I1 : Inv X pins σ H1 s1) (hq : SqT X.K H1 a xs) (q : R (IteT X.K a) H1) :
    wpAny (model X.prog X.w) X.A (call (.type "enumerate") [.ref a]) (fun v s2 => wpAny (model X.prog X.w) X.A (pyIter v) (PIE X pins σ (.Tuple elts kk tpos) R) X.xe s2) X.xe s1 := by
  obtain ⟨its, rv, p', hz⟩ := I1.tuple hq
  have pt : s1.heap.IsTuple a its.toArray := p'
  have al : a < s1.heap.objs.size := by obtain ⟨_, z, _⟩ := pt; exact Heap.lt_size z
  refine enum_begins1 (begins_tuple a its.toArray) pt fun h' he hit hsz hk => wpAny_pyIter_enum he ?_
  have I2 : Inv X pins σ H1 { s1 with heap := h' } := I1.kept (t' := s1.toks) hk
  refine ⟨s1.heap.objs.size + 1, [s1.heap.objs.size + 1, s1.heap.objs.size], _, _, H1, rfl, I2, turn_enumT a (s1.heap.objs.size + 1) s1.heap.objs.size, ⟨⟨.none, he⟩, ⟨_, hit, rfl, rfl⟩, Nat.succ_ne_self _, Nat.ne_of_lt al, Nat.ne_of_lt (Nat.lt_succ_of_lt al)⟩, fun b hb => ?_, q⟩
  have e' : b = s1.heap.objs.size + 1 ∨ b = s1.heap.objs.size := by simpa using hb
  have hle : s1.heap.objs.size ≤ b := by
    rcases e' with z | z
    · rw [z]; exact Nat.le_add_right _ _
    · rw [z]; exact Nat.le_refl _
  exact I1.fpOk hle (I1.hok.fresh hle)
theorem enumL_end {X : Cx} {pins : List (Addr × Obj)} {σ : St} {H1 : Hp} {s1 : Shared} {elts : List Expr} {kk : Nat} {tpos : Pos} {a : Addr} {xs : List V} {R : It → Hp → Prop} (I1 : Inv X pins σ H1 s1) (hq : SqL X.K H1 a xs) (q : R (Ite X.K a) H1) :
    wpAny (model X.prog X.w) X.A (call (.type "enumerate") [.ref a]) (fun v s2 => wpAny (model X.prog X.w) X.A (pyIter v) (PIE X pins σ (.Tuple elts kk tpos) R) X.xe s2) X.xe s1 := by
  obtain ⟨its, rv, p', hz⟩ := I1.list hq
  refine call_enumerate_list p'.isList fun h' he hit hsz hk => wpAny_pyIter_enum he ?_
  have I2 : Inv X pins σ H1 { s1 with heap := h' } := I1.kept (t' := s1.toks) hk
  refine ⟨s1.heap.objs.size + 1, [s1.heap.objs.size + 1, s1.heap.objs.size], _, _, H1, rfl, I2, turn_enum a (s1.heap.objs.size + 1) s1.heap.objs.size, ⟨⟨.none, he⟩, hit, Nat.succ_ne_self _⟩, fun b hb => ?_, q⟩
  have e' : b = s1.heap.objs.size + 1 ∨ b = s1.heap.objs.size := by simpa using hb
  have hle : s1.heap.objs.size ≤ b := by
    rcases e' with z | z
    · rw [z]; exact Nat.le_add_right _ _
    · rw [z]; exact Nat.le_refl _
  exact I1.fpOk hle (I1.hok.fresh hle)
end L2
namespace Mp
open PySem PySem.Spec PyProof.Rows L2
section
variable {C : CC} {L : Lk} {B : Bs} {W : WX} {o : Orc} {X : Cx} {m m0 m1 m2 m' : List Addr} {F F0 F1 F2 F' : Addr → Prop} {H H0 H1 H2 H' : Hp} {E : Env} {st st' : Sto} {σ : L2.St} {Q : V → Hp → Prop} {R : It → Hp → Prop} {me a b c : ME} {es : List ME} {k : Bool}
theorem tgOk_tup {it : MI} {tg : Expr} (hp : pairI it = true) (h : tgOk it tg = true) : ∃ elts kk tpos, tg = .Tuple elts kk tpos := by
  unfold tgOk at h
  rw [hp, Bool.not_true, Bool.false_or] at h
  unfold isTupE at h
  split at h
  · exact ⟨_, _, _, rfl⟩
  · cases h
theorem enumL_len {xs : List Mp.D} : (enumL xs).length = xs.length := by simp [enumL]
theorem enumL_get {xs : List Mp.D} {i : Nat} : (enumL xs)[i]? = (xs[i]?).map fun d => .tup [.int (i : Nat), d] := by
  simp only [enumL, List.getElem?_map, List.getElem?_zipIdx]
  cases xs[i]? <;> simp
theorem RepL.two {d e : Mp.D} {x y : V} (h1 : Rep L m F H d x) (h2 : Rep L m F H e y) : RepL L m F H [d, e] [x, y] := by simp only [RepL]; exact ⟨h1, h2, trivial⟩
theorem it_enumL {O : Addr → Prop} {p : Addr} {xs : List Mp.D} {vs : List V} (hf : F p ∨ O p) (e : H p = some (.lst vs)) (r : RepL L m F H xs vs) (z : xs.length ≤ szMax) : ItOk L m F H O (Ite X.K p) (enumL xs) := by
  have there : ∀ m' F' H', Mono m F H m' F' H' → (∀ a, O a → ∀ o, H a = some o → H' a = some o) → SqL X.K H' p vs := fun m' F' H' M hO => by
    rcases hf with f | f
    · exact .inl (.inl ((M.st p f).lst e))
    · exact .inl (.inl (hO p f _ e))
  refine ⟨by rw [enumL_len]; exact z, fun m' F' H' M hO => ⟨vs, there m' F' H' M hO, by rw [enumL_len, r.len]; exact Nat.le_refl _⟩, fun i d ei m' F' H' M hO => ?_⟩
  rw [enumL_get] at ei
  cases e1 : xs[i]? with
  | none => rw [e1] at ei; cases ei
  | some d0 =>
    rw [e1] at ei
    cases ei
    obtain ⟨v, ev, rv⟩ := r.get e1
    refine ⟨⟨vs, v, there m' F' H' M hO, ev⟩, fun x H2 ⟨T, x', ex, hT, e2, hx⟩ => .inr ⟨T, [.int (i : Nat), d0], [.int (i : Nat), v], hT, ?_, ex, rfl, RepL.two (by simp only [Rep]) (Rep.mono M _ _ rv), by simp [szMax]⟩⟩
    have := hx vs (there m' F' H' M hO)
    rw [ev] at this
    cases this
    exact e2
theorem it_enumT {O : Addr → Prop} {v : V} {xs : List Mp.D} (eK : L.K = X.K) (r : Rep L m F H (.tup xs) v) : ∃ p vs, v = .ref p ∧ SqT X.K H p vs ∧ ItOk L m F H O (IteT X.K p) (enumL xs) := by
  simp only [Rep] at r
  obtain ⟨p, vs, rfl, q, r, z⟩ := r
  have sq : ∀ m' F' H', Mono m F H m' F' H' → SqT X.K H' p vs := fun m' F' H' M => by
    rw [← eK]
    exact q.imp (fun w => (M.st p w.1).rd w.2) id
  refine ⟨p, vs, rfl, sq m F H Mono.refl, by rw [enumL_len]; exact z, fun m' F' H' M hO => ⟨vs, sq m' F' H' M, by rw [enumL_len, r.len]; exact Nat.le_refl _⟩, fun i d ei m' F' H' M hO => ?_⟩
  rw [enumL_get] at ei
  cases e1 : xs[i]? with
  | none => rw [e1] at ei; cases ei
  | some d0 =>
    rw [e1] at ei
    cases ei
    obtain ⟨w, ev, rv⟩ := r.get e1
    refine ⟨⟨vs, w, sq m' F' H' M, ev⟩, fun x H2 ⟨T, x', ex, hT, e2, hx⟩ => .inr ⟨T, [.int (i : Nat), d0], [.int (i : Nat), w], hT, ?_, ex, rfl, RepL.two (by simp only [Rep]) (Rep.mono M _ _ rv), by simp [szMax]⟩⟩
    have := hx vs (sq m' F' H' M)
    rw [ev] at this
    cases this
    exact e2
theorem seq_items {o : Option Mp.D} {ds : List Mp.D} (h : o.bind seqOf = some ds) : o.bind itemsOf = some ds := by
  cases o with
  | none => cases h
  | some d => cases d <;> first | exact h | cases h
theorem enumNm : ("enumerate" : Str) ∈ bltN := by decide +kernel
theorem pi_enumM (f : Fx C L o B X W) {elts : List Expr} {kk : Nat} {tpos : Pos} {e : Expr} {p p2} (hg : glB C ("enumerate" : Str) = true) (he : okE e = true) (ha : PE X e (tE L B W o a)) : PI X (.Tuple elts kk tpos) (.Call (.Name ("enumerate" : Str) p) [e] [] p2) (tI L B W o k (.enum a)) := by
  obtain ⟨h1, h2, h3⟩ := f.gl hg
  refine ⟨fun pins s σ H R I ⟨m, F, E, st, S, h⟩ => ?_⟩
  rw [evI] at h
  refine Call_ (ld_blt I h1 (f.blt _ enumNm) boot_enumerate (PyProof.Rows.callWith_type1 (thn ((pa_cons ha pa_nil (okE_star he _ _)).run p2 pins s σ H (fun vs H1 => ∃ x, vs = [x] ∧ ∃ m1 F1 st1 v, Ext m F H m1 F1 H1 ∧ Ext m F H m1 F1 H1 ∧ Sim L B m1 F1 E st1 σ H1 ∧ VRep L m1 F1 H1 E σ H v x ∧ PostI L B W k m F H E σ (ER.opt (((v.it k).bind seqOf).map enumL) st1) R) I (tE.mono (fun x H1 h => ⟨x, rfl, h⟩) (tI_bind Ext.refl S h))) fun us s1 ⟨vs, H1, I1, r1, q1⟩ => ?_) (okE_star he _ _) rfl))
  obtain ⟨x, rfl, m1, F1, st1, w, X1, X01, S1, rv, h1'⟩ := q1
  cases e0 : (w.it k).bind seqOf with
  | none => rw [e0] at h1'; exact h1'.elim
  | some ds0 =>
    have e0' := seq_items e0
    obtain ⟨d, ds, F', e1, e2, X', S', hw, _⟩ := PostI.wk (k := k) (R := fun _ _ => True) (B := B) (W := W) X01 S S1 rv (by rw [e0']; exact fun _ _ _ _ _ _ _ => trivial)
    rw [e1, Option.bind_some] at e0 e0'
    rw [e2] at e0'
    have ed : ds = ds0 := Option.some.inj e0'
    subst ed
    rw [e1, Option.bind_some, e0] at h1'
    have fin : ∀ J, ItOk L m1 F' H1 (OwnS k E σ) J (enumL ds) → R J H1 := fun J hJ => h1' m1 F' J H1 X' S' hJ
    cases r1 with
    | cons r rr =>
      cases rr
      cases d with
      | lst xs =>
        obtain ⟨q, vs, rfl, hf, e3, r', z⟩ := hw
        cases e2
        cases r
        exact enumL_end I1 (.inl (.inl e3)) (fin _ (it_enumL (X := X) hf e3 r' z))
      | tup xs =>
        cases e2
        obtain ⟨q, vs, rfl, hs, hi⟩ := it_enumT (X := X) (O := OwnS k E σ) f.K hw
        cases r
        exact enumT_end I1 hs (fin _ hi)
      | str z => cases e0
      | _ => cases e2
theorem pe_conM (f : Fx C L o B X W) {c : Nat} {x : Str} {p : Pos} (hn : C.nm.con[c]? = some x) (hg : glB C x = true) : PE X (.Name x p) (tE L B W o (.con c)) := by
  obtain ⟨h1, h2, h3⟩ := f.gl hg
  obtain ⟨u, d, v, hm, ho, hr, hv⟩ := f.con c x hn
  refine (pe_glob h1 hm hr h2).imp fun σ H Q ⟨m, F, E, st, S, h⟩ => ?_
  rw [evE, ho] at h
  exact Post.dat Ext.refl S h (hv m F H)
end
end Mp

end
section
set_option Elab.async false
set_option linter.all false
set_option maxRecDepth 100000
set_option maxHeartbeats 4000000
/-! S15f: walks over a dict's items and values: the dict is locked for good. -/
namespace Mp
open PySem PySem.Spec PyProof.Rows L2
section
variable {C : CC} {L : Lk} {B : Bs} {W : WX} {o : Orc} {X : Cx} {m m0 m1 m2 m' : List Addr} {F F0 F1 F2 F' : Addr → Prop} {H H0 H1 H2 H' : Hp} {E : Env} {st st' : Sto} {σ : L2.St} {Q : V → Hp → Prop} {R : It → Hp → Prop} {me a b c : ME} {es : List ME} {k : Bool}
/-- a value that is a dict is locked -/
def tLk (te : TE) : TE := fun σ H Q => te σ H fun x H1 => ∃ d ks, x = .ref d ∧ ((∃ od, H1 d = some (.frz od (.dK ks)) ∧ Q x H1) ∨ (H1 d = some (.dK ks) ∧ ∀ od, Q x (upd H1 d (.frz od (.dK ks)))))
theorem pe_lk {e : Expr} {te : TE} (h : PE X e te) : PE X e (tLk te) := by
  refine ⟨fun pins s σ H Q I hq => ?_⟩
  refine thn (h.run pins s σ H _ I hq) fun u s1 ⟨x, H1, I1, rx, d, ks, ex, q⟩ => ?_
  rcases q with ⟨od, e1, q⟩ | ⟨e1, q⟩
  · exact ⟨x, H1, I1, rx, q⟩
  · obtain ⟨od, I2⟩ := I1.lock e1 trivial
    exact ⟨x, _, I2, rx, q od⟩
theorem Ext.lock {d : Addr} {od : Obj} {ks : List (Key × V)} (f : F d) (e : H d = some (.dK ks)) : Ext m F H m F (upd H d (.frz od (.dK ks))) := by
  refine ⟨⟨[], by simp, by simp⟩, fun _ h => h, fun _ h => .inl h, fun a o ea nm nf => ?_, fun a fa o ea => ?_, fun a h => ?_⟩
  · rw [upd_ne (fun z => nf (by rw [z]; exact f))]; exact ea
  · by_cases h : a = d
    · subst h
      rw [e] at ea
      cases ea
      exact .inr ⟨od, ks, rfl, upd_same⟩
    · exact .inl (by rw [upd_ne h]; exact ea)
  · by_cases z : a = d
    · subst z; rw [upd_same] at h; cases h
    · rw [upd_ne z] at h; exact h
theorem Sim.lock {d : Addr} {od : Obj} {ks : List (Key × V)} (S : Sim L B m F E st σ H) (f : F d) (e : H d = some (.dK ks)) : Sim L B m F E st σ (upd H d (.frz od (.dK ks))) :=
  S.step (Ext.lock f e) fun n a o en ea => by rw [upd_ne (fun z => (S.wd.ft d f).2 (by rw [← z]; exact List.mem_of_getElem? en))]; exact ea
theorem RepK.get : ∀ {kvs : List (Mp.D × Mp.D)} {ks : List (Key × V)} {i : Nat} {p : Mp.D × Mp.D}, RepK L m F H kvs ks → kvs[i]? = some p → ∃ q v, ks[i]? = some (q, v) ∧ keyOf p.1 = some q ∧ kOk p.1 = true ∧ Rep L m F H p.2 v
  | (a, d) :: kvs, (q, v) :: ks, 0, p, h, e => by
    simp only [RepK] at h
    simp only [List.getElem?_cons_zero, Option.some.injEq] at e
    subst e
    exact ⟨q, v, rfl, h.1.1, h.1.2, h.2.1⟩
  | (a, d) :: kvs, (q, v) :: ks, i + 1, p, h, e => by
    simp only [RepK] at h
    simp only [List.getElem?_cons_succ] at e ⊢
    exact RepK.get h.2.2 e
  | [], _, _, _, _, e => by simp at e
  | _ :: _, [], _, _, h, _ => by simp only [RepK] at h
theorem frz_stay {d : Addr} {od : Obj} {ks : List (Key × V)} (s : Stay H H' d) (e : H d = some (.frz od (.dK ks))) : H' d = some (.frz od (.dK ks)) := by
  rcases s _ e with h | ⟨_, _, h, _⟩
  · exact h
  · cases h
theorem it_items {O : Addr → Prop} {d : Addr} {od : Obj} {kvs : List (Mp.D × Mp.D)} {ks : List (Key × V)} (f : F d) (e : H d = some (.frz od (.dK ks))) (r : RepK L m F H kvs ks) (z : kvs.length ≤ szMax) : ItOk L m F H O (Iti d od ks) (kvs.map fun p => .tup [p.1, p.2]) := by
  refine ⟨by rw [List.length_map]; exact z, fun m' F' H' M hO => ⟨frz_stay (M.st d f) e, by rw [List.length_map, r.lenK]; exact Nat.le_refl _⟩, fun i x ei m' F' H' M hO => ?_⟩
  rw [List.getElem?_map] at ei
  cases e1 : kvs[i]? with
  | none => rw [e1] at ei; cases ei
  | some p =>
    rw [e1] at ei
    cases ei
    obtain ⟨q, v, ek, h1, h2, h3⟩ := r.get e1
    refine ⟨⟨frz_stay (M.st d f) e, (List.getElem?_eq_some_iff.mp ek).1⟩, fun x H2 ⟨T, k', v', e2, ex, hT, e3⟩ => .inr ⟨T, [p.1, p.2], [kV q, v], hT, ?_, ex, rfl, RepL.two (rep_key h1 h2) (Rep.mono M _ _ h3), by simp [szMax]⟩⟩
    rw [ek] at e2
    cases e2
    exact e3
theorem it_vals {O : Addr → Prop} {d : Addr} {od : Obj} {kvs : List (Mp.D × Mp.D)} {ks : List (Key × V)} (f : F d) (e : H d = some (.frz od (.dK ks))) (r : RepK L m F H kvs ks) (z : kvs.length ≤ szMax) : ItOk L m F H O (Itd d od ks) (kvs.map (·.2)) := by
  refine ⟨by rw [List.length_map]; exact z, fun m' F' H' M hO => ⟨frz_stay (M.st d f) e, by rw [List.length_map, r.lenK]; exact Nat.le_refl _⟩, fun i x ei m' F' H' M hO => ?_⟩
  rw [List.getElem?_map] at ei
  cases e1 : kvs[i]? with
  | none => rw [e1] at ei; cases ei
  | some p =>
    rw [e1] at ei
    cases ei
    obtain ⟨q, v, ek, h1, h2, h3⟩ := r.get e1
    refine ⟨⟨frz_stay (M.st d f) e, (List.getElem?_eq_some_iff.mp ek).1⟩, fun x H2 ⟨e2, k', e3⟩ => .inl ⟨e2, ?_⟩⟩
    rw [ek] at e3
    cases e3
    exact Rep.mono M _ _ h3
/-- the dict's reading -/
theorem dctR {me : MI} {g : List (Mp.D × Mp.D) → List Mp.D} (hev : ∀ E st, evI o k me E st = (evE o a E st).bind fun v st1 => match v.kp with | some (.dct kvs) => .ok (g kvs) st1 | _ => .bad)
    {J : Addr → Obj → List (Key × V) → It} (hJ : ∀ {m F H O d od kvs ks}, F d → H d = some (.frz od (.dK ks)) → RepK L m F H kvs ks → kvs.length ≤ szMax → ItOk L m F H O (J d od ks) (g kvs)) (h : tI L B W o k me σ H R) :
    tLk (tE L B W o a) σ H fun x H1 => ∃ d od ks, x = .ref d ∧ H1 d = some (.frz od (.dK ks)) ∧ R (J d od ks) H1 := by
  obtain ⟨m, F, E, st, S, h⟩ := h
  rw [hev] at h
  refine tE.mono (fun x H1 ⟨m1, F1, st1, v, X1, X01, S1, r1, h1⟩ => ?_) (tI_bind Ext.refl S h)
  cases ek : v.kp with
  | none => rw [ek] at h1; exact h1.elim
  | some d0 =>
    rw [ek] at h1
    cases d0 <;> try (exact h1.elim)
    rename_i kvs
    obtain ⟨F', X', S', r', _⟩ := VRep.kept X01 S.beg S1 r1 ek
    simp only [Rep] at r'
    obtain ⟨d, ks, rfl, fd, hd, rk, hz⟩ := r'
    have h1 : PostI L B W k m F H E σ (.ok (g kvs) st1) R := h1
    refine ⟨d, ks, rfl, ?_⟩
    rcases hd with hd | ⟨od, hd⟩
    · refine .inr ⟨hd, fun od => ⟨d, od, ks, rfl, upd_same, ?_⟩⟩
      have X2 : Ext m1 F' H1 m1 F' (upd H1 d (.frz od (.dK ks))) := Ext.lock fd hd
      exact h1 m1 F' _ _ (X'.trans X2) (S'.lock fd hd) (hJ fd upd_same (RepK.mono X2.mono _ _ rk) hz)
    · exact .inl ⟨od, hd, d, od, ks, rfl, hd, h1 m1 F' _ H1 X' S' (hJ fd hd rk hz)⟩
theorem pi_itemsM (f : Fx C L o B X W) {elts : List Expr} {kk : Nat} {tpos : Pos} {e : Expr} {p q : Pos} (ho : attributeBase e ("items" : Str) X.env (eval e X.env) = eval e X.env) (hp : (p.endLine == q.line) = true) (ha : PE X e (tE L B W o a)) :
    PI X (.Tuple elts kk tpos) (.Call (.Attribute e ("items" : Str) p) [] [] q) (tI L B W o k (.items a)) := by
  have z := pi_items (X := X) (elts := elts) (kk := kk) (tpos := tpos) (pe_lk ha) ho hp
  refine ⟨fun pins s σ H R I h => z.run pins s σ H R I ?_⟩
  exact dctR (J := Iti) (g := fun kvs => kvs.map fun p => .tup [p.1, p.2]) (fun E st => by
    rw [evI]
    all_goals congr 1) (fun f e r z => it_items f e r z) h
theorem pi_valsM (f : Fx C L o B X W) {tg e : Expr} {p q : Pos} (ho : attributeBase e ("values" : Str) X.env (eval e X.env) = eval e X.env) (hp : (p.endLine == q.line) = true) (ha : PE X e (tE L B W o a)) :
    PI X tg (.Call (.Attribute e ("values" : Str) p) [] [] q) (tI L B W o k (.vals a)) := by
  have z := pi_values (X := X) (tg := tg) (pe_lk ha) ho hp
  refine ⟨fun pins s σ H R I h => z.run pins s σ H R I ?_⟩
  exact dctR (J := Itd) (g := fun kvs => kvs.map (·.2)) (fun E st => by
    rw [evI]
    all_goals congr 1) (fun f e r z => it_vals f e r z) h
end
end Mp

end
section
set_option Elab.async false
set_option linter.all false
set_option maxRecDepth 100000
set_option maxHeartbeats 4000000
/-! S16: list(..), comprehensions. -/
namespace Mp
open PySem PySem.Spec PyProof.Rows L2
section
variable {C : CC} {L : Lk} {B : Bs} {W : WX} {o : Orc} {X : Cx} {m m0 m1 m2 m' : List Addr} {F F0 F1 F2 F' : Addr → Prop} {H H0 H1 H2 H' : Hp} {E : Env} {st st' st1 : Sto} {σ : L2.St} {Q : V → Hp → Prop} {R : It → Hp → Prop} {me a b c : ME} {es : List ME} {k : Bool}
theorem bind_assoc {α β γ : Type} (r : ER α) (f : α → Sto → ER β) (g : β → Sto → ER γ) : (r.bind f).bind g = r.bind fun a st => (f a st).bind g := by cases r <;> rfl
theorem rgV_rep {lo hi : Int} : RepL L m F H ((List.range (hi - lo).toNat).map fun (k : Nat) => .int (lo + k)) (rgV lo hi) := by
  unfold rgV
  have : ∀ l : List Nat, RepL L m F H (l.map fun (k : Nat) => D.int (lo + k)) (l.map fun i => V.int (lo + (i : Nat))) := fun l => by
    induction l with
    | nil => simp only [List.map_nil, RepL]
    | cons x l ih => simp only [List.map_cons, RepL, Rep]; exact ⟨trivial, ih⟩
  exact this _
theorem rgOk_of {lo hi : Int} {ds : List D} (h : rangeL lo hi = some ds) : RgOk lo hi := by
  obtain ⟨⟨h1, h2, h3, h4, h5⟩, _⟩ := rangeL_ok h
  unfold szMax at h1
  exact ⟨by omega, by omega, by omega, by omega, by omega⟩
theorem pe_lsRg1M (f : Fx C L o B X W) (hc : C.cold = true) {e : Expr} {p p2 p3 p4} (hg : glB C ("list" : Str) = true) (hg2 : glB C ("range" : Str) = true) (he : okE e = true) (ha : PE X e (tE L B W o a)) :
    PE X (.Call (.Name ("list" : Str) p) [.Call (.Name ("range" : Str) p3) [e] [] p4] [] p2) (tE L B W o (.lsI (.rg1 a))) := by
  obtain ⟨h1, h2, h3⟩ := f.gl hg
  obtain ⟨g1, g2, g3⟩ := f.gl hg2
  refine (pe_listRg (f.cold hc) h1 (f.blt _ lstNm) (prg_1 (p := p3) (pos := p4) g1 (f.blt _ rngNm) ha (okE_star he _ _)) rfl).imp fun σ H Q ⟨m, F, E, st, S, h⟩ => ?_
  rw [evE, evI, bind_assoc] at h
  refine tE.mono (fun x H1 ⟨m1, F1, st1, v, X1, X01, S1, r1, h1⟩ => ?_) (tE_bind Ext.refl S h)
  cases e : v.d with
  | int n =>
    rw [e] at h1
    cases e2 : rangeL 0 n with
    | none => simp only [e2] at h1; exact h1.elim
    | some ds =>
      simp only [e2] at h1
      have h2 : Post L B W m F H E σ (.ok (.new (.lst ds)) st1) Q := h1
      obtain ⟨h4, rfl⟩ := rangeL_ok e2
      exact ⟨n, r1.int S1 e, rgOk_of e2, fun q hq => (Post.res X01 S1 h2).n q _ hq ⟨_, rfl, rgV_rep, by rw [List.length_map, List.length_range]; exact h4.1⟩⟩
  | _ => rw [e] at h1; exact h1.elim
theorem pe_lsRg2M (f : Fx C L o B X W) (hc : C.cold = true) {e e' : Expr} {p p2 p3 p4} (hg : glB C ("list" : Str) = true) (hg2 : glB C ("range" : Str) = true) (he : okE e = true) (he' : okE e' = true) (ha : PE X e (tE L B W o a)) (hb : PE X e' (tE L B W o b)) :
    PE X (.Call (.Name ("list" : Str) p) [.Call (.Name ("range" : Str) p3) [e, e'] [] p4] [] p2) (tE L B W o (.lsI (.rg2 a b))) := by
  obtain ⟨h1, h2, h3⟩ := f.gl hg
  obtain ⟨g1, g2, g3⟩ := f.gl hg2
  refine (pe_listRg (f.cold hc) h1 (f.blt _ lstNm) (prg_2 (p := p3) (pos := p4) g1 (f.blt _ rngNm) ha hb (okE_star he _ _) (okE_star he' _ _) (allOk_any (by simp [he']))) rfl).imp fun σ H Q ⟨m, F, E, st, S, h⟩ => ?_
  rw [evE, evI, bind_assoc] at h
  refine tE.mono (fun x H1 ⟨m1, F1, st1, v, X1, X01, S1, r1, h1⟩ => ?_) (tE_bind Ext.refl S h)
  rw [bind_assoc] at h1
  refine tE.mono (fun y H2 ⟨m2, F2, st2, w, X2, X02, S2, r2, h2⟩ => ?_) (tE_bind X01 S1 h1)
  cases e : v.d with
  | int i =>
    cases e3 : w.d with
    | int j =>
      rw [e, e3] at h2
      cases e2 : rangeL i j with
      | none => simp only [e2] at h2; exact h2.elim
      | some ds =>
        simp only [e2] at h2
        have h2 : Post L B W m F H E σ (.ok (.new (.lst ds)) st2) Q := h2
        obtain ⟨h4, rfl⟩ := rangeL_ok e2
        exact ⟨i, j, (r1.ext X2).int S2 e, r2.int S2 e3, rgOk_of e2, fun q hq => (Post.res X02 S2 h2).n q _ hq ⟨_, rfl, rgV_rep, by rw [List.length_map, List.length_range]; exact h4.1⟩⟩
    | _ => rw [e, e3] at h2; exact h2.elim
  | _ => rw [e] at h2; exact h2.elim

/-! a container that is being made -/
theorem Ext.updFree {p : Addr} {u : HO} (X1 : Ext m0 F0 H0 m F H) (h0 : H0 p = none) (nf : ¬ F p) : Ext m0 F0 H0 m F (upd H p u) := by
  refine ⟨X1.mp, X1.fm, X1.fn, fun a o e h1 h2 => ?_, fun a fa o e => ?_, fun a e => ?_⟩
  · rw [upd_ne (fun z => by rw [z, h0] at e; cases e)]
    exact X1.kp a o e h1 h2
  · have ne : a ≠ p := fun z => by subst z; exact nf (X1.fm _ fa)
    rw [upd_ne ne]
    exact X1.st a fa o e
  · by_cases ne : a = p
    · subst ne; exact h0
    · rw [upd_ne ne] at e; exact X1.tr a e
theorem Mono.updFree {p : Addr} {u : HO} (nf : ¬ F p) : Mono m F H m F (upd H p u) := ⟨fun _ _ h => h, fun _ h => h, fun a fa o e => by
  have ne : a ≠ p := fun z => by subst z; exact nf fa
  rw [upd_ne ne]; exact .inl e⟩
theorem Sim.updFree {p : Addr} {u : HO} (S : Sim L B m F E st σ H) (nf : ¬ F p) (nm : p ∉ m) (no : ∀ i, ¬ OwnAt E σ i p) (hb : B.H p = none) : Sim L B m F E st σ (upd H p u) := by
  have M : Mono m F H m F (upd H p u) := Mono.updFree nf
  have kp : ∀ a o, a ≠ p → H a = some o → upd H p u a = some o := fun a o ne e => by rw [upd_ne ne]; exact e
  refine ⟨⟨fun n d e => ?_, S.wd.ln, S.wd.nd, fun a fa => ⟨fun z => ?_, (S.wd.ft a fa).2⟩⟩, S.ex.updFree hb nf, fun i v e => ?_, S.ln, S.ij⟩
  · obtain ⟨a, e1, r⟩ := S.wd.ce n d e
    exact ⟨a, e1, r.mono M fun o q => kp a o (fun z => nm (z ▸ List.mem_of_getElem? e1)) q⟩
  · have ne : a ≠ p := fun z => by subst z; exact nf fa
    rw [upd_ne ne] at z
    exact (S.wd.ft a fa).1 z
  · obtain ⟨x, e1, r⟩ := S.sl i v e
    refine ⟨x, e1, ?_⟩
    cases v with
    | dat d => exact Rep.mono M _ _ r
    | new d =>
      obtain ⟨a, rfl, r, nf1, nm1, n0⟩ := r
      exact ⟨a, rfl, r.mono M fun o q => kp a o (fun z => no i (by subst z; exact ⟨⟨d, e⟩, e1⟩)) q, nf1, nm1, n0⟩
    | bor d => exact r
    | xv c fs => obtain ⟨q, e, e2, e3, r⟩ := r; exact ⟨q, e, e2, e3, r.mono M⟩
mutual
theorem patA_sl : ∀ {p : Pat} {d : D} {l}, patA p d = some l → l.map (·.1) = patSl p
  | .v i, d, l, h => by simp only [patA, Option.some.injEq] at h; subst h; rfl
  | .t ps, d, l, h => by
    unfold patA at h
    split at h
    · simp only [patSl]; exact patAL_sl h
    · cases h
theorem patAL_sl : ∀ {ps : List Pat} {ds : List D} {l}, patAL ps ds = some l → l.map (·.1) = patSl.patSlL ps
  | [], [], l, h => by simp only [patAL, Option.some.injEq] at h; subst h; rfl
  | [], _ :: _, _, h => by simp [patAL] at h
  | _ :: _, [], _, h => by simp [patAL] at h
  | p :: ps, d :: ds, l, h => by
    simp only [patAL] at h
    cases e1 : patA p d with
    | none => rw [e1] at h; cases h
    | some a =>
      cases e2 : patAL ps ds with
      | none => rw [e1, e2] at h; cases h
      | some b =>
        rw [e1, e2] at h
        cases h
        simp only [patSl.patSlL, List.map_append, patA_sl e1, patAL_sl e2]
end
theorem wipe_get {σ : L2.St} : ∀ {vs : List Nat} {i : Nat}, i ∉ vs → (wipe σ vs)[i]? = σ[i]?
  | [], _, _ => rfl
  | v :: vs, i, h => by
    unfold wipe
    rw [List.mem_cons, not_or] at h
    rw [List.getElem?_set_ne (Ne.symm h.1), wipe_get h.2]
theorem wipe_in {σ : L2.St} : ∀ {vs : List Nat} {i : Nat}, i ∈ vs → i < σ.length → (wipe σ vs)[i]? = some none
  | v :: vs, i, h, hl => by
    unfold wipe
    by_cases e : i = v
    · subst e
      rw [List.getElem?_set_self (by rw [wipe_length]; exact hl)]
    · rw [List.getElem?_set_ne (Ne.symm e)]
      exact wipe_in (by simpa [e] using h) hl
theorem wipe_eq {σ τ : L2.St} {vs : List Nat} (hl : σ.length = τ.length) (h : ∀ i, i ∉ vs → σ[i]? = τ[i]?) : wipe σ vs = wipe τ vs := by
  refine List.ext_getElem? fun i => ?_
  by_cases hi : i ∈ vs
  · by_cases hz : i < σ.length
    · rw [wipe_in hi hz, wipe_in hi (by rw [← hl]; exact hz)]
    · rw [List.getElem?_eq_none (by rw [wipe_length]; omega), List.getElem?_eq_none (by rw [wipe_length]; omega)]
  · rw [wipe_get hi, wipe_get hi, h i hi]
theorem setV_len : ∀ (vl : List (Nat × V)) (σ : L2.St), (setV vl σ).length = σ.length
  | [], _ => rfl
  | (_, _) :: r, σ => by simp only [setV]; rw [setV_len r]; simp
theorem setV_get : ∀ (vl : List (Nat × V)) (σ : L2.St) (i : Nat), i ∉ vl.map (·.1) → (setV vl σ)[i]? = σ[i]?
  | [], _, _, _ => rfl
  | (j, v) :: r, σ, i, h => by
    simp only [setV, List.map_cons, List.mem_cons, not_or] at h ⊢
    rw [setV_get r _ i h.2, List.getElem?_set_ne (Ne.symm h.1)]
theorem PairA.sl : ∀ {l : List (Nat × D)} {vl : List (Nat × V)}, PairA L m F H l vl → vl.map (·.1) = l.map (·.1)
  | [], [], _ => rfl
  | (i, d) :: l, (j, v) :: vl, h => by simp only [List.map_cons]; rw [h.1, PairA.sl h.2.2]
  | [], _ :: _, h => h.elim
  | _ :: _, [], h => h.elim
end
end Mp

end
section
set_option Elab.async false
set_option linter.all false
set_option maxRecDepth 100000
set_option maxHeartbeats 4000000
/-! S17: comprehensions. -/
namespace Mp
open PySem PySem.Spec PyProof.Rows L2
def wNo : WX := fun _ _ _ _ => False
/-- a clause's test by the evaluator -/
def PostT (L : Lk) (B : Bs) (m : List Addr) (F : Addr → Prop) (H : Hp) (E : Env) (σ : L2.St) (r : ER Val) (Q : Bool → Hp → Prop) : Prop :=
  match r with
  | .ok v st => ∀ m' F' H', Ext m F H m' F' H' → Sim L B m' F' E st σ H' → ∃ t, v = .dat (.bl t) ∧ Q t H'
  | _ => False
section
variable {C : CC} {L : Lk} {B : Bs} {W : WX} {o : Orc} {X : Cx} {m m0 m1 m2 m' : List Addr} {F F0 F1 F2 F' : Addr → Prop} {H H0 H1 H2 H' : Hp} {E : Env} {st st' st0 st1 : Sto} {σ : L2.St} {Q : V → Hp → Prop} {R : It → Hp → Prop} {me a b c : ME} {es : List ME} {k : Bool}
/-- the state of a comprehension at turn i -/
def LcI (L : Lk) (B : Bs) (W : WX) (o : Orc) (a : ME) (cf : Env → Sto → ER Val) (p : Pat) (m0 : List Addr) (F0 : Addr → Prop) (H0 : Hp) (m1 : List Addr) (F1 : Addr → Prop) (H1 : Hp) (E : Env) (σ : L2.St) (Q : V → Hp → Prop) (ds : List D) (D : Addr) (i : Nat) (H2 : Hp) : Prop :=
  ∃ m2 F2 st2 acc accd, Ext m1 F1 H1 m2 F2 H2 ∧ Sim L B m2 F2 E st2 σ H2 ∧ H2 D = some (.lst acc) ∧ RepL L m2 F2 H2 accd acc ∧ D ∉ m2 ∧ ¬ F2 D ∧ accd.length ≤ i ∧ i ≤ ds.length ∧
    Post L B W m0 F0 H0 E σ ((compL (fun E' st' => evE o a E' st') cf p E (ds.drop i) st2 accd.reverse).bind fun l st => .ok (.new (.lst l)) st) Q
theorem Sim.noown {p : Addr} (S : Sim L B m F E st σ H) (hp : H p = none) : ∀ i, ¬ OwnAt E σ i p := fun i q => S.ownThere q hp
theorem lc_R {cf : Env → Sto → ER Val} {p : Pat} {J : It} {ds : List D} {tt : TT} (eK : L.K = X.K) (X01 : Ext m0 F0 H0 m1 F1 H1) (S1 : Sim L B m1 F1 E st1 σ H1) (hJ : ItOk L m1 F1 H1 (OwnS false E σ) J ds)
    (h : Post L B W m0 F0 H0 E σ ((compL (fun E' st' => evE o a E' st') cf p E ds st1 []).bind fun l st => .ok (.new (.lst l)) st) Q)
    (ht : ∀ m F H E' st σ2 (Q' : Bool → Hp → Prop), Sim L B m F E' st σ2 H → PostT L B m F H E' σ2 (cf E' st).nox Q' → tt σ2 H Q') (D : Addr) (hD : H1 D = none) :
    ∃ W' : Nat → Nat → Hp → Prop, (∃ m, W' 0 m (upd H1 D (.lst []))) ∧ ∀ i m H, W' i m H →
      (J.stop i H ∧ Q (.ref D) H) ∨ (J.go i H ∧ ∃ Nx : Hp → Prop, (∀ H', Nx H' → ∃ m', m' < m ∧ W' (i + 1) m' H') ∧ ∀ x H', J.yld i H x H' → tgP X.K p x (wipe σ (patSl p)) H' fun σ2 H2 => wipe σ2 (patSl p) = wipe σ (patSl p) ∧ tt σ2 H2 fun b H3 =>
        if b = true then tE L B wNo o a σ2 H3 fun y H4 => ∃ acc, H4 D = some (.lst acc) ∧ acc.length < sizeLine ∧ Nx (upd H4 D (.lst (acc ++ [y]))) else Nx H3) := by
  have no1 := S1.noown hD
  have nB : B.H D = none := S1.ex.tr D hD
  refine ⟨fun i k H => k = ds.length - i ∧ LcI L B W o a cf p m0 F0 H0 m1 F1 H1 E σ Q ds D i H, ⟨_, rfl, m1, F1, st1, [], [], Ext.fresh hD, S1.fresh hD, upd_same, by simp only [RepL], S1.notcell hD, fun z => (S1.wd.ft D z).1 hD, Nat.le_refl _, Nat.zero_le _, h⟩, ?_⟩
  rintro i k H2 ⟨rfl, m2, F2, st2, acc, accd, X2, S2, eD, rA, nm2, nf2, hl, hi, hp⟩
  have hO : ∀ a, OwnS false E σ a → ∀ o, H1 a = some o → H2 a = some o := fun a' ⟨_, j, ⟨d, e1⟩, e2⟩ ob eo => by
    obtain ⟨y, e3, q, rfl, r, nf, nm, n0⟩ := S1.sl j _ e1
    rw [e2] at e3; cases e3
    exact X2.kp _ ob eo nm nf
  have X02 := X01.trans X2
  by_cases hlt : i < ds.length
  · have ei : ds[i]? = some ds[i] := List.getElem?_eq_some_iff.mpr ⟨hlt, rfl⟩
    obtain ⟨g1, g2⟩ := hJ.go i _ ei m2 F2 H2 X2.mono hO
    refine .inr ⟨g1, LcI L B W o a cf p m0 F0 H0 m1 F1 H1 E σ Q ds D (i + 1), fun H' z => ⟨ds.length - (i + 1), by omega, rfl, z⟩, fun x H' hy => ?_⟩
    rw [List.drop_eq_getElem_cons hlt, compL] at hp
    cases hpf : patF p ds[i] E with
    | none => simp only [hpf] at hp; exact hp.elim
    | some E' =>
      simp only [hpf] at hp
      obtain ⟨l, hpa, hsl⟩ : ∃ l, patA p ds[i] = some l ∧ setL l E = some E' := by
        unfold patF at hpf
        cases e : patA p ds[i] with
        | none => rw [e] at hpf; cases hpf
        | some l => rw [e] at hpf; exact ⟨l, rfl, hpf⟩
      -- the item
      obtain ⟨F3, X3, S3, r3, eD3, nf3⟩ : ∃ F3, Ext m2 F2 H2 m2 F3 H' ∧ Sim L B m2 F3 E st2 σ H' ∧ Rep L m2 F3 H' ds[i] x ∧ H' D = some (.lst acc) ∧ ¬ F3 D := by
        rcases g2 x H' hy with ⟨rfl, r⟩ | ⟨q, es, vs, hq, rfl, rfl, ed, r, z⟩
        · exact ⟨F2, Ext.refl, S2, r, eD, nf2⟩
        · have hne : D ≠ q := fun z => by rw [z, hq] at eD; cases eD
          have Sf := S2.fresh (u := .tup vs) hq
          refine ⟨Fp F2 q, (Ext.fresh hq).keep hq, Sf.keep (by rw [upd_same]; exact fun z => nomatch z) (S2.notcell hq) (S2.noown hq) (S2.ex.tr q hq), ?_, by rw [upd_ne hne]; exact eD, fun w => w.elim nf2 hne⟩
          rw [ed]
          simp only [Rep]
          have Y : Ext m2 F2 H2 m2 (Fp F2 q) (upd H2 q (.tup vs)) := (Ext.fresh hq).keep hq
          exact ⟨q, vs, rfl, .inl ⟨.inr rfl, .inl upd_same⟩, RepL.mono Y.mono _ _ r, z⟩
      refine ⟨L, m2, F3, ds[i], l, eK, r3, hpa, fun vl hvl => ?_⟩
      have esl : vl.map (·.1) = patSl p := by rw [hvl.sl, patA_sl hpa]
      have S4 : Sim L B m2 F3 E' st2 (setV vl (wipe σ (patSl p))) H' := S3.pat hvl hsl (wipe_length _ _) fun j hj => by
        rw [patA_sl hpa] at hj
        exact wipe_get hj
      refine ⟨wipe_eq (by rw [setV_len, wipe_length]) fun j hj => by rw [setV_get _ _ _ (by rw [esl]; exact hj), wipe_get hj], ht _ _ _ _ _ _ _ S4 ?_⟩
      cases hcf : cf E' st2 with
      | bad => rw [hcf] at hp; exact hp.elim
      | ex xc s => rw [hcf] at hp; exact hp.elim
      | ok v st3 =>
        rw [hcf] at hp
        intro m4 F4 H4 X4 S5
        have hp : Post L B W m0 F0 H0 E σ ((ifV v ((evE o a E' st3).nox.bind fun v st2 => (ER.opt v.kp st2).bind fun r st3 => compL (fun E' st' => evE o a E' st') cf p E (ds.drop (i + 1)) st3 (r :: accd.reverse)) (compL (fun E' st' => evE o a E' st') cf p E (ds.drop (i + 1)) st3 accd.reverse) .bad).bind fun l st => .ok (.new (.lst l)) st) Q := hp
        obtain ⟨t, rfl⟩ : ∃ t, v = .dat (.bl t) := by
          unfold ifV at hp
          split at hp
          · exact ⟨_, rfl⟩
          · exact hp.elim
        refine ⟨t, rfl, ?_⟩
        obtain ⟨k4, nf4, nm4⟩ := X4.own (by rw [eD3]; exact fun z => nomatch z) nm2 nf3
        have eD4 := k4 _ eD3
        have X24 := X3.trans X4
        cases t with
        | false =>
          have hp : Post L B W m0 F0 H0 E σ ((compL (fun E' st' => evE o a E' st') cf p E (ds.drop (i + 1)) st3 accd.reverse).bind fun l st => .ok (.new (.lst l)) st) Q := hp
          exact ⟨m4, F4, st3, acc, accd, X2.trans X24, (S2.call X24 S5.wd), eD4, RepL.mono X24.mono _ _ rA, nm4, nf4, by omega, hlt, hp⟩
        | true =>
          have hp : Post L B W m0 F0 H0 E σ (((evE o a E' st3).nox.bind fun v st2 => (ER.opt v.kp st2).bind fun r st3 => compL (fun E' st' => evE o a E' st') cf p E (ds.drop (i + 1)) st3 (r :: accd.reverse)).bind fun l st => .ok (.new (.lst l)) st) Q := hp
          refine ⟨m4, F4, E', st3, S5, ?_⟩
          cases hev : evE o a E' st3 with
          | bad => rw [hev] at hp; exact hp.elim
          | ex xc s => rw [hev] at hp; exact hp.elim
          | ok w st5 =>
            rw [hev] at hp
            intro m5 F5 y H5 X5 S6 r5
            cases hk : w.kp with
            | none => simp only [ER.nox, ER.bind, hk, ER.opt] at hp; exact hp.elim
            | some r =>
              simp only [ER.nox, ER.bind, hk, ER.opt] at hp
              obtain ⟨F6, X6, S7, r6, _⟩ := VRep.kept X5 S5.beg S6 r5 hk
              obtain ⟨k6, nf6, nm6⟩ := X6.own (by rw [eD4]; exact fun z => nomatch z) nm4 nf4
              have eD6 := k6 _ eD4
              have hlen := rA.len
              have hbig := hJ.len
              refine ⟨acc, eD6, szLt (by omega), m5, F6, st5, acc ++ [y], accd ++ [r], ((X2.trans X24).trans X6).updFree hD nf6, (S2.call (X24.trans X6) S7.wd).updFree nf6 nm6 no1 nB, upd_same, ?_, nm6, nf6, by simp; omega, hlt, by rw [List.reverse_append]; exact hp⟩
              have M7 : Mono m5 F6 H5 m5 F6 (upd H5 D (.lst (acc ++ [y]))) := Mono.updFree nf6
              exact RepL.mono M7 _ _ ((RepL.mono (X24.trans X6).mono _ _ rA).append (by simp only [RepL]; exact ⟨r6, trivial⟩))
  · have e : i = ds.length := by omega
    subst e
    refine .inl ⟨hJ.stop m2 F2 H2 X2.mono hO, ?_⟩
    rw [List.drop_eq_nil_of_le (Nat.le_refl _), compL] at hp
    have hp : Post L B W m0 F0 H0 E σ (.ok (.new (.lst accd.reverse.reverse)) st2) Q := hp
    rw [List.reverse_reverse] at hp
    refine hp m2 F2 _ H2 X02 S2 ⟨D, rfl, ?_, nf2, nm2, X01.tr D hD⟩
    simp only [ORep]
    exact ⟨acc, eD, rA, Nat.le_trans hl hJ.len⟩
theorem own_sl {N : List Str} (l : List Nat) : ((l.map fun i => (N.getD i "", i)).map (·.2)) = l := by
  rw [List.map_map]; exact (List.map_congr_left fun _ _ => rfl).trans (List.map_id l)
theorem fold_ok {e : Expr} {env : PySem.Env} (h : ∀ l k p, e ≠ .Set l k p) (x : Value) : foldedSetIterable e env x = pure x := by
  cases e <;> first | rfl | exact absurd rfl (h _ _ _)
theorem lc_tI {cf : Env → Sto → ER Val} {it : MI} {p : Pat} {tt : TT} (eK : L.K = X.K) (ht : ∀ m F H E' st σ2 (Q' : Bool → Hp → Prop), Sim L B m F E' st σ2 H → PostT L B m F H E' σ2 (cf E' st).nox Q' → tt σ2 H Q')
    (h : ∃ m F E st, Sim L B m F E st σ H ∧ Post L B W m F H E σ ((evI o false it E st).bind fun ds st1 => (compL (fun E' st' => evE o a E' st') cf p E ds st1 []).bind fun l st2 => .ok (.new (.lst l)) st2) Q) :
    tLc (tI L B W o false it) (tgP X.K p) tt (tE L B wNo o a) (patSl p) σ H Q := by
  obtain ⟨m, F, E, st, S, h⟩ := h
  refine ⟨m, F, E, st, S, ?_⟩
  cases e : evI o false it E st with
  | bad => rw [e] at h; exact h.elim
  | ex xc s => rw [e] at h; exact h
  | ok ds st1 =>
    rw [e] at h
    intro m1 F1 J H1 X1 S1 hJ D hD
    exact lc_R eK X1 S1 hJ h ht D hD
theorem PI.imp {tg iter : Expr} {t t' : TI} (h : PI X tg iter t) (q : ∀ σ H R, t' σ H R → t σ H R) : PI X tg iter t' := ⟨fun pins s σ H R I z => h.run pins s σ H R I (q _ _ _ z)⟩
/-- [e for p in it] -/
theorem pe_lcM (f : Fx C L o B X W) (hc : C.cold = true) {x tg iter : Expr} {scope : Scope} {pos : Pos} {it : MI} {p : Pat} (hi : PI X tg iter (tI L B W o false it)) (hs : ∀ l k p, iter ≠ .Set l k p)
    (hb : blkC C.N C.sc scope ((patSl p).map fun i => (C.N.getD i "", i)) = true) (hp : mtP (C.blk scope) p tg = true) (he : ∀ X', Fx (C.blk scope) L o B X' wNo → PE X' x (tE L B wNo o a)) :
    PE X (.ListComp x [⟨tg, iter, [], 0⟩] scope pos) (tE L B W o (.lc a p it)) := by
  have ok := blkOk_by (N := X.N) (sc := X.env.scope) (by rw [f.N, f.sc]; exact hb)
  have z := pe_lc (X := X) (pos := pos) (f.cold hc) (by rw [f.N]; exact f.nd) hi ok (g := tgP X.K p) (tt := tYes) (te := tE L B wNo o a) (fun s H a' cl fp => by
      have fb := f.blk hc s H scope cl a' fp
      exact pgM (X := X.blk s H scope (compEnvC scope cl a' X.env) fp) ⟨fb.N, fb.nd, fb.sc, fb.fl, f.cold hc⟩ hp) (fun s H a' cl fp => pts_nil) (fun s H a' cl fp => he _ (f.blk hc s H scope cl a' fp)) (fold_ok hs)
  rw [own_sl] at z
  refine z.imp fun σ H Q ⟨m, F, E, st, S, h⟩ => lc_tI (cf := fun _ st' => .ok (.dat (.bl true)) st') f.K (fun m F H E' st σ2 Q' S' hq => ?_) ⟨m, F, E, st, S, by rw [evE] at h; exact h⟩
  obtain ⟨t, e, q⟩ := hq m F H Ext.refl S'
  cases e
  exact q
/-- [e for p in it if c] -/
theorem pe_lcfM (f : Fx C L o B X W) (hc : C.cold = true) {x y tg iter : Expr} {scope : Scope} {pos : Pos} {it : MI} {p : Pat} (hi : PI X tg iter (tI L B W o false it)) (hs : ∀ l k p, iter ≠ .Set l k p)
    (hb : blkC C.N C.sc scope ((patSl p).map fun i => (C.N.getD i "", i)) = true) (hp : mtP (C.blk scope) p tg = true) (he : ∀ X', Fx (C.blk scope) L o B X' wNo → PE X' x (tE L B wNo o a)) (hy : ∀ X', Fx (C.blk scope) L o B X' wNo → PT X' y (tTest (tE L B wNo o c))) :
    PE X (.ListComp x [⟨tg, iter, [y], 0⟩] scope pos) (tE L B W o (.lcf a p it c)) := by
  have ok := blkOk_by (N := X.N) (sc := X.env.scope) (by rw [f.N, f.sc]; exact hb)
  have z := pe_lc (X := X) (pos := pos) (f.cold hc) (by rw [f.N]; exact f.nd) hi ok (g := tgP X.K p) (tt := tTest (tE L B wNo o c)) (te := tE L B wNo o a) (fun s H a' cl fp => by
      have fb := f.blk hc s H scope cl a' fp
      exact pgM (X := X.blk s H scope (compEnvC scope cl a' X.env) fp) ⟨fb.N, fb.nd, fb.sc, fb.fl, f.cold hc⟩ hp) (fun s H a' cl fp => pts_one (hy _ (f.blk hc s H scope cl a' fp))) (fun s H a' cl fp => he _ (f.blk hc s H scope cl a' fp)) (fold_ok hs)
  rw [own_sl] at z
  refine z.imp fun σ H Q ⟨m, F, E, st, S, h⟩ => lc_tI (cf := fun E' st' => evE o c E' st') f.K (fun m F H E' st σ2 Q' S' hq => ?_) ⟨m, F, E, st, S, by rw [evE] at h; exact h⟩
  refine ⟨m, F, E', st, S', ?_⟩
  cases e : evE o c E' st with
  | bad => rw [e] at hq; exact hq.elim
  | ex xc s => rw [e] at hq; exact hq.elim
  | ok v st2 =>
    rw [e] at hq
    intro m' F' x H' X1 S1 r1
    obtain ⟨t, rfl, q⟩ := hq m' F' H' X1 S1
    exact ⟨t, r1, q⟩
end
end Mp

end
section
set_option Elab.async false
set_option linter.all false
set_option maxRecDepth 100000
set_option maxHeartbeats 4000000
/-! S17r: repr. -/
namespace Mp
open PySem PySem.Spec PyProof.Rows L2
def rRep (K : PySem.W.Frag) : List V → Hp → VK → Prop := fun xs H Q => ∃ L m F d x, xs = [x] ∧ L.K = K ∧ Look L m F H d x ∧ repOk d = true ∧ Q (.str (toPD d).shown) H
mutual
theorem sh_show {L : Lk} {m : List Addr} {F : Addr → Prop} {H : Hp} : ∀ (d : D) (v : V) (n : Nat), pd d n = true → shO d = true → Rep L m F H d v → (toPD d).showable = true ∧ (toPD d).leavesShort 1921 = true ∧ (toPD d).weight = wt d
  | .non, v, n, _, _, _ => ⟨rfl, rfl, rfl⟩
  | .bl _, v, n, _, _, _ => ⟨rfl, rfl, rfl⟩
  | .int i, v, n, _, h, _ => by
    have h : i.natAbs.log2 < 1920 := of_decide_eq_true h
    refine ⟨decide_eq_true h, decide_eq_true (int_text_len_1921 h), rfl⟩
  | .str s, v, n, _, _, r => by
    simp only [Rep] at r
    refine ⟨rfl, ?_, by simp [toPD, PyData.weight, wt, strV]⟩
    simp only [toPD, PyData.leavesShort, strV]
    rw [List.all_eq_true]
    intro c hc
    have := r.2.2 c (by simpa using hc)
    exact decide_eq_true (by omega)
  | .tup xs, v, n, p, h, r => by
    cases n with
    | zero => simp [pd] at p
    | succ n =>
      simp only [Rep] at r
      obtain ⟨a, vs, _, _, rl, _⟩ := r
      simp only [pd] at p
      simp only [shO] at h
      obtain ⟨h1, h2, h3⟩ := sh_showL xs vs n p h rl
      exact ⟨h1, h2, h3⟩
  | .lst xs, v, n, p, h, r => by
    cases n with
    | zero => simp [pd] at p
    | succ n =>
      simp only [Rep] at r
      obtain ⟨a, vs, _, _, _, rl, _⟩ := r
      simp only [pd] at p
      simp only [shO] at h
      obtain ⟨h1, h2, h3⟩ := sh_showL xs vs n p h rl
      exact ⟨h1, h2, h3⟩
  | .dct _, _, _, p, _, _ => by simp [pd] at p
  | .set _, _, _, p, _, _ => by simp [pd] at p
  | .obj _ _, _, _, p, _, _ => by simp [pd] at p
  | .ref _, _, _, p, _, _ => by simp [pd] at p
  | .fn _, _, _, p, _, _ => by simp [pd] at p
  | .scr _, _, _, p, _, _ => by simp [pd] at p
  | .bad, _, _, p, _, _ => by simp [pd] at p
theorem sh_showL {L : Lk} {m : List Addr} {F : Addr → Prop} {H : Hp} : ∀ (ds : List D) (vs : List V) (n : Nat), pdL ds n = true → shOL ds = true → RepL L m F H ds vs → PyData.showableAll (toPDL ds) = true ∧ PyData.leavesShortAll 1921 (toPDL ds) = true ∧ PyData.weightAll (toPDL ds) = wtL ds
  | [], _, _, _, _, _ => ⟨rfl, rfl, rfl⟩
  | d :: ds, vs, n, p, h, r => by
    cases vs with
    | nil => simp only [RepL] at r
    | cons v vs =>
      simp only [RepL] at r
      simp only [pdL, Bool.and_eq_true] at p
      simp only [shOL, Bool.and_eq_true] at h
      obtain ⟨a1, a2, a3⟩ := sh_show d v n p.1 h.1 r.1
      obtain ⟨b1, b2, b3⟩ := sh_showL ds vs n p.2 h.2 r.2
      refine ⟨?_, ?_, ?_⟩
      · simp only [toPDL, PyData.showableAll, a1, b1, Bool.and_self]
      · simp only [toPDL, PyData.leavesShortAll, a2, b2, Bool.and_self]
      · simp only [toPDL, PyData.weightAll, wtL, a3, b3]
end
mutual
theorem same_pd : ∀ (a b : D), same a b = true → toPD a = toPD b
  | .non, b, h => by cases b <;> simp [same] at h; rfl
  | .bl x, b, h => by cases b <;> simp [same] at h; subst h; rfl
  | .int x, b, h => by cases b <;> simp [same] at h; subst h; rfl
  | .str x, b, h => by cases b <;> simp [same] at h; subst h; rfl
  | .tup xs, b, h => by cases b <;> simp [same] at h; simp only [toPD]; rw [sameL_pd _ _ h]
  | .lst xs, b, h => by cases b <;> simp [same] at h; simp only [toPD]; rw [sameL_pd _ _ h]
  | .dct _, b, h => by cases b <;> simp [same] at h
  | .set _, b, h => by cases b <;> simp [same] at h
  | .obj _ _, b, h => by cases b <;> simp [same] at h
  | .ref _, b, h => by cases b <;> simp [same] at h
  | .fn _, b, h => by cases b <;> simp [same] at h
  | .scr _, b, h => by cases b <;> simp [same] at h
  | .bad, b, h => by cases b <;> simp [same] at h
theorem sameL_pd : ∀ (a b : List D), sameL a b = true → toPDL a = toPDL b
  | [], b, h => by cases b <;> simp [sameL] at h; rfl
  | x :: xs, b, h => by
    cases b with
    | nil => simp [sameL] at h
    | cons y ys =>
      simp only [sameL, Bool.and_eq_true] at h
      simp only [toPDL, same_pd _ _ h.1, sameL_pd _ _ h.2]
end
section
variable {C : CC} {L : Lk} {B : Bs} {W : WX} {o : Orc} {X : Cx} {m m0 m1 m2 m' : List Addr} {F F0 F1 F2 F' : Addr → Prop} {H H0 H1 H2 H' : Hp} {E : Env} {st st' st0 st1 : Sto} {σ : L2.St} {Q : V → Hp → Prop} {a b c : ME}
theorem call_reprM (hu : X.A.units + 64 < cLine) (hg : X.A.guards = some []) : CallR X (.builtin "repr") (rRep X.K) := by
  intro pins s σ H xs us Q I rx h
  obtain ⟨L, m, F, d, x, rfl, eK, hl, hok, q⟩ := h
  unfold repOk at hok
  simp only [Bool.and_eq_true, decide_eq_true_eq] at hok
  obtain ⟨⟨p, hs⟩, hw⟩ := hok
  obtain ⟨u, rfl, ru⟩ := Vals.one rx
  have facts : (toPD d).showable = true ∧ (toPD d).leavesShort 1921 = true ∧ (toPD d).weight = wt d := by
    cases d with
    | lst xs =>
      obtain ⟨a, vs, _, _, rl, _⟩ := hl
      exact sh_showL xs vs 39 (by simpa [pd, pdMax] using p) (by simpa [shO] using hs) rl
    | dct _ => simp [pd] at p
    | set _ => simp [pd] at p
    | obj _ _ => simp [pd] at p
    | _ => exact sh_show (L := L) (m := m) (F := F) (H := H) _ x pdMax p hs hl
  obtain ⟨f1, f2, f3⟩ := facts
  have hsz : (toPD d).shown.length ≤ sizeLine := by
    have := PyData.shown_le 1921 (by decide) (toPD d) f2
    rw [f3] at this
    rw [sizeLine_eq]
    omega
  have dp : Dp X.K H x (toPD d) := eK ▸ dp_look p hl
  have isRef : ∀ a, x = .ref a → wpAny (model X.prog X.w) X.A (call (.builtin "repr") [u]) (EP X pins σ Q) X.xe s := fun a e => by
    subst e
    obtain rfl : u = Value.ref a := ru
    obtain ⟨as, rd⟩ := Dp.reads I (toPD d) (.ref a) (.ref a) dp rfl
    have hd := dep_of d pdMax p
    refine repr_of_reads' (h₀ := s.heap) rd f1 (PyData.noDict_hsm (PyData.hasDict_of_canLay _ (lay_look p hl))) hg (by unfold pdMax at hd; omega) (fun _ _ e => e) (fun h' u tk hk => ⟨.str _, H, I.kept (t' := tk) hk, ⟨_, rfl⟩, q⟩) hsz
  cases d with
  | non => cases (show x = .non from hl); cases ru; exact PySem.P.repr_of_none ⟨.str _, H, I.tok _, ⟨_, rfl⟩, q⟩
  | bl z => cases (show x = .bl z from hl); cases ru; exact PySem.P.repr_of_bool ⟨.str _, H, I.tok _, ⟨_, rfl⟩, q⟩
  | int z =>
    cases hl.int
    obtain ⟨t, rfl⟩ := ru
    exact PySem.P.repr_of_int (of_decide_eq_true hs) ⟨.str _, H, I.tok _, ⟨_, rfl⟩, q⟩
  | str z =>
    simp only [Look, Rep] at hl
    obtain ⟨rfl, _⟩ := hl
    obtain ⟨t, rfl⟩ := ru
    exact PySem.P.repr_of_str ⟨.str _, H, I.tok _, ⟨_, rfl⟩, q⟩ hsz
  | tup xs => simp only [Look, Rep] at hl; obtain ⟨a, _, e, _⟩ := hl; exact isRef a e
  | lst xs => obtain ⟨a, _, e, _⟩ := hl; exact isRef a e
  | _ => simp [pd] at p
theorem repNm : ("repr" : Str) ∈ bltN := by decide +kernel
theorem repBt : bootBuiltins ("repr" : Str) = some (.builtin "repr") := by first | rfl | kernel_rfl | with_unfolding_all rfl
theorem repOk_lb {d : D} (h : repOk d = true) : d ≠ .bad := by rintro rfl; simp [repOk, pd] at h
theorem neR_R (f : Fx C L o B X W) (h : tE L B W o (.neR a b) σ H Q) : tOp rNe (tCB (rRep X.K) (tCons (tE L B W o a) tNil)) (tCB (rRep X.K) (tCons (tE L B W o b) tNil)) σ H Q := by
  obtain ⟨m, F, E, st, S, h⟩ := h
  rw [evE] at h
  refine tE.mono (fun x H1 ⟨m1, F1, st1, v, X1, X01, S1, r1, h1⟩ => ?_) (tE_bind Ext.refl S h)
  by_cases hr : repOk v.d = true
  · rw [if_pos hr] at h1
    refine ⟨L, m1, F1, v.d, x, rfl, f.K, r1.lk S1 (repOk_lb hr), hr, ?_⟩
    refine tE.mono (fun y H2 ⟨m2, F2, st2, w, X2, X02, S2, r2, h2⟩ => ?_) (tE_bind X01 S1 h1)
    by_cases hr2 : (repOk w.d && same v.d w.d) = true
    · rw [if_pos hr2] at h2
      rw [Bool.and_eq_true] at hr2
      refine ⟨L, m2, F2, w.d, y, rfl, f.K, r2.lk S2 (repOk_lb hr2.1), hr2.1, rfl, ?_⟩
      rw [same_pd _ _ hr2.2, decide_eq_true rfl]
      exact Post.bl X02 S2 h2
    · rw [if_neg hr2] at h2; exact h2.elim
  · rw [if_neg hr] at h1; exact h1.elim
theorem pe_neRM (f : Fx C L o B X W) {y z : Expr} {p1 p2 p3 p4 p : Pos} (hg : glB C ("repr" : Str) = true) (hy : okE y = true) (hz : okE z = true) (ha : PE X y (tE L B W o a)) (hb : PE X z (tE L B W o b)) :
    PE X (.Compare (.Call (.Name ("repr" : Str) p1) [y] [] p2) [.NotEq] [.Call (.Name ("repr" : Str) p3) [z] [] p4] p) (tE L B W o (.neR a b)) ∧ PT X (.Compare (.Call (.Name ("repr" : Str) p1) [y] [] p2) [.NotEq] [.Call (.Name ("repr" : Str) p3) [z] [] p4] p) (tTest (tE L B W o (.neR a b))) := by
  obtain ⟨h1, h2, h3⟩ := f.gl hg
  have r := call_reprM (X := X) f.hu4 f.gd
  have e1 : PE X (.Call (.Name ("repr" : Str) p1) [y] [] p2) (tCB (rRep X.K) (tCons (tE L B W o a) tNil)) := pe_callB r h1 (f.blt _ repNm) repBt (pa_cons ha pa_nil (okE_star hy _ _)) h3 h2 (okE_star hy _ _) (allOk_any rfl)
  have e2 : PE X (.Call (.Name ("repr" : Str) p3) [z] [] p4) (tCB (rRep X.K) (tCons (tE L B W o b) tNil)) := pe_callB r h1 (f.blt _ repNm) repBt (pa_cons hb pa_nil (okE_star hz _ _)) h3 h2 (okE_star hz _ _) (allOk_any rfl)
  exact ⟨(pe_cmpR op_ne e1 e2 (okE_mark rfl)).imp fun σ H Q h => neR_R f h, (pt_cmpR op_ne e1 e2 (okE_mark rfl)).imp fun σ H Q h => neR_R f h⟩
end
end Mp

end
section
set_option Elab.async false
set_option linter.all false
set_option maxRecDepth 100000
set_option maxHeartbeats 4000000
/-! S17b: chains, names of defs, calls of a variable, constants. -/
namespace L2
open PySem PySem.Spec PyProof.Rows
theorem any_all {α : Type} (l : List (Bool × α)) (h : l.any (·.1) = false) : l.all (!·.1) = true := by
  rw [List.all_eq_true]
  intro x hx
  rw [List.any_eq_false] at h
  simpa using h x hx
theorem methForm {o : Expr} {m : Str} {apos pos : Pos} {es : List Expr} {env : PySem.Env} (h : Mp.okM o = true) (hp : (apos.endLine == pos.line) = true) (ha : (backTo pos (starEach es env)).any (·.1) = false) (hl : es.length < 30) : ∃ pl : Sem Bool, eval (.Call (.Attribute o m apos) es [] pos) env = (do
      let ov ← eval o env
      standAt apos.atName
      let (f, first) ← holding [ov] (getMethod ov m pl)
      callWith pos f first (backTo pos (starEach es env)) (backToKw pos (keywordEach [] env))) := by
  have hf : methodCallForm (es.length + 0) (backTo pos (starEach es env)) (backToKw pos (keywordEach [] env)) = true := by
    unfold methodCallForm
    rw [any_all _ ha]
    show (true && true && decide (es.length + 0 + 0 < 30)) = true
    simp [hl]
  refine ⟨(do return (← importBound o env).getD true), ?_⟩
  have e : eval (.Call (.Attribute o m apos) es [] pos) env = (do
      let ov ← attributeBase o m env (eval o env)
      standAt apos.atName
      methodCall o m apos pos env ov (es.length + 0) (backTo pos (starEach es env)) (backToKw pos (keywordEach [] env))) := by rw [eval]; rfl
  rw [e]
  have e2 : attributeBase o m env (eval o env) = eval o env := by
    cases o <;> try (first | (simp [Mp.okM] at h; done) | rfl)
    rename_i f as kws q
    cases f <;> try (first | (simp [Mp.okM] at h; done) | rfl)
    cases as with
    | nil => simp [Mp.okM] at h
    | cons a as => rfl
  rw [e2]
  unfold methodCall calleeOf methodCallPos
  rw [hf, hp]
  rfl
section
variable {X : Cx} {W : WX} {x m : Str} {p pos apos : Pos} {e o : Expr} {es : List Expr} {t : TA} {ta : TE}
/-- a method is found, and what it promises -/
def MethAt (X : Cx) (m : Str) (a : Addr) (H1 : Hp) (R : Sp → Prop) : Prop := ∃ (C dx f : Addr) (fs : List (Str × V)) (k : Nat) (fd : FuncData) (ps : List Str) (sp : Sp), H1 a = some (.ins C dx fs) ∧ fs.lookup m = none ∧ L2.Cls X.K C ∧ Meth X.K C m f ∧
  FnG X.prog X.w X.K X.mg X.base (L2N.CX X.prog X.w) k f fd ps sp ∧ RoomG k X.A ∧ Binds X.K fd ps [] ∧ R sp
theorem pe_methGS (he : PE X o ta) (ho : Mp.okM o = true) (hps : (apos.endLine == pos.line) = true) (hall : (backTo pos (starEach (e :: es) X.env)).any (·.1) = false) (h30 : (e :: es).length < 30) (tk : L2N.Takes X W) (ha : PA X (e :: es) t)
    (hst : starEach (e :: es) X.env = (false, eval e X.env) :: starEach es X.env) (hpl : (backTo pos (starEach es X.env)).any (·.1) = false) :
    PE X (.Call (.Attribute o m apos) (e :: es) [] pos) (fun σ H Q => ta σ H fun x H1 => ∃ a, x = .ref a ∧ MethAt X m a H1 fun sp => t σ H1 fun vs H2 => sp (.ref a :: vs) H2 Q (fun cls d H' => W cls d σ H')) := by
  obtain ⟨pl, ht⟩ := methForm (m := m) (apos := apos) (pos := pos) (es := e :: es) (env := X.env) ho hps hall h30
  refine ⟨fun pins s σ H Q I h => ?_⟩
  refine PySem.W.methodCall_KW (pl := pl) (thn (he.run pins s σ H _ I h) fun u s1 ⟨x, H1, I1, rx, a, ex, C, dx, f, fs, k, fd, ps, sp, ea, l, c, hm, F, hr, hb, q⟩ => ?_) ht
  subst ex
  obtain rfl : u = Value.ref a := rx
  refine getmeth_ok I1 ea c hm l ?_
  refine PySem.W.callWith_K (first := [.ref a]) (h₀ := X.base) I.ok.mod.kin hm.kp (thn (ha.run pos pins s1 σ H1 _ I1 q) fun us s2 ⟨vs, H2, I2, r, q2⟩ => ⟨I2.kIn, ?_⟩) hst hpl
  exact run_fnGS (us := .ref a :: us) (vs := .ref a :: vs) F hr hb tk I2 (.cons rfl r) q2
theorem pe_methGS0 (he : PE X o ta) (ho : Mp.okM o = true) (hps : (apos.endLine == pos.line) = true) (tk : L2N.Takes X W) :
    PE X (.Call (.Attribute o m apos) [] [] pos) (fun σ H Q => ta σ H fun x H1 => ∃ a, x = .ref a ∧ MethAt X m a H1 fun sp => sp [.ref a] H1 Q (fun cls d H' => W cls d σ H')) := by
  obtain ⟨pl, ht⟩ := methForm (m := m) (apos := apos) (pos := pos) (es := []) (env := X.env) ho hps rfl (by decide)
  refine ⟨fun pins s σ H Q I h => ?_⟩
  refine PySem.W.methodCall_KW (pl := pl) (thn (he.run pins s σ H _ I h) fun u s1 ⟨x, H1, I1, rx, a, ex, C, dx, f, fs, k, fd, ps, sp, ea, l, c, hm, F, hr, hb, q⟩ => ?_) ht
  subst ex
  obtain rfl : u = Value.ref a := rx
  refine getmeth_ok I1 ea c hm l ?_
  exact PySem.W.callWith_K0 (first := [.ref a]) I1.kIn hm.kp (run_fnGS (us := [.ref a]) (vs := [.ref a]) F hr hb tk I1 (.cons rfl .nil) q)
/-- a call of a variable -/
def CallAt (X : Cx) (u : V) (R : Sp → Prop) : Prop := ∃ (f : Addr) (k : Nat) (fd : FuncData) (ps : List Str) (sp : Sp), u = .ref f ∧ PySem.W.keepIn X.K (.ref f) = true ∧ FnG X.prog X.w X.K X.mg X.base (L2N.CX X.prog X.w) k f fd ps sp ∧ RoomG k X.A ∧ Binds X.K fd ps [] ∧ R sp
theorem pe_calvGS {i : Nat} (tk : L2N.Takes X W) (hN : X.N[i]? = some x) (hv : Vis X.env.scope x) (hdb : (x == ("__debug__" : Str)) = false) (hcd : (x == ("__classdict__" : Str)) = false) (ha : PA X (e :: es) t)
    (he : starEach (e :: es) X.env = (false, eval e X.env) :: starEach es X.env) (hpl : (backTo pos (starEach es X.env)).any (·.1) = false) :
    PE X (.Call (.Name x p) (e :: es) [] pos) (fun σ H Q => ∃ u, σ[i]? = some (some u) ∧ CallAt X u fun sp => t σ H fun vs H2 => sp vs H2 Q (fun cls d H' => W cls d σ H')) := by
  refine ⟨fun pins s σ H Q I ⟨u0, hs, f, k, fd, ps, sp, eu, hk, F, hr, hb, q⟩ => ?_⟩
  subst eu
  refine wpAny_Call_Name_kw (thn ((pe_var (pos := p) hN hv hdb hcd).run pins s σ H (fun v H1 => v = .ref f ∧ H1 = H) I ⟨.ref f, hs, rfl, rfl⟩) fun u s1 ⟨v, H1, I1, r1, q1⟩ => ?_)
  obtain ⟨rfl, rfl⟩ := q1
  cases r1
  refine PySem.W.callWith_K (h₀ := X.base) I.ok.mod.kin hk (thn (ha.run pos pins s1 σ _ _ I1 q) fun us s2 ⟨vs, H2, I2, r, q⟩ => ⟨I2.kIn, ?_⟩) he hpl
  exact run_fnGS F hr hb tk I2 r q
end
end L2
namespace Mp
open PySem PySem.Spec PyProof.Rows L2
section
variable {C : CC} {L : Lk} {B : Bs} {W : WX} {o : Orc} {X : Cx} {m m0 m1 m2 m' : List Addr} {F F0 F1 F2 F' : Addr → Prop} {H H0 H1 H2 H' : Hp} {E : Env} {st st' : Sto} {σ : L2.St} {Q : V → Hp → Prop} {me a b c : ME} {es : List ME}
theorem ixfix_mark {op op' : CmpOp} {e e' : Expr} (h : okE e = true) (h' : okE e' = true) : lastMarks [op, op'] [e, e'] = false := by
  cases e <;> cases e' <;> simp [okE] at h h' <;> rfl
theorem tChainM (f : Fx C L o B X W) {o1 o2 : Cp} (h : tE L B W o (.chn o1 o2 a b c) σ H Q) : tChain (rCmp X.K o1) (rCmp X.K o2) (tE L B W o a) (tE L B W o b) (tE L B W o c) σ H Q := by
  obtain ⟨m, F, E, st, S, h⟩ := h
  rw [evE] at h
  refine tE.mono (fun x H1 ⟨m1, F1, st1, v, X1, X01, S1, r1, h1⟩ => ?_) (tE_bind Ext.refl S h)
  refine tE.mono (fun y H2 ⟨m2, F2, st2, w, X2, X02, S2, r2, h2⟩ => ?_) (tE_bind X01 S1 h1)
  cases e : cmpF o1 v.d w.d with
  | none => rw [e] at h2; exact h2.elim
  | some t =>
    rw [e] at h2
    obtain ⟨n1, n2⟩ := cmpF_lb e
    refine ⟨L, m2, F2, v.d, w.d, t, f.K, (r1.ext X2).lk S2 n1, r2.lk S2 n2, e, t, rfl, ?_⟩
    cases t with
    | false => exact Post.bl X02 S2 h2
    | true =>
      refine tE.mono (fun z H3 ⟨m3, F3, st3, u, X3, X03, S3, r3, h3⟩ => ?_) (tE_bind X02 S2 h2)
      obtain ⟨t2, ht, q⟩ := Post.blO X03 S3 h3
      obtain ⟨n3, n4⟩ := cmpF_lb ht
      exact ⟨L, m3, F3, w.d, u.d, t2, f.K, (r2.ext X3).lk S3 n3, r3.lk S3 n4, ht, q⟩
theorem pe_chnM (f : Fx C L o B X W) {o1 o2 : Cp} {x y z : Expr} {p : Pos} (ha : PE X x (tE L B W o a)) (hb : PE X y (tE L B W o b)) (hc : PE X z (tE L B W o c)) (hy : okE y = true) (hz : okE z = true) :
    PE X (.Compare x [cpK o1, cpK o2] [y, z] p) (tE L B W o (.chn o1 o2 a b c)) :=
  (pe_chain (op_cmpM f.hu4 o1) (op_cmpM f.hu4 o2) ha hb hc (ixfix_mark hy hz)).imp fun σ H Q h => tChainM f h
theorem pt_chnM (f : Fx C L o B X W) {o1 o2 : Cp} {x y z : Expr} {p : Pos} (ha : PE X x (tE L B W o a)) (hb : PE X y (tE L B W o b)) (hc : PE X z (tE L B W o c)) (hy : okE y = true) (hz : okE z = true) :
    PT X (.Compare x [cpK o1, cpK o2] [y, z] p) (tTest (tE L B W o (.chn o1 o2 a b c))) :=
  (pt_chain (op_cmpM f.hu4 o1) (op_cmpM f.hu4 o2) ha hb hc (ixfix_mark hy hz)).imp fun σ H Q h => tChainM f h
/-! methods -/
theorem VRep.out {v : Val} {x : V} {d : Mp.D} (h : v.kp = some d) (r : VRep L m F H E σ H0 v x) : (v = .dat d ∧ Rep L m F H d x) ∨ (v = .new d ∧ ∃ a, x = .ref a ∧ ORep L m F H a d ∧ ¬ F a ∧ a ∉ m ∧ H0 a = none) := by
  cases v with
  | dat e => cases h; exact .inl ⟨rfl, r⟩
  | new e => obtain ⟨rfl, _⟩ := kp_new h; exact .inr ⟨rfl, r⟩
  | bor e => cases h
  | xv c fs => cases h
theorem RepF.none (hi : ∀ j k, L.nm j = L.nm k → j = k) {k : Nat} : ∀ {fs : List (Nat × Mp.D)} {fv : List (Str × V)}, RepF L m F H fs fv → fs.lookup k = none → fv.lookup (L.nm k) = none
  | [], [], _, _ => rfl
  | (j, e) :: fs, (x, w) :: fv, r, h => by
    simp only [RepF] at r
    obtain ⟨rfl, r1, r2⟩ := r
    rw [List.lookup_cons] at h ⊢
    by_cases ek : k = j
    · subst ek
      simp at h
    · have e1 : (k == j) = false := by simpa using ek
      have e2 : (L.nm k == L.nm j) = false := by simpa using fun z => ek (hi k j z)
      rw [e1] at h
      rw [e2]
      exact RepF.none hi r2 h
  | [], _ :: _, r, h => by simp only [RepF] at r
  | _ :: _, [], r, h => by simp only [RepF] at r
theorem mthO_some {mth : Nat → Nat → Option Nat} {d : Option Mp.D} {k g : Nat} (h : mthO mth d k = some g) : ∃ c fs, d = some (.obj c fs) ∧ fs.lookup k = none ∧ mth c k = some g := by
  unfold mthO at h
  split at h
  · rename_i c fs
    split at h
    · rename_i hn
      exact ⟨c, fs, rfl, by simpa using hn, h⟩
    · cases h
  · cases h
theorem tMethM (f : Fx C L o B X W) (hc : C.cold = true) {k : Nat} {y : Str} (hy : L.nm k = y) (h : tE L B W o (.meth a k es) σ H Q) :
    tE L B W o a σ H fun x H1 => ∃ a, x = .ref a ∧ MethAt X y a H1 fun sp => tL L B W o es σ H1 fun vs H2 => sp (.ref a :: vs) H2 Q (fun cls d H' => W cls d σ H') := by
  obtain ⟨m, F, E, st, S, h⟩ := h
  rw [evE] at h
  refine tE.mono (fun x H1 ⟨m1, F1, st1, v, X1, X01, S1, r1, h1⟩ => ?_) (tE_bind Ext.refl S h)
  cases em : mthO o.mth (Mp.drf st1 v.d) k with
  | none => rw [em] at h1; exact h1.elim
  | some g =>
    rw [em] at h1
    have h1 : Post L B W m F H E σ ((evL o es E st1).bind fun vs st2 => match v.kp, kpL vs with | some d, some ds => o.call g (d :: ds) st2 | _, _ => .bad) Q := h1
    obtain ⟨c, fs, ed, el, eg⟩ := mthO_some em
    obtain ⟨hcl, hmt, hk⟩ := f.mt c k g eg
    obtain ⟨hkp, k', fd, ps, hr1, FN, hb, hn⟩ := f.fn hc g hk
    have hr := hr1.mono (Nat.le_succ k')
    obtain ⟨a, dx, fv, rfl, eH, rf⟩ := (r1.drf S1 ed).insF
    have hno := RepF.none f.fi rf el
    rw [hy] at hno hmt
    refine ⟨a, rfl, L.cad c, dx, L.fad g, fv, k', fd, ps, _, eH, hno, hcl, hmt, FN, hr, hb, ?_⟩
    refine tL.mono (fun xs H2 ⟨m2, F2, st2, vs, X2, X02, S2, r2, e2, h2⟩ => ?_) (tL_bind X01 S1 h1)
    cases ek : v.kp with
    | none => rw [ek] at h2; exact h2.elim
    | some d0 =>
      rw [ek] at h2
      have ra : VsRep L m2 F2 H2 E σ H (v :: vs) (.ref a :: xs) := VsRep.cons X1 X2 r1 r2
      obtain ⟨ds, F', ek2, X', S', r', h3⟩ := Post.kpl (f := fun ds st => o.call g ds st) X02 S S2 ra (by
        cases e : kpL vs with
        | none => rw [e] at h2; exact h2.elim
        | some ds => rw [e] at h2; simp only [kpL, ek, e]; exact h2)
      refine ⟨?_, m2, F', st2, ds, S'.wd, r', Post.call X' S' h3⟩
      rw [← r'.len]
      exact hn ds st2 fun z => by rw [z] at h3; exact h3
theorem pe_methM (f : Fx C L o B X W) (hc : C.cold = true) {k : Nat} {y : Str} {e : Expr} {l : List Expr} {p p2} (hy : L.nm k = y) (ho : Mp.okM e = true) (hps : (p.endLine == p2.line) = true) (h30 : l.length < 30) (ha : PE X e (tE L B W o a)) (hll : es.length = l.length) (hl : l.all okE = true) (hp : PA X l (tL L B W o es)) :
    PE X (.Call (.Attribute e y p) l [] p2) (tE L B W o (.meth a k es)) := by
  cases l with
  | nil =>
    obtain rfl : es = [] := List.eq_nil_of_length_eq_zero hll
    refine (pe_methGS0 ha ho hps f.tk).imp fun σ H Q h => tE.mono (fun x H1 ⟨a, e, C', dx, g, fs, k', fd, ps, sp, h1, h2, h3, h4, h5, h6, h7, h8⟩ => ⟨a, e, C', dx, g, fs, k', fd, ps, sp, h1, h2, h3, h4, h5, h6, h7, tL_nil h8⟩) (tMethM f hc hy h)
  | cons e1 l =>
    rw [List.all_cons, Bool.and_eq_true] at hl
    exact (pe_methGS ha ho hps (allOk_any (by rw [List.all_cons, Bool.and_eq_true]; exact hl)) h30 f.tk hp (okE_star hl.1 _ _) (allOk_any hl.2)).imp fun σ H Q h => tMethM f hc hy h
/-! names of defs, calls of a variable -/
theorem pe_fnvM (f : Fx C L o B X W) {g : Nat} {x : Str} {p} (hf : C.nm.fns[g]? = some (some x)) (hx : glB C x = true) : PE X (.Name x p) (tE L B W o (.fnv g)) := by
  obtain ⟨g1, gk⟩ := f.fng g x hf
  obtain ⟨h1, h2, h3⟩ := f.gl hx
  refine (pe_glob (v := .ref (L.fad g)) h1 g1 rfl h2).imp fun σ H Q ⟨m, F, E, st, S, h⟩ => ?_
  rw [evE] at h
  exact Post.dat Ext.refl S h (by simp [Rep])
theorem pe_calvM (f : Fx C L o B X W) (hc : C.cold = true) {i : Nat} {x : Str} {l : List Expr} {p p2} (hv : visB C i x = true) (hll : es.length = l.length) (hne : l.isEmpty = false) (hl : l.all okE = true) (ha : PA X l (tL L B W o es)) : PE X (.Call (.Name x p) l [] p2) (tE L B W o (.calv i es)) := by
  obtain ⟨v1, v2, v3, v4⟩ := f.vis hv
  cases l with
  | nil => cases hne
  | cons e l =>
    rw [List.all_cons, Bool.and_eq_true] at hl
    refine (pe_calvGS f.tk v1 v2 v3 v4 ha (okE_star hl.1 _ _) (allOk_any hl.2)).imp fun σ H Q ⟨m, F, E, st, S, h⟩ => ?_
    rw [evE] at h
    split at h
    · rename_i g eE
      by_cases hk : o.fnk g = true
      · rw [if_pos hk] at h
        obtain ⟨hkp, k', fd, ps, hr1, FN, hb, hn⟩ := f.fn hc g hk
        have hr := hr1.mono (Nat.le_succ k')
        obtain ⟨u, eu, ru⟩ := S.sl i _ eE
        obtain rfl : u = .ref (L.fad g) := by simpa [Mp.SlR, Rep] using ru
        exact ⟨_, eu, _, k', fd, ps, _, rfl, hkp, FN, hr, hb, mtArgs (fd := fd) f hn ⟨m, F, E, st, S, by rw [evE]; exact h⟩⟩
      · rw [if_neg hk] at h; exact h.elim
    · exact h.elim
end
end Mp

end
section
set_option Elab.async false
set_option linter.all false
set_option maxRecDepth 100000
set_option maxHeartbeats 4000000
/-! S17c: making instances. -/
namespace L2
open PySem PySem.Spec PyProof.Rows
theorem RoomG.make {k : Nat} {A : Around} (r : RoomG (k + 1) A) (C : Addr) (us : List Value) (kws : List (Str × Value)) : RoomG k (A.under (.builtin "type.__call__" ⟨.ref C :: us, kws⟩)) := ⟨r.r.make C us kws, r.g⟩
section
variable {X : Cx} {k : Nat} {f C : Addr} {fd : FuncData} {ps : List Str} {sp : Sp} {W : WX} {x : Str} {p pos : Pos} {e : Expr} {es : List Expr} {t : TA}
theorem run_makeGS {pins : List (Addr × Obj)} {σ : St} {H : Hp} {s : Shared} {Q : VK} {us : List Value} {vs : List V} (M : Mk X.K C f) (F : FnG X.prog X.w X.K X.mg X.base (L2N.CX X.prog X.w) k f fd ps sp) (hr : RoomG (k + 1) X.A) (hb : Binds X.K fd ps []) (tk : L2N.Takes X W)
    (I : Inv X pins σ H s) (r : Vals vs us)
    (h : ∀ x dx, H x = none → H dx = none → dx ≠ x → sp (.ref x :: vs) (upd (upd H dx (.own x)) x (.ins C dx [])) (fun v H2 => v = .non ∧ Q (.ref x) H2) (fun cls d H' => W cls d σ H')) :
    wpAny (model X.prog X.w) X.A (call (.ref C) us) (EP X pins σ Q) X.xe s := by
  have hq := h (s.heap.objs.size + 1) s.heap.objs.size (I.hok.fresh (Nat.le_succ _)) (I.hok.fresh (Nat.le_refl _)) (Nat.ne_of_lt (Nat.lt_succ_self _))
  have I2 := Inv.made (C := C) I
  have r2 : Vals (V.ref (s.heap.objs.size + 1) :: vs) (Value.ref (s.heap.objs.size + 1) :: us) := .cons rfl r
  have hl : (Value.ref (s.heap.objs.size + 1) :: us).length = ps.length := by
    have e := r2.length
    rw [F.len _ _ _ _ hq] at e
    exact e.symm
  refine wpAny_call (make_map (f := f) I.kIn M.makes M.init (beq_iff_eq.mp M.fn) (codeAny_mono (F.run _ X.stack _ _ ⟨Value.ref (s.heap.objs.size + 1) :: us, []⟩ (Value.ref (s.heap.objs.size + 1) :: us) _ _ _ (hr.make C us [])
    (I2.env0.make C us []) (by have z := hb _ (Value.ref (s.heap.objs.size + 1) :: us) I2.kIn (by rw [List.append_nil]; exact hl); rw [List.append_nil] at z; exact z) r2 hq) fun r s' hq' => ?_))
  cases r with
  | error e => exact tk e s' (L2N.XE.of_call I2 (fun _ _ _ h => h) hq')
  | ok fl =>
    cases fl with
    | ret u =>
      obtain ⟨v, H', I3, rv, ev, q3⟩ := I2.after hq'
      subst ev
      exact ⟨rv, ⟨V.ref (s.heap.objs.size + 1), H', I3, rfl, q3⟩⟩
    | next => exact False.elim hq'
    | brk => exact False.elim hq'
    | cont => exact False.elim hq'
theorem pe_makeGS (M : Mk X.K C f) (F : FnG X.prog X.w X.K X.mg X.base (L2N.CX X.prog X.w) k f fd ps sp) (hr : RoomG (k + 1) X.A) (hg : Gl X x) (hm : X.mg x = some (.ref C)) (hb : Binds X.K fd ps []) (tk : L2N.Takes X W)
    (ha : PA X (e :: es) t) (hdb : (x == ("__debug__" : Str)) = false) (he : starEach (e :: es) X.env = (false, eval e X.env) :: starEach es X.env) (hpl : (backTo pos (starEach es X.env)).any (·.1) = false) :
    PE X (.Call (.Name x p) (e :: es) [] pos) (fun σ H Q => t σ H fun vs H1 => ∀ x dx, H1 x = none → H1 dx = none → dx ≠ x → sp (.ref x :: vs) (upd (upd H1 dx (.own x)) x (.ins C dx [])) (fun v H2 => v = .non ∧ Q (.ref x) H2) (fun cls d H' => W cls d σ H')) := by
  refine ⟨fun pins s σ H Q I h => ?_⟩
  refine wpAny_Call_Name_kw (ld_glob I hg hm ?_ hdb)
  refine PySem.W.callWith_K (h₀ := X.base) I.ok.mod.kin M.kp (thn (ha.run pos pins s σ H _ I h) fun us s1 ⟨vs, H1, I1, r, q⟩ => ⟨I1.kIn, ?_⟩) he hpl
  exact run_makeGS M F hr hb tk I1 r q
theorem pe_makeGS0 (M : Mk X.K C f) (F : FnG X.prog X.w X.K X.mg X.base (L2N.CX X.prog X.w) k f fd ps sp) (hr : RoomG (k + 1) X.A) (hg : Gl X x) (hm : X.mg x = some (.ref C)) (hb : Binds X.K fd ps []) (tk : L2N.Takes X W)
    (hdb : (x == ("__debug__" : Str)) = false) :
    PE X (.Call (.Name x p) [] [] pos) (fun σ H Q => ∀ x dx, H x = none → H dx = none → dx ≠ x → sp [.ref x] (upd (upd H dx (.own x)) x (.ins C dx [])) (fun v H2 => v = .non ∧ Q (.ref x) H2) (fun cls d H' => W cls d σ H')) := by
  refine ⟨fun pins s σ H Q I h => ?_⟩
  refine wpAny_Call_Name_kw (ld_glob I hg hm ?_ hdb)
  exact PySem.W.callWith_K0 I.kIn M.kp (run_makeGS (us := []) M F hr hb tk I .nil h)
end
end L2
namespace Mp
open PySem PySem.Spec PyProof.Rows L2
section
variable {C : CC} {L : Lk} {B : Bs} {W : WX} {o : Orc} {X : Cx} {m m0 m1 m2 m' : List Addr} {F F0 F1 F2 F' : Addr → Prop} {H H0 H1 H2 H' : Hp} {E : Env} {st st' : Sto} {σ : L2.St} {Q : V → Hp → Prop} {me a b c : ME} {es : List ME}
theorem tMakeM {c : Nat} {ps : List Str} (hn : ∀ ds st, o.make c ds st ≠ .bad → ds.length + 1 = ps.length) (h : tE L B W o (.make c es) σ H Q) :
    tL L B W o es σ H fun vs H1 => ∀ x dx, H1 x = none → H1 dx = none → dx ≠ x → (.ref x :: vs).length = ps.length ∧ spI L c (o.make c) (.ref x :: vs) (upd (upd H1 dx (.own x)) x (.ins (L.cad c) dx [])) (fun v H2 => v = .non ∧ Q (.ref x) H2) (fun cls d H' => W cls d σ H') := by
  obtain ⟨m, F, E, st, S, h⟩ := h
  rw [evE] at h
  refine tL.mono (fun xs H1 ⟨m1, F1, st1, vs, X1, X01, S1, r1, e1, h1⟩ x dx hx hdx hne => ?_) (tL_bind Ext.refl S h)
  obtain ⟨ds, F', ek, X', S', r', h2⟩ := Post.kpl (f := fun ds st => o.make c ds st) X01 S S1 r1 (by cases e : kpL vs <;> (rw [e] at h1; exact h1))
  have hnb : o.make c ds st1 ≠ .bad := fun z => by rw [z] at h2; exact h2
  refine ⟨?_, m1, F', H1, st1, ds, x, dx, xs, rfl, S'.wd, r', hx, hdx, hne, rfl, ?_⟩
  · rw [List.length_cons, ← r'.len]
    exact hn ds st1 hnb
  · have z := Post.call X' S' h2
    cases er : o.make c ds st1 with
    | ok v st' => rw [er] at z; exact fun m' F' H' X2 w r => ⟨rfl, z m' F' (.ref x) H' X2 w r⟩
    | ex xc st' => rw [er] at z; exact z
    | bad => exact absurd er hnb
theorem pe_makeM (f : Fx C L o B X W) (hc : C.cold = true) {c : Nat} {x : Str} {l : List Expr} {p p2} (hf : C.nm.cls[c]? = some x) (hm : C.nm.mks.contains c = true) (hx : glB C x = true) (hll : es.length = l.length) (hl : l.all okE = true) (ha : PA X l (tL L B W o es)) : PE X (.Call (.Name x p) l [] p2) (tE L B W o (.make c es)) := by
  have g1 := f.cl c x hf
  obtain ⟨g, M, k, fd, ps, hr, F, hb, hn⟩ := f.mkc hc c hm
  obtain ⟨h1, h2, h3⟩ := f.gl hx
  cases l with
  | nil =>
    obtain rfl : es = [] := List.eq_nil_of_length_eq_zero hll
    exact (pe_makeGS0 M F hr h1 g1 hb f.tk h2).imp fun σ H Q h => tL_nil (tMakeM (ps := ps) hn h)
  | cons e l =>
    rw [List.all_cons, Bool.and_eq_true] at hl
    exact (pe_makeGS M F hr h1 g1 hb f.tk ha h2 (okE_star hl.1 _ _) (allOk_any hl.2)).imp fun σ H Q h => tMakeM (ps := ps) hn h
end
end Mp

end
section
set_option Elab.async false
set_option linter.all false
set_option maxRecDepth 100000
set_option maxHeartbeats 4000000
/-! S17k: a field of an error just made by keywords. -/
namespace Mp
open PySem PySem.Spec PyProof.Rows L2
section
variable {C : CC} {L : Lk} {B : Bs} {W : WX} {o : Orc} {X : Cx} {m m0 m1 m2 m' : List Addr} {F F0 F1 F2 F' : Addr → Prop} {H H0 H1 H2 H' : Hp} {E : Env} {st st' : Sto} {σ : L2.St} {Q : V → Hp → Prop} {me a b c : ME} {es : List ME}
theorem RepF.zip : ∀ {ks : List Nat} {ds : List Mp.D} {vs : List V}, RepL L m F H ds vs → RepF L m F H (ks.zip ds) ((ks.map L.nm).zip vs)
  | [], _, _, _ => by simp [RepF]
  | _ :: _, [], [], _ => by simp [RepF]
  | k :: ks, d :: ds, v :: vs, h => by
    simp only [RepL] at h
    simp only [List.zip_cons_cons, List.map_cons, RepF]
    exact ⟨trivial, h.1, RepF.zip h.2⟩
  | _ :: _, [], _ :: _, h => by simp only [RepL] at h
  | _ :: _, _ :: _, [], h => by simp only [RepL] at h

theorem pk_rows : ∀ {kws : List Keyword} {ms : List ME}, ms.length = kws.length → (∀ (i : Nat) (m : ME) (e : Expr), ms[i]? = some m → (kws.map (·.value))[i]? = some e → PE X e (tE L B W o m)) → PK X kws (tL L B W o ms)
  | [], [], _, _ => ⟨fun pos pins s σ H Q I h => pk_nil.run pos pins s σ H Q I (tL_nil h)⟩
  | [], _ :: _, h, _ => by cases h
  | _ :: _, [], h, _ => by cases h
  | ⟨nm, e, kp⟩ :: kws, m :: ms, hl, h => ⟨fun pos pins s σ H Q I q => (pk_cons (h 0 m e rfl rfl) (pk_rows (by simpa using hl) fun i m' e' h1 h2 => h (i + 1) m' e' h1 h2)).run pos pins s σ H Q I (tL_cons q)⟩
theorem pe_never {e : Expr} {t : TE} (h : ∀ σ H Q, ¬ t σ H Q) : PE X e t := ⟨fun pins s σ H Q I z => (h σ H Q z).elim⟩
theorem pe_xflM (f : Fx C L o B X W) {c k : Nat} {ks : List Nat} {x y : Str} {kws : List Keyword} {p p2 p3 : Pos} (h1 : C.nm.kwx = true) (h2 : C.cold = true) (h3 : C.fl = true) (hx : C.nm.cls[c]? = some x) (hg : glB C x = true) (hy : C.nm.flds[k]? = some y) (hk : ks.contains k = true)
    (hn : kws.map (·.arg) = ks.map fun k => C.nm.flds[k]?) (hs : ∀ k ∈ ks, (C.nm.flds[k]?).isSome = true) (hl : es.length = kws.length) (hp : PK X kws (tL L B W o es)) :
    PE X (.Attribute (.Call (.Name x p) [] kws p2) y p3) (tE L B W o (.xfl c ks es k)) := by
  obtain rfl := f.nm k y hy
  obtain ⟨g1, g2, g3⟩ := f.gl hg
  by_cases hq : kwOk (o.flds c) ks = true
  · have hne : ks ≠ [] := fun z => by rw [z] at hk; cases hk
    have hkl : kws.length = ks.length := by have := congrArg List.length hn; simpa using this
    have hn2 : kws.map (·.arg) = ks.map (fun k => some (L.nm k)) := by
      rw [hn]
      refine List.map_congr_left fun j hj => ?_
      obtain ⟨z, hz⟩ := Option.isSome_iff_exists.mp (hs j hj)
      rw [hz, f.nm j z hz]
    refine (f.xfm h1 h2 h3 c x hx X rfl rfl rfl rfl rfl rfl kws ks k p p2 p3 _ g1 g2 hp hn2 hne hq).imp fun σ H Q ⟨m, F, E, st, S, h⟩ => ?_
    rw [evE, if_pos hq] at h
    refine tL.mono (fun xs H1 ⟨m1, F1, st1, vs, X1, X01, S1, r1, e1, h1⟩ => ?_) (tL_bind Ext.refl S h)
    obtain ⟨ds, F', ek, X', S', r', h2⟩ := Post.kpl (f := fun ds st => ER.opt (((ks.zip ds).lookup k).map .dat) st) X01 S S1 r1 (by cases e : kpL vs <;> (rw [e] at h1; exact h1))
    refine ⟨by rw [← r'.len, ← kpL_len ek, evL_len e1, hl, hkl], ?_⟩
    cases el : (ks.zip ds).lookup k with
    | none => rw [el] at h2; exact h2.elim
    | some d =>
      rw [el] at h2
      obtain ⟨v, hv, rv⟩ := (RepF.zip (L := L) (ks := ks) r').lookup f.fi el
      exact ⟨v, hv, Post.dat X' S' h2 rv⟩
  · refine pe_never fun σ H Q ⟨m, F, E, st, S, h⟩ => ?_
    rw [evE, if_neg hq] at h
    exact h
end
end Mp

end
section
set_option Elab.async false
set_option linter.all false
set_option maxRecDepth 100000
set_option maxHeartbeats 4000000
/-! S18: every expression that the checker takes. -/
namespace Mp
open PySem PySem.Spec PyProof.Rows L2
theorem _root_.L2.PW.imp {X : Cx} {e : Expr} {t t' : TT} (h : PW X e t) (q : ∀ σ H Q, t' σ H Q → t σ H Q) : PW X e t' := ⟨fun wh pins s σ H Q I z => h.run wh pins s σ H Q I (q _ _ _ z)⟩
theorem pt_valM {X : Cx} {e : Expr} {t : TE} (h : PE X e t) (he : ∀ whole, isTrue e X.env whole = (do let v ← whole; standAt e.pos; holding [v] (truthy v))) : PT X e (tTest t) := pt_val h he
theorem pv {X : Cx} {e : Expr} {t : TE} (h : PE X e t) (he : ∀ whole, isTrue e X.env whole = (do let v ← whole; standAt e.pos; holding [v] (truthy v))) : PE X e t ∧ PT X e (tTest t) := ⟨h, pt_val h he⟩
theorem mtL_len {C : CC} : ∀ {ms : List ME} {es : List Expr}, mtL C ms es = true → ms.length = es.length ∧ es.all okE = true
  | [], [], _ => ⟨rfl, rfl⟩
  | [], _ :: _, h => by simp [mtL] at h
  | _ :: _, [], h => by simp [mtL] at h
  | m :: ms, e :: es, h => by
    simp only [mtL, Bool.and_eq_true] at h
    obtain ⟨h1, h2⟩ := mtL_len h.2
    exact ⟨by simp [h1], by simp [h.1.1, h2]⟩
/-- a row of expressions: as arguments, as and, or -/
structure SLs (X : Cx) (L : Lk) (B : Bs) (W : WX) (o : Orc) (ms : List ME) (es : List Expr) : Prop where
  pa : PA X es (tL L B W o ms)
  el : ∀ (i : Nat) (m : ME) (e : Expr), ms[i]? = some m → es[i]? = some e → PE X e (tE L B W o m)
  an : es.isEmpty = false → ∀ p, PE X (.BoolOp .And es p) (tAndM L B W o ms) ∧ PW X (.BoolOp .And es p) (tTest (tAndM L B W o ms))
  or : es.isEmpty = false → ∀ p, PE X (.BoolOp .Or es p) (tOrM L B W o ms) ∧ PW X (.BoolOp .Or es p) (tTest (tOrM L B W o ms))
def SE (me : ME) : Prop := ∀ (C : CC) (L : Lk) (B : Bs) (W : WX) (o : Orc) (X : Cx), Fx C L o B X W → ∀ (e : Expr), mtE C me e = true → PE X e (tE L B W o me) ∧ PT X e (tTest (tE L B W o me))
def SL (ms : List ME) : Prop := ∀ (C : CC) (L : Lk) (B : Bs) (W : WX) (o : Orc) (X : Cx), Fx C L o B X W → ∀ (es : List Expr), mtL C ms es = true → SLs X L B W o ms es
def SI (it : MI) : Prop := ∀ (C : CC) (L : Lk) (B : Bs) (W : WX) (o : Orc) (X : Cx), Fx C L o B X W → ∀ (e : Expr), mtI C it e = true → (∀ tg k, tgOk it tg = true → PI X tg e (tI L B W o k it)) ∧ (∀ l k p, e ≠ .Set l k p)
section
variable {C : CC} {L : Lk} {B : Bs} {W : WX} {o : Orc} {X : Cx}
theorem len2 {α : Type} {l : List α} (h : l.length = 2) : ∃ a b, l = [a, b] := by
  match l, h with
  | [a, b], _ => exact ⟨a, b, rfl⟩
theorem sNil : SL [] := by
  intro C L B W o X f es h
  cases es with
  | nil => exact ⟨pa_nil.imp (fun _ _ _ h => tL_nil h), (fun i m e h => by simp at h), (fun z => absurd z (by decide)), (fun z => absurd z (by decide))⟩
  | cons => simp [mtL] at h
theorem evAnd_ne {o : Orc} {E : Env} {st : Sto} : evAnd o [] E st = .bad := by rw [evAnd]
theorem sCons {m : ME} {ms : List ME} (h1 : SE m) (h2 : SL ms) : SL (m :: ms) := by
  intro C L B W o X f es h
  cases es with
  | nil => simp [mtL] at h
  | cons e es =>
    simp only [mtL, Bool.and_eq_true] at h
    obtain ⟨pe, pt⟩ := h1 _ _ _ _ _ _ f _ h.1.2
    have r := h2 _ _ _ _ _ _ f _ h.2
    obtain ⟨hl, _⟩ := mtL_len h.2
    refine ⟨(pa_cons pe r.pa (okE_star h.1.1 _ _)).imp fun _ _ _ h => tL_cons h, fun i m' e' h1 h2 => by
      cases i with
      | zero => simp only [List.getElem?_cons_zero, Option.some.injEq] at h1 h2; subst h1 h2; exact pe
      | succ i => simp only [List.getElem?_cons_succ] at h1 h2; exact r.el i m' e' h1 h2, fun _ p => ?_, fun _ p => ?_⟩
    · cases es with
      | nil =>
        obtain rfl : ms = [] := by simpa using hl
        exact ⟨(pe_one pe).imp fun _ _ _ h => tAnd1 h, (pw_and1 pt).imp fun _ _ _ h => tAnd1 h⟩
      | cons e2 es =>
        obtain ⟨m2, ms, rfl⟩ : ∃ m2 ms', ms = m2 :: ms' := by cases ms with | nil => simp at hl | cons a b => exact ⟨a, b, rfl⟩
        obtain ⟨q1, q2⟩ := r.an rfl p
        refine ⟨(pe_and pe q1).imp fun _ _ _ h => tAnd2 h, (pw_and pt q2).imp fun σ H Q h => ?_⟩
        refine tE.mono (fun x H1 ⟨c, e, q⟩ => ⟨c, e, ?_⟩) (tAnd2 h)
        cases c with
        | true => exact q
        | false =>
          obtain ⟨k, ek, q⟩ := (show ∃ k, V.bl false = .bl k ∧ Q k H1 from q)
          cases ek
          exact q
    · cases es with
      | nil =>
        obtain rfl : ms = [] := by simpa using hl
        exact ⟨(pe_one pe).imp fun _ _ _ h => tOr1 h, (pw_or1 pt).imp fun _ _ _ h => tOr1 h⟩
      | cons e2 es =>
        obtain ⟨m2, ms, rfl⟩ : ∃ m2 ms', ms = m2 :: ms' := by cases ms with | nil => simp at hl | cons a b => exact ⟨a, b, rfl⟩
        obtain ⟨q1, q2⟩ := r.or rfl p
        refine ⟨(pe_or pe q1).imp fun _ _ _ h => tOr2 h, (pw_or pt q2).imp fun σ H Q h => ?_⟩
        refine tE.mono (fun x H1 ⟨c, e, q⟩ => ⟨c, e, ?_⟩) (tOr2 h)
        cases c with
        | false => exact q
        | true =>
          obtain ⟨k, ek, q⟩ := (show ∃ k, V.bl true = .bl k ∧ Q k H1 from q)
          cases ek
          exact q
theorem pt_ifeM {c a b : ME} {x y w : Expr} {p} (hc : PT X x (tTest (tE L B W o c))) (ha : PT X y (tTest (tE L B W o a))) (hb : PT X w (tTest (tE L B W o b))) : PT X (.IfExp x y w p) (tTest (tE L B W o (.ife c a b))) := by
  refine ⟨fun pins s σ H Q I ⟨m, F, E, st, S, h⟩ => ?_⟩
  rw [evE] at h
  have hc' := hc.run pins s σ H (fun t H1 => if t = true then tTest (tE L B W o a) σ H1 Q else tTest (tE L B W o b) σ H1 Q) I (tE.mono (fun x H1 ⟨m1, F1, st1, v, X1, X01, S1, r1, h1⟩ => by
    obtain ⟨t, rfl, h2⟩ := Post.ifV h1
    refine ⟨t, r1.bl, ?_⟩
    cases t with
    | true => exact ⟨m1, F1, E, st1, S1, Post.at X01 h2⟩
    | false => exact ⟨m1, F1, E, st1, S1, Post.at X01 h2⟩) (tE_bind Ext.refl S h))
  refine isTrue_IfExp (thn hc' fun d s1 ⟨H1, I1, q1⟩ => ?_)
  cases d with
  | true => exact ha.run pins s1 σ H1 Q I1 q1
  | false => exact hb.run pins s1 σ H1 Q I1 q1
end
mutual
theorem sE : ∀ me : ME, SE me
  | .non => by
    intro C L B W o X f e h
    unfold mtE at h
    split at h
    · exact ⟨pe_nonM, pt_valM pe_nonM fun _ => rfl⟩
    · cases h
  | .bl b => by
    intro C L B W o X f e h
    unfold mtE at h
    split at h
    · obtain rfl := (beq_iff_eq.mp h)
      exact ⟨pe_blM, pt_valM pe_blM fun _ => rfl⟩
    · cases h
  | .int i => by
    intro C L B W o X f e h
    unfold mtE at h
    split at h
    · obtain rfl := of_decide_eq_true h
      exact ⟨pe_intM, pt_valM pe_intM fun _ => rfl⟩
    · cases h
  | .str s => by
    intro C L B W o X f e h
    unfold mtE at h
    split at h
    · simp only [Bool.and_eq_true, decide_eq_true_eq, List.all_eq_true] at h
      obtain ⟨⟨rfl, h1⟩, h2⟩ := h
      exact ⟨pe_strM h1 h2, pt_valM (pe_strM h1 h2) fun _ => rfl⟩
    · cases h
  | .var i => by
    intro C L B W o X f e h
    unfold mtE at h
    split at h
    · exact ⟨pe_varM f h, pt_valM (pe_varM f h) fun _ => rfl⟩
    · cases h
  | .bin op a b => by
    intro C L B W o X f e h
    unfold mtE at h
    split at h
    · simp only [Bool.and_eq_true, decide_eq_true_eq] at h
      obtain ⟨⟨rfl, h1⟩, h2⟩ := h
      exact pv (pe_binM (op := op) f (sE a _ _ _ _ _ _ f _ h1).1 (sE b _ _ _ _ _ _ f _ h2).1) fun _ => rfl
    · cases h
  | .neg a => by
    intro C L B W o X f e h
    unfold mtE at h
    split at h
    · simp only [Bool.and_eq_true, decide_eq_true_eq] at h
      obtain ⟨rfl, h1⟩ := h
      exact pv (pe_negM (sE a _ _ _ _ _ _ f _ h1).1) fun _ => rfl
    · cases h
  | .cmp op a b => by
    intro C L B W o X f e h
    unfold mtE at h
    split at h
    · simp only [Bool.and_eq_true, decide_eq_true_eq] at h
      obtain ⟨⟨⟨rfl, h0⟩, h1⟩, h2⟩ := h
      exact ⟨pe_cmpM f (sE a _ _ _ _ _ _ f _ h1).1 (sE b _ _ _ _ _ _ f _ h2).1 h0, pt_cmpM f (sE a _ _ _ _ _ _ f _ h1).1 (sE b _ _ _ _ _ _ f _ h2).1 h0⟩
    · cases h
  | .isN a => by
    intro C L B W o X f e h
    unfold mtE at h
    split at h
    · simp only [Bool.and_eq_true, decide_eq_true_eq] at h
      obtain ⟨rfl, h1⟩ := h
      exact ⟨pe_isNM (sE a _ _ _ _ _ _ f _ h1).1, pt_isNM (sE a _ _ _ _ _ _ f _ h1).1⟩
    · cases h
  | .notN a => by
    intro C L B W o X f e h
    unfold mtE at h
    split at h
    · simp only [Bool.and_eq_true, decide_eq_true_eq] at h
      obtain ⟨rfl, h1⟩ := h
      exact ⟨pe_notNM (sE a _ _ _ _ _ _ f _ h1).1, pt_notNM (sE a _ _ _ _ _ _ f _ h1).1⟩
    · cases h
  | .and es => by
    intro C L B W o X f e h
    unfold mtE at h
    split at h
    · simp only [Bool.and_eq_true, decide_eq_true_eq, Bool.not_eq_true'] at h
      obtain ⟨⟨rfl, h0⟩, h1⟩ := h
      obtain ⟨z1, z2⟩ := (sL es _ _ _ _ _ _ f _ h1).an h0 ‹_›
      exact ⟨z1.imp fun σ H Q ⟨m, F, E, st, S, h⟩ => ⟨m, F, E, st, S, by rw [evE] at h; exact h⟩, z2.pt.imp fun σ H Q ⟨m, F, E, st, S, h⟩ => ⟨m, F, E, st, S, by rw [evE] at h; exact h⟩⟩
    · cases h
  | .or es => by
    intro C L B W o X f e h
    unfold mtE at h
    split at h
    · simp only [Bool.and_eq_true, decide_eq_true_eq, Bool.not_eq_true'] at h
      obtain ⟨⟨rfl, h0⟩, h1⟩ := h
      obtain ⟨z1, z2⟩ := (sL es _ _ _ _ _ _ f _ h1).or h0 ‹_›
      exact ⟨z1.imp fun σ H Q ⟨m, F, E, st, S, h⟩ => ⟨m, F, E, st, S, by rw [evE] at h; exact h⟩, z2.pt.imp fun σ H Q ⟨m, F, E, st, S, h⟩ => ⟨m, F, E, st, S, by rw [evE] at h; exact h⟩⟩
    · cases h
  | .not a => by
    intro C L B W o X f e h
    unfold mtE at h
    split at h
    · simp only [Bool.and_eq_true, decide_eq_true_eq] at h
      obtain ⟨rfl, h1⟩ := h
      exact ⟨pe_notM (sE a _ _ _ _ _ _ f _ h1).1, pt_notM (sE a _ _ _ _ _ _ f _ h1).2⟩
    · cases h
  | .ife c a b => by
    intro C L B W o X f e h
    unfold mtE at h
    split at h
    · simp only [Bool.and_eq_true] at h
      obtain ⟨⟨h1, h2⟩, h3⟩ := h
      exact ⟨pe_ifeM (sE c _ _ _ _ _ _ f _ h1).2 (sE a _ _ _ _ _ _ f _ h2).1 (sE b _ _ _ _ _ _ f _ h3).1, pt_ifeM (sE c _ _ _ _ _ _ f _ h1).2 (sE a _ _ _ _ _ _ f _ h2).2 (sE b _ _ _ _ _ _ f _ h3).2⟩
    · cases h
  | .tup es => by
    intro C L B W o X f e h
    unfold mtE at h
    split at h
    · simp only [Bool.and_eq_true, decide_eq_true_eq] at h
      exact pv (pe_tupM h.1 (sL es _ _ _ _ _ _ f _ h.2).pa) fun _ => rfl
    · cases h
  | .lst es => by
    intro C L B W o X f e h
    unfold mtE at h
    split at h
    · simp only [Bool.and_eq_true, decide_eq_true_eq] at h
      exact pv (pe_lstM h.1 (sL es _ _ _ _ _ _ f _ h.2).pa) fun _ => rfl
    · cases h
  | .fld a k => by
    intro C L B W o X f e h
    unfold mtE at h
    split at h
    · simp only [Bool.and_eq_true, decide_eq_true_eq] at h
      exact pv (pe_fldM f (f.nm _ _ h.1.1) h.1.2 (sE a _ _ _ _ _ _ f _ h.2).1) fun _ => rfl
    · cases h
  | .sub a i => by
    intro C L B W o X f e h
    unfold mtE at h
    split at h
    · simp only [Bool.and_eq_true] at h
      obtain ⟨⟨h0, h1⟩, h2⟩ := h
      exact pv (pe_subM f (sE a _ _ _ _ _ _ f _ h1).1 (sE i _ _ _ _ _ _ f _ h2).1 h0) fun _ => rfl
    · cases h
  | .slU a hi => by
    intro C L B W o X f e h
    unfold mtE at h
    split at h
    · simp only [Bool.and_eq_true] at h
      exact pv (pe_slUM f (sE a _ _ _ _ _ _ f _ h.1).1 (sE hi _ _ _ _ _ _ f _ h.2).1) fun _ => rfl
    · cases h
  | .slL a lo => by
    intro C L B W o X f e h
    unfold mtE at h
    split at h
    · simp only [Bool.and_eq_true] at h
      exact pv (pe_slLM f (sE a _ _ _ _ _ _ f _ h.1).1 (sE lo _ _ _ _ _ _ f _ h.2).1) fun _ => rfl
    · cases h
  | .slB a lo hi => by
    intro C L B W o X f e h
    unfold mtE at h
    split at h
    · simp only [Bool.and_eq_true] at h
      exact pv (pe_slBM f (sE a _ _ _ _ _ _ f _ h.1.1).1 (sE lo _ _ _ _ _ _ f _ h.1.2).1 (sE hi _ _ _ _ _ _ f _ h.2).1) fun _ => rfl
    · cases h
  | .call g es => by
    intro C L B W o X f e h
    unfold mtE at h
    split at h
    · simp only [Bool.and_eq_true, decide_eq_true_eq, Bool.not_eq_true'] at h
      obtain ⟨⟨⟨hc, hf⟩, hg⟩, hl⟩ := h
      exact pv (pe_callM f hc hf hg (mtL_len hl).1 (mtL_len hl).2 (sL es _ _ _ _ _ _ f _ hl).pa) fun _ => rfl
    · cases h
  | .calv i es => by
    intro C L B W o X f e h
    unfold mtE at h
    split at h
    · simp only [Bool.and_eq_true, decide_eq_true_eq, Bool.not_eq_true'] at h
      obtain ⟨⟨⟨hc, hv⟩, hne⟩, hl⟩ := h
      exact pv (pe_calvM f hc hv (mtL_len hl).1 hne (mtL_len hl).2 (sL es _ _ _ _ _ _ f _ hl).pa) fun _ => rfl
    · cases h
  | .fnv g => by
    intro C L B W o X f e h
    unfold mtE at h
    split at h
    · simp only [Bool.and_eq_true, decide_eq_true_eq] at h
      exact pv (pe_fnvM f h.1 h.2) fun _ => rfl
    · cases h
  | .meth a k es => by
    intro C L B W o X f e h
    unfold mtE at h
    split at h
    · simp only [Bool.and_eq_true, decide_eq_true_eq] at h
      obtain ⟨⟨⟨⟨⟨⟨hc, hk⟩, ho⟩, hp⟩, h30⟩, ha⟩, hl⟩ := h
      exact pv (pe_methM f hc (f.nm _ _ hk) ho hp h30 (sE a _ _ _ _ _ _ f _ ha).1 (mtL_len hl).1 (mtL_len hl).2 (sL es _ _ _ _ _ _ f _ hl).pa) fun _ => rfl
    · cases h
  | .make c es => by
    intro C L B W o X f e h
    unfold mtE at h
    split at h
    · simp only [Bool.and_eq_true, decide_eq_true_eq] at h
      obtain ⟨⟨⟨⟨hc, hf⟩, hm⟩, hg⟩, hl⟩ := h
      exact pv (pe_makeM f hc hf hm hg (mtL_len hl).1 (mtL_len hl).2 (sL es _ _ _ _ _ _ f _ hl).pa) fun _ => rfl
    · cases h
  | .chn o1 o2 a b c => by
    intro C L B W o X f e h
    unfold mtE at h
    split at h
    · simp only [Bool.and_eq_true, decide_eq_true_eq] at h
      obtain ⟨⟨⟨⟨⟨⟨rfl, rfl⟩, hy⟩, hz⟩, h1⟩, h2⟩, h3⟩ := h
      exact ⟨pe_chnM f (sE a _ _ _ _ _ _ f _ h1).1 (sE b _ _ _ _ _ _ f _ h2).1 (sE c _ _ _ _ _ _ f _ h3).1 hy hz, pt_chnM f (sE a _ _ _ _ _ _ f _ h1).1 (sE b _ _ _ _ _ _ f _ h2).1 (sE c _ _ _ _ _ _ f _ h3).1 hy hz⟩
    · cases h
  | .bi g es => by
    intro C L B W o X f e h
    unfold mtE at h
    split at h
    · simp only [Bool.and_eq_true, decide_eq_true_eq, Bool.or_eq_true, Bool.not_eq_true'] at h
      obtain ⟨⟨⟨⟨⟨hx, hb⟩, hlen⟩, hg⟩, hc⟩, hl⟩ := h
      exact pv (pe_biM f hb hx hlen (by rw [(mtL_len hl).1]; exact hlen) hg (fun q => hc.resolve_left (by rw [q]; exact fun z => nomatch z)) (mtL_len hl).2 (sL es _ _ _ _ _ _ f _ hl).pa) fun _ => rfl
    · cases h
  | .isi a ts => by
    intro C L B W o X f e h
    unfold mtE at h
    split at h
    · simp only [Bool.and_eq_true, decide_eq_true_eq] at h
      obtain ⟨⟨⟨⟨rfl, hg⟩, hy⟩, ha⟩, ht⟩ := h
      split at ht
      · exact pv (pe_isi1M f hg hy ht (sE a _ _ _ _ _ _ f _ ha).1) fun _ => rfl
      · split at ht
        · simp only [Bool.and_eq_true, decide_eq_true_eq] at ht
          exact pv (pe_isiTM f hg hy ht.2 ht.1.1 ht.1.2 (sE a _ _ _ _ _ _ f _ ha).1) fun _ => rfl
        · cases ht
    · cases h
  | .lsI (.ex ..) => by intro C L B W o X f e h; unfold mtE at h; split at h <;> simp [lsOk] at h
  | .lsI (.rg1 a) => by
    intro C L B W o X f e h
    unfold mtE at h
    split at h
    · simp only [Bool.and_eq_true, decide_eq_true_eq] at h
      obtain ⟨⟨⟨⟨⟨rfl, hg⟩, hy⟩, hc⟩, _⟩, hi⟩ := h
      unfold mtI at hi
      split at hi
      · simp only [Bool.and_eq_true, decide_eq_true_eq] at hi
        obtain ⟨⟨⟨rfl, hg2⟩, he⟩, ha⟩ := hi
        exact pv (pe_lsRg1M f hc hg hg2 he (sE a _ _ _ _ _ _ f _ ha).1) fun _ => rfl
      · cases hi
    · cases h
  | .lsI (.rg2 a b) => by
    intro C L B W o X f e h
    unfold mtE at h
    split at h
    · simp only [Bool.and_eq_true, decide_eq_true_eq] at h
      obtain ⟨⟨⟨⟨⟨rfl, hg⟩, hy⟩, hc⟩, _⟩, hi⟩ := h
      unfold mtI at hi
      split at hi
      · simp only [Bool.and_eq_true, decide_eq_true_eq] at hi
        obtain ⟨⟨⟨⟨⟨rfl, hg2⟩, he⟩, he'⟩, ha⟩, hb⟩ := hi
        exact pv (pe_lsRg2M f hc hg hg2 he he' (sE a _ _ _ _ _ _ f _ ha).1 (sE b _ _ _ _ _ _ f _ hb).1) fun _ => rfl
      · cases hi
    · cases h
  | .lc a p it => by
    intro C L B W o X f e h
    unfold mtE at h
    split at h
    · simp only [Bool.and_eq_true, decide_eq_true_eq] at h
      obtain ⟨⟨⟨⟨⟨⟨⟨hc, ht⟩, hi⟩, hb⟩, _⟩, hp⟩, ha⟩, _⟩ := h
      obtain ⟨i1, i2⟩ := sI it _ _ _ _ _ _ f _ hi
      exact pv (pe_lcM f hc (i1 _ false ht) i2 hb hp fun X' f' => (sE a _ _ _ _ _ _ f' _ ha).1) fun _ => rfl
    · cases h
  | .lcf a p it c => by
    intro C L B W o X f e h
    unfold mtE at h
    split at h
    · simp only [Bool.and_eq_true, decide_eq_true_eq] at h
      obtain ⟨⟨⟨⟨⟨⟨⟨⟨hc, ht⟩, hi⟩, hb⟩, _⟩, hp⟩, ha⟩, _⟩, hy⟩ := h
      obtain ⟨i1, i2⟩ := sI it _ _ _ _ _ _ f _ hi
      exact pv (pe_lcfM f hc (i1 _ false ht) i2 hb hp (fun X' f' => (sE a _ _ _ _ _ _ f' _ ha).1) (fun X' f' => (sE c _ _ _ _ _ _ f' _ hy).2)) fun _ => rfl
    · cases h
  | .cell a => by
    intro C L B W o X f e h
    unfold mtE at h
    obtain ⟨z1, z2⟩ := sE a _ _ _ _ _ _ f _ h
    exact ⟨z1.imp fun σ H Q h => tE_cell h, z2.imp fun σ H Q h => tE_cell h⟩
  | .con c => by
    intro C L B W o X f e h
    unfold mtE at h
    split at h
    · simp only [Bool.and_eq_true, decide_eq_true_eq] at h
      exact pv (pe_conM f h.1 h.2) fun _ => rfl
    · cases h
  | .neR a b => by
    intro C L B W o X f e h
    unfold mtE at h
    split at h
    · simp only [Bool.and_eq_true, decide_eq_true_eq] at h
      obtain ⟨⟨⟨⟨⟨⟨⟨rfl, rfl⟩, rfl⟩, hg⟩, hy⟩, hz⟩, h1⟩, h2⟩ := h
      exact pe_neRM f hg hy hz (sE a _ _ _ _ _ _ f _ h1).1 (sE b _ _ _ _ _ _ f _ h2).1
    · cases h
  | .dct ks vs => by
    intro C L B W o X f e h
    unfold mtE at h
    split at h
    · rw [Bool.and_eq_true, List.isEmpty_iff, List.isEmpty_iff] at h
      obtain ⟨rfl, rfl⟩ := h
      exact pv pe_dct0M fun _ => rfl
    · cases h
  | .eqo ng a b => by
    intro C L B W o X f e h
    unfold mtE at h
    split at h
    · simp only [Bool.and_eq_true, decide_eq_true_eq] at h
      obtain ⟨⟨⟨⟨hc, rfl⟩, h0⟩, h1⟩, h2⟩ := h
      exact pe_eqoM f hc (sE a _ _ _ _ _ _ f _ h1).1 (sE b _ _ _ _ _ _ f _ h2).1 h0
    · cases h
  | .bm g a es => by
    intro C L B W o X f e h
    unfold mtE at h
    split at h
    · rename_i x y p l q
      simp only [Bool.and_eq_true, decide_eq_true_eq] at h
      obtain ⟨⟨⟨⟨⟨⟨hy, ho⟩, hp⟩, hln⟩, hn⟩, ha⟩, hl⟩ := h
      have pa := (sE a _ _ _ _ _ _ f _ ha).1
      have r := sL es _ _ _ _ _ _ f _ hl
      obtain ⟨hlen, hok⟩ := mtL_len hl
      cases g <;> try (exact absurd rfl hn)
      case index =>
        obtain ⟨e1, rfl⟩ := List.length_eq_one_iff.mp hln
        obtain ⟨m1, rfl⟩ := List.length_eq_one_iff.mp hlen
        simp only [List.all_cons, List.all_nil, Bool.and_true] at hok
        subst hy
        exact pv (pe_indexM f ho hp hok pa (r.el 0 _ _ rfl rfl)) fun _ => rfl
      case get1 =>
        obtain ⟨e1, rfl⟩ := List.length_eq_one_iff.mp hln
        obtain ⟨m1, rfl⟩ := List.length_eq_one_iff.mp hlen
        simp only [List.all_cons, List.all_nil, Bool.and_true] at hok
        subst hy
        exact pv (pe_get1M f ho hp hok pa (r.el 0 _ _ rfl rfl)) fun _ => rfl
      case get2 =>
        obtain ⟨e1, e2, rfl⟩ := len2 hln
        obtain ⟨m1, m2, rfl⟩ := len2 hlen
        simp only [List.all_cons, List.all_nil, Bool.and_true, Bool.and_eq_true] at hok
        subst hy
        exact pv (pe_get2M f ho hp hok.1 hok.2 pa (r.el 0 _ _ rfl rfl) (r.el 1 _ _ rfl rfl)) fun _ => rfl
      case join =>
        obtain ⟨e1, rfl⟩ := List.length_eq_one_iff.mp hln
        obtain ⟨m1, rfl⟩ := List.length_eq_one_iff.mp hlen
        simp only [List.all_cons, List.all_nil, Bool.and_true] at hok
        subst hy
        exact pv (pe_joinM f ho hp hok pa (r.el 0 _ _ rfl rfl)) fun _ => rfl
    · cases h
  | .rev a => by
    intro C L B W o X f e h
    unfold mtE at h
    split at h
    · simp only [Bool.and_eq_true, decide_eq_true_eq] at h
      obtain ⟨rfl, ha⟩ := h
      exact pv (pe_revM f (sE a _ _ _ _ _ _ f _ ha).1) fun _ => rfl
    · cases h
  | .xfl c ks es k => by
    intro C L B W o X f e h
    unfold mtE at h
    split at h
    · simp only [Bool.and_eq_true, decide_eq_true_eq, List.all_eq_true] at h
      obtain ⟨⟨⟨⟨⟨⟨⟨⟨⟨h1, h2⟩, h3⟩, hx⟩, hg⟩, hy⟩, hk⟩, hn⟩, hs⟩, hl⟩ := h
      have r := sL es _ _ _ _ _ _ f _ hl
      have hlen := (mtL_len hl).1
      rw [List.length_map] at hlen
      exact pv (pe_xflM f h1 h2 h3 hx hg hy hk hn hs hlen (pk_rows hlen r.el)) fun _ => rfl
    · cases h
  | .lenO .. => by intro C L B W o X f e h; unfold mtE at h; cases h
  | .srtk .. => by intro C L B W o X f e h; unfold mtE at h; cases h
  | .fs .. => by intro C L B W o X f e h; unfold mtE at h; cases h
  | .lsI (.rgd ..) => by intro C L B W o X f e h; unfold mtE at h; split at h <;> simp [lsOk] at h
  | .lsI (.enum ..) => by intro C L B W o X f e h; unfold mtE at h; split at h <;> simp [lsOk] at h
  | .lsI (.zip ..) => by intro C L B W o X f e h; unfold mtE at h; split at h <;> simp [lsOk] at h
  | .lsI (.items ..) => by intro C L B W o X f e h; unfold mtE at h; split at h <;> simp [lsOk] at h
  | .lsI (.vals ..) => by intro C L B W o X f e h; unfold mtE at h; split at h <;> simp [lsOk] at h
theorem sL : ∀ ms : List ME, SL ms
  | [] => sNil
  | m :: ms => sCons (sE m) (sL ms)
theorem sI : ∀ it : MI, SI it
  | .ex a => by
    intro C L B W o X f e h
    unfold mtI at h
    rw [Bool.and_eq_true] at h
    exact ⟨fun tg k _ => pi_exM f (sE a _ _ _ _ _ _ f _ h.2).1, fun l k p z => by rw [z] at h; exact absurd h.1 (by simp [okE])⟩
  | .rg1 a => by
    intro C L B W o X f e h
    unfold mtI at h
    split at h
    · simp only [Bool.and_eq_true, decide_eq_true_eq] at h
      obtain ⟨⟨⟨rfl, hg⟩, he⟩, ha⟩ := h
      exact ⟨fun tg k _ => pi_rg1M f hg he (sE a _ _ _ _ _ _ f _ ha).1, fun l k p z => nomatch z⟩
    · cases h
  | .rg2 a b => by
    intro C L B W o X f e h
    unfold mtI at h
    split at h
    · simp only [Bool.and_eq_true, decide_eq_true_eq] at h
      obtain ⟨⟨⟨⟨⟨rfl, hg⟩, he⟩, he'⟩, ha⟩, hb⟩ := h
      exact ⟨fun tg k _ => pi_rg2M f hg he he' (sE a _ _ _ _ _ _ f _ ha).1 (sE b _ _ _ _ _ _ f _ hb).1, fun l k p z => nomatch z⟩
    · cases h
  | .rgd .. => by intro C L B W o X f e h; unfold mtI at h; cases h
  | .enum a => by
    intro C L B W o X f e h
    unfold mtI at h
    split at h
    · simp only [Bool.and_eq_true, decide_eq_true_eq] at h
      obtain ⟨⟨⟨rfl, hg⟩, he⟩, ha⟩ := h
      refine ⟨fun tg k ht => ?_, fun l k p z => nomatch z⟩
      obtain ⟨elts, kk, tpos, rfl⟩ := tgOk_tup rfl ht
      exact pi_enumM f hg he (sE a _ _ _ _ _ _ f _ ha).1
    · cases h
  | .zip .. => by intro C L B W o X f e h; unfold mtI at h; cases h
  | .items a => by
    intro C L B W o X f e h
    unfold mtI at h
    split at h
    · simp only [Bool.and_eq_true, decide_eq_true_eq] at h
      obtain ⟨⟨⟨rfl, ho⟩, hp⟩, ha⟩ := h
      refine ⟨fun tg k ht => ?_, fun l k p z => nomatch z⟩
      obtain ⟨elts, kk, tpos, rfl⟩ := tgOk_tup rfl ht
      exact pi_itemsM f (okM_base ho) hp (sE a _ _ _ _ _ _ f _ ha).1
    · cases h
  | .vals a => by
    intro C L B W o X f e h
    unfold mtI at h
    split at h
    · simp only [Bool.and_eq_true, decide_eq_true_eq] at h
      obtain ⟨⟨⟨rfl, ho⟩, hp⟩, ha⟩ := h
      exact ⟨fun tg k _ => pi_valsM f (okM_base ho) hp (sE a _ _ _ _ _ _ f _ ha).1, fun l k p z => nomatch z⟩
    · cases h
end
end Mp

end
section
set_option Elab.async false
set_option linter.all false
set_option maxRecDepth 100000
set_option maxHeartbeats 4000000
/-! S19: statements: the frame. -/
namespace Mp
open PySem PySem.Spec PyProof.Rows L2
theorem Mono.trans {m m' m'' : List Addr} {F F' F'' : Addr → Prop} {H H' H'' : Hp} (a : Mono m F H m' F' H') (b : Mono m' F' H' m'' F'' H'') : Mono m F H m'' F'' H'' :=
  ⟨fun n p h => b.mp n p (a.mp n p h), fun p h => b.fm p (a.fm p h), fun p h => (a.st p h).trans (b.st p (a.fm p h))⟩
def PostS (L : Lk) (B : Bs) (W : WX) (m : List Addr) (F : Addr → Prop) (H : Hp) (r : SR) (D : Ends) : Prop :=
  match r with
  | .nx E st => ∀ m' F' σ' H', Mono m F H m' F' H' → Sim L B m' F' E st σ' H' → D.nx σ' H'
  | .bk E st => ∀ m' F' σ' H', Mono m F H m' F' H' → Sim L B m' F' E st σ' H' → D.bk σ' H'
  | .ct E st => ∀ m' F' σ' H', Mono m F H m' F' H' → Sim L B m' F' E st σ' H' → D.ct σ' H'
  | .rt v st => ∀ m' F' x H', Wd L m' F' st H' → Ext B.m B.F B.H m' F' H' → OutRep L m' F' H' B.H v x → D.rt x H'
  | .ex xc E st => ∀ m' F' σ' H' cls d, Mono m F H m' F' H' → Sim L B m' F' E st σ' H' → XRep L m' F' H' xc.c xc.fs cls d → W cls d σ' H'
  | .bad => False
def tS (L : Lk) (B : Bs) (W : WX) (o : Orc) (s : MS) : TS := fun D σ H => ∃ m F E st, Sim L B m F E st σ H ∧ PostS L B W m F H (exS o s E st) D
def tB (L : Lk) (B : Bs) (W : WX) (o : Orc) (s : List MS) : TS := fun D σ H => ∃ m F E st, Sim L B m F E st σ H ∧ PostS L B W m F H (exB o s E st) D
section
variable {C : CC} {L : Lk} {B : Bs} {W : WX} {o : Orc} {X : Cx} {m m0 m1 m2 m' : List Addr} {F F0 F1 F2 F' : Addr → Prop} {H H0 H1 H2 H' : Hp} {E : Env} {st st' st0 st1 : Sto} {σ : L2.St} {Q : V → Hp → Prop} {me a b c : ME} {es : List ME} {k : Bool} {D : Ends} {s : MS} {ss : List MS}
theorem PostS.at {r : SR} (X0 : Mono m0 F0 H0 m F H) (h : PostS L B W m0 F0 H0 r D) : PostS L B W m F H r D := by
  cases r with
  | nx E st => exact fun m1 F1 σ1 H1 a b => h m1 F1 σ1 H1 (X0.trans a) b
  | bk E st => exact fun m1 F1 σ1 H1 a b => h m1 F1 σ1 H1 (X0.trans a) b
  | ct E st => exact fun m1 F1 σ1 H1 a b => h m1 F1 σ1 H1 (X0.trans a) b
  | rt v st => exact h
  | ex xc E st => exact fun m1 F1 σ1 H1 cls d a b c => h m1 F1 σ1 H1 cls d (X0.trans a) b c
  | bad => exact h
theorem tE_sr {f : Val → Sto → SR} (X0 : Mono m0 F0 H0 m F H) (S : Sim L B m F E st σ H) (h : PostS L B W m0 F0 H0 ((evE o me E st).sr E f) D) :
    tE L B W o me σ H (fun x H1 => ∃ m1 F1 st1 v, Ext m F H m1 F1 H1 ∧ Mono m0 F0 H0 m1 F1 H1 ∧ Sim L B m1 F1 E st1 σ H1 ∧ VRep L m1 F1 H1 E σ H v x ∧ PostS L B W m0 F0 H0 (f v st1) D) := by
  refine ⟨m, F, E, st, S, ?_⟩
  cases e : evE o me E st with
  | ok v st1 =>
    rw [e] at h
    exact fun m1 F1 x H1 a b c => ⟨m1, F1, st1, v, a, X0.trans a.mono, b, c, h⟩
  | ex xc st1 =>
    rw [e] at h
    exact fun m1 F1 H1 cls d a b c => h m1 F1 σ H1 cls d (X0.trans a.mono) b c
  | bad =>
    rw [e] at h
    exact h
theorem PostS.ifV {v : Val} {r1 r2 : SR} (h : PostS L B W m0 F0 H0 (Mp.ifV v r1 r2 .bad) D) : ∃ t, v = .dat (.bl t) ∧ PostS L B W m0 F0 H0 (if t then r1 else r2) D := by
  unfold Mp.ifV at h
  split at h
  · exact ⟨_, rfl, h⟩
  · exact h.elim
theorem pss_nilM : PSs X [] (tB L B W o []) := pss_nil.imp fun D σ H ⟨m, F, E, st, S, h⟩ => by
  rw [exB] at h
  exact h m F σ H Mono.refl S
theorem tB_cons (h : tB L B W o (s :: ss) D σ H) : tSeq (tS L B W o s) (tB L B W o ss) D σ H := by
  obtain ⟨m, F, E, st, S, h⟩ := h
  rw [exB] at h
  refine ⟨m, F, E, st, S, ?_⟩
  cases e : exS o s E st with
  | nx E1 st1 =>
    rw [e] at h
    exact fun m1 F1 σ1 H1 X1 S1 => ⟨m1, F1, E1, st1, S1, PostS.at X1 h⟩
  | bk E1 st1 => rw [e] at h; exact h
  | ct E1 st1 => rw [e] at h; exact h
  | rt v st1 => rw [e] at h; exact h
  | ex xc E1 st1 => rw [e] at h; exact h
  | bad => rw [e] at h; exact h
theorem pss_consM {s' : Stmt} {l : List Stmt} (h1 : PS X s' (tS L B W o s)) (h2 : PSs X l (tB L B W o ss)) : PSs X (s' :: l) (tB L B W o (s :: ss)) := (pss_cons h1 h2).imp fun D σ H h => tB_cons h
/-- a container of a variable is kept from now on -/
theorem tB_frz {i : Nat} (h : tB L B W o (.frz i :: ss) D σ H) : tB L B W o ss D σ H := by
  obtain ⟨m, F, E, st, S, h⟩ := h
  rw [exB, exS] at h
  split at h
  · rename_i d e
    cases hs : d.isSet with
    | true => rw [hs] at h; exact h.elim
    | false =>
      rw [hs] at h
      have h : PostS L B W m F H (exB o ss (E.set i (some (.dat d))) st) D := h
      obtain ⟨x, e2, p, rfl, r, nf, nm, n0⟩ := S.sl i _ e
      have hi := (List.getElem?_eq_some_iff.mp e).1
      have M : Mono m F H m (Fp F p) H := Mono.fp
      have own_i : OwnAt E σ i p := ⟨⟨d, e⟩, e2⟩
      have oth : ∀ j, j ≠ i → ¬ OwnAt E σ j p := fun j hj q => hj (S.ij j i p q own_i)
      have S' : Sim L B m (Fp F p) (E.set i (some (.dat d))) st σ H := by
        refine ⟨⟨fun n d' e' => ?_, S.wd.ln, S.wd.nd, fun a fa => ?_⟩, ⟨S.ex.mp, fun a f => .inl (S.ex.fm a f), fun a f => ?_, S.ex.kp, S.ex.st, S.ex.tr⟩, fun j v ej => ?_, by rw [List.length_set]; exact S.ln, fun j k a hj hk => ?_⟩
        · obtain ⟨a, e1, r1⟩ := S.wd.ce n d' e'
          exact ⟨a, e1, r1.mono M fun o q => q⟩
        · rcases fa with fa | rfl
          · exact S.wd.ft a fa
          · exact ⟨r.there, nm⟩
        · rcases f with f | rfl
          · exact S.ex.fn a f
          · exact .inr n0
        · by_cases hj : j = i
          · subst hj
            rw [List.getElem?_set_self hi] at ej
            cases ej
            exact ⟨.ref p, e2, (r.mono M fun o q => q).kept (.inr rfl) fun xs z => by rw [z] at hs; cases hs⟩
          · rw [List.getElem?_set_ne (Ne.symm hj)] at ej
            obtain ⟨x, e1, r1⟩ := S.sl j v ej
            refine ⟨x, e1, ?_⟩
            cases v with
            | dat d => exact Rep.mono M _ _ r1
            | new d =>
              obtain ⟨a, rfl, r1, nf1, nm1, n1⟩ := r1
              refine ⟨a, rfl, r1.mono M fun o q => q, fun z => ?_, nm1, n1⟩
              rcases z with z | rfl
              · exact nf1 z
              · exact oth j hj ⟨⟨d, ej⟩, e1⟩
            | bor d => exact r1
            | xv c fs => obtain ⟨q, e, e2, e3, r⟩ := r1; exact ⟨q, e, e2, e3, r.mono M⟩
        · have back : ∀ k, OwnAt (E.set i (some (.dat d))) σ k a → OwnAt E σ k a := fun k ⟨⟨d', q1⟩, q2⟩ => by
            by_cases hk : k = i
            · subst hk; rw [List.getElem?_set_self hi] at q1; cases q1
            · rw [List.getElem?_set_ne (Ne.symm hk)] at q1; exact ⟨⟨d', q1⟩, q2⟩
          exact S.ij j k a (back j hj) (back k hk)
      exact ⟨m, Fp F p, _, st, S', PostS.at M h⟩
  · exact ⟨m, F, E, st, S, h⟩
/-- a value into a slot -/
theorem Sim.set {i : Nat} {v : Val} {x : V} (S : Sim L B m F E st σ H) (G : Beg B E σ H0) (r : VRep L m F H E σ H0 v x) (hi : i < E.length) (hv : (∃ d, v = .dat d) ∨ ∃ d, v = .new d) : Sim L B m F (E.set i (some v)) st (σ.set i (some x)) H := by
  have hi2 : i < σ.length := by rw [← S.ln]; exact hi
  have back : ∀ k a, k ≠ i → OwnAt (E.set i (some v)) (σ.set i (some x)) k a → OwnAt E σ k a := fun k a hk ⟨⟨d', q1⟩, q2⟩ => by
    rw [List.getElem?_set_ne (Ne.symm hk)] at q1 q2
    exact ⟨⟨d', q1⟩, q2⟩
  have own : ∀ a, OwnAt (E.set i (some v)) (σ.set i (some x)) i a → H0 a = none := fun a ⟨⟨d', q1⟩, q2⟩ => by
    rw [List.getElem?_set_self hi] at q1
    rw [List.getElem?_set_self hi2] at q2
    cases q1; cases q2
    obtain ⟨b, e, _, _, _, n⟩ := r
    cases e
    exact n
  refine ⟨S.wd, S.ex, fun j w e => ?_, by simp [S.ln], fun j k a hj hk => ?_⟩
  · by_cases hj : j = i
    · subst hj
      rw [List.getElem?_set_self hi] at e
      cases e
      refine ⟨x, List.getElem?_set_self hi2, ?_⟩
      rcases hv with ⟨d, rfl⟩ | ⟨d, rfl⟩
      · exact r
      · obtain ⟨a, e, r, nf, nm, n0⟩ := r
        exact ⟨a, e, r, nf, nm, G.tr a n0⟩
    · rw [List.getElem?_set_ne (Ne.symm hj)] at e
      obtain ⟨y, e1, r1⟩ := S.sl j w e
      exact ⟨y, by rw [List.getElem?_set_ne (Ne.symm hj)]; exact e1, r1⟩
  · by_cases h1 : j = i
    · by_cases h2 : k = i
      · rw [h1, h2]
      · exact absurd (own a (h1 ▸ hj)) (G.ow k a (back k a h2 hk))
    · by_cases h2 : k = i
      · exact absurd (own a (h2 ▸ hk)) (G.ow j a (back j a h1 hj))
      · exact S.ij j k a (back j a h1 hj) (back k a h2 hk)
theorem tgF_v {i : Nat} {v : Val} {r : Env → Sto → SR} (h : PostS L B W m0 F0 H0 ((tgF o (.v i) v E st).sr E r) D) : i < E.length ∧ ((∃ d, v = .dat d) ∨ ∃ d, v = .new d) ∧ PostS L B W m0 F0 H0 (r (E.set i (some v)) st) D := by
  unfold tgF at h
  cases v with
  | dat d =>
    simp only at h
    split at h
    · exact ⟨‹_›, .inl ⟨d, rfl⟩, h⟩
    · exact h.elim
  | new d =>
    simp only at h
    split at h
    · exact ⟨‹_›, .inr ⟨d, rfl⟩, h⟩
    · exact h.elim
  | bor d => exact h.elim
  | xv c fs => exact h.elim
/-- name = e -/
theorem tS_asg {i : Nat} (h : tS L B W o (.asg (.v i) me) D σ H) : tAsg (tE L B W o me) (gName i) D σ H := by
  obtain ⟨m, F, E, st, S, h⟩ := h
  rw [exS] at h
  refine tE.mono (fun x H1 ⟨m1, F1, st1, v, X1, M1, S1, r1, h1⟩ => ?_) (tE_sr Mono.refl S h)
  obtain ⟨hi, hv, h2⟩ := tgF_v h1
  exact h2 m1 F1 _ H1 M1 (S1.set S.beg r1 hi hv)
theorem ps_retM {e : Expr} {p : Pos} (ha : PE X e (tE L B W o a)) : PS X (.Return (some e) p) (tS L B W o (.ret a)) := (ps_ret ha).imp fun D σ H ⟨m, F, E, st, S, h⟩ => by
  rw [exS] at h
  refine tE.mono (fun x H1 ⟨m1, F1, st1, v, X1, M1, S1, r1, h1⟩ => ?_) (tE_sr Mono.refl S h)
  cases v with
  | xv c fs => exact h1.elim
  | dat d => exact h1 m1 F1 x H1 S1.wd S1.ex r1
  | new d => obtain ⟨p, e, r, nf, nm, n0⟩ := r1; exact h1 m1 F1 x H1 S1.wd S1.ex ⟨p, e, r, nf, nm, S.ex.tr p n0⟩
  | bor d =>
    obtain ⟨i, e1, e2⟩ := r1
    obtain ⟨y, e3, p, rfl, r, nf, nm, n0⟩ := S1.sl i _ e1
    rw [e2] at e3; cases e3
    exact h1 m1 F1 _ H1 S1.wd S1.ex ⟨p, rfl, r, nf, nm, n0⟩
theorem ps_retNM {p : Pos} : PS X (.Return none p) (tS L B W o .retN) := ps_retN.imp fun D σ H ⟨m, F, E, st, S, h⟩ => by
  rw [exS] at h
  exact h m F .non H S.wd S.ex (by simp [OutRep, Rep])
theorem ps_passM {p : Pos} : PS X (.Pass p) (tS L B W o .pass) := ps_pass.imp fun D σ H ⟨m, F, E, st, S, h⟩ => by
  rw [exS] at h; exact h m F σ H Mono.refl S
theorem ps_brkM {p : Pos} : PS X (.Break p) (tS L B W o .brk) := ps_break.imp fun D σ H ⟨m, F, E, st, S, h⟩ => by
  rw [exS] at h; exact h m F σ H Mono.refl S
theorem ps_contM {p : Pos} : PS X (.Continue p) (tS L B W o .cont) := ps_continue.imp fun D σ H ⟨m, F, E, st, S, h⟩ => by
  rw [exS] at h; exact h m F σ H Mono.refl S
theorem ps_exprM {e : Expr} {p : Pos} (hs : swapsWith e none p.line X.env = pure false) (ha : PE X e (tE L B W o a)) : PS X (.Expr e p) (tS L B W o (.expr a)) := (ps_expr ha hs).imp fun D σ H ⟨m, F, E, st, S, h⟩ => by
  rw [exS] at h
  refine tE.mono (fun x H1 ⟨m1, F1, st1, v, X1, M1, S1, r1, h1⟩ => ?_) (tE_sr Mono.refl S h)
  exact h1 m1 F1 σ H1 M1 S1
theorem ps_iteM {c : ME} {s1 s2 : List MS} {e : Expr} {l1 l2 : List Stmt} {p : Pos} (hc : PT X e (tTest (tE L B W o c))) (h1 : PSs X l1 (tB L B W o s1)) (h2 : PSs X l2 (tB L B W o s2)) : PS X (.If e l1 l2 p) (tS L B W o (.ite c s1 s2)) :=
  (ps_if hc h1 h2).imp fun D σ H ⟨m, F, E, st, S, h⟩ => by
    rw [exS] at h
    refine tE.mono (fun x H1 ⟨m1, F1, st1, v, X1, M1, S1, r1, h1⟩ => ?_) (tE_sr Mono.refl S h)
    obtain ⟨t, rfl, h2⟩ := PostS.ifV h1
    refine ⟨t, r1.bl, ?_⟩
    cases t with
    | true => exact ⟨m1, F1, E, st1, S1, PostS.at M1 h2⟩
    | false => exact ⟨m1, F1, E, st1, S1, PostS.at M1 h2⟩
/-- a loop's turn -/
theorem PostS.lp {r : SR} {k : Env → Sto → SR} {N : L2.St → Hp → Prop} (h : PostS L B W m0 F0 H0 (r.lp k) D) (hN : ∀ E st, PostS L B W m0 F0 H0 (k E st) D → ∀ m' F' σ' H', Mono m0 F0 H0 m' F' H' → Sim L B m' F' E st σ' H' → N σ' H') :
    PostS L B W m0 F0 H0 r { D with nx := N, ct := N, bk := D.nx } := by
  cases r with
  | nx E st => exact fun m1 F1 σ1 H1 a b => hN E st h m1 F1 σ1 H1 a b
  | ct E st => exact fun m1 F1 σ1 H1 a b => hN E st h m1 F1 σ1 H1 a b
  | bk E st => exact fun m1 F1 σ1 H1 a b => h m1 F1 σ1 H1 a b
  | rt v st => exact h
  | ex xc E st => exact h
  | bad => exact h
theorem ps_whlM {c : ME} {b : List MS} {e : Expr} {l : List Stmt} {p : Pos} (hp : PassesOwn (model X.prog X.w) X.A X.env X.xe) (hc : PT X e (tTest (tE L B W o c))) (hb : PSs X l (tB L B W o b)) : PS X (.While e l [] p) (tS L B W o (.whl c b)) :=
  (ps_while hp hc hb).imp fun D σ H ⟨m, F, E, st, S, h⟩ => by
    rw [exS] at h
    refine ⟨fun n σ' H' => ∃ m' F' E' st', Mono m F H m' F' H' ∧ Sim L B m' F' E' st' σ' H' ∧ PostS L B W m F H (whlL (fun E' st' => evE o c E' st') (fun E' st' => exB o b E' st') n E' st') D, ⟨whlMax, m, F, E, st, Mono.refl, S, h⟩, ?_⟩
    rintro n σ1 H1 ⟨m1, F1, E1, st1, M1, S1, h1⟩
    cases n with
    | zero => exact h1.elim
    | succ n =>
      rw [whlL] at h1
      refine tE.mono (fun x H2 ⟨m2, F2, st2, v, X2, M2, S2, r2, h2⟩ => ?_) (tE_sr M1 S1 h1)
      obtain ⟨t, rfl, h3⟩ := PostS.ifV h2
      refine ⟨t, r2.bl, ?_⟩
      cases t with
      | false => exact h3 m2 F2 σ1 H2 M2 S2
      | true =>
        refine ⟨fun σ' H' => ∃ m' F' E' st', Mono m F H m' F' H' ∧ Sim L B m' F' E' st' σ' H' ∧ PostS L B W m F H (whlL (fun E' st' => evE o c E' st') (fun E' st' => exB o b E' st') n E' st') D, fun σ' H' z => ⟨n, Nat.lt_succ_self n, z⟩, m2, F2, E1, st2, S2, PostS.at M2 (PostS.lp h3 fun E' st' q m' F' σ' H' M' S' => ⟨m', F', E', st', M', S', q⟩)⟩
theorem ps_frM (eK : L.K = X.K) {p : Pat} {it : MI} {b : List MS} {tg e : Expr} {l : List Stmt} {pos : Pos} (hp : PassesOwn (model X.prog X.w) X.A X.env X.xe) (hc : X.calm = true) (hi : PI X tg e (tI L B W o true it)) (hg : PG X tg (tgP X.K p)) (hb : PSs X l (tB L B W o b))
    (hs : ∀ l k p, e ≠ .Set l k p) : PS X (.For tg e l [] pos) (tS L B W o (.fr p it b)) :=
  (ps_for hp hc hi hg hb (fold_ok hs)).imp fun D σ H ⟨m, F, E, st, S, h⟩ => by
    rw [exS] at h
    refine ⟨m, F, E, st, S, ?_⟩
    cases e : evI o true it E st with
    | bad => rw [e] at h; exact h
    | ex xc s => rw [e] at h; exact fun m1 F1 H1 cls d X1 S1 r1 => h m1 F1 σ H1 cls d X1.mono S1 r1
    | ok ds st1 =>
      rw [e] at h
      have h : PostS L B W m F H (forL p (fun E' st' => exB o b E' st') ds E st1) D := h
      intro m1 F1 J H1 X1 S1 hJ
      refine ⟨fun i k σ' H' => k = ds.length - i ∧ i ≤ ds.length ∧ ∃ m' F' E' st', Mono m F H m' F' H' ∧ Mono m1 F1 H1 m' F' H' ∧ Sim L B m' F' E' st' σ' H' ∧ PostS L B W m F H (forL p (fun E' st' => exB o b E' st') (ds.drop i) E' st') D, ⟨_, rfl, Nat.zero_le _, m1, F1, E, st1, X1.mono, Mono.refl, S1, h⟩, ?_⟩
      rintro i k σ2 H2 ⟨rfl, hi, m2, F2, E2, st2, M2, M12, S2, h2⟩
      have hO : ∀ a, OwnS true E σ a → ∀ o, H1 a = some o → H2 a = some o := fun a ⟨z, _⟩ => by cases z
      by_cases hlt : i < ds.length
      · have ei : ds[i]? = some ds[i] := List.getElem?_eq_some_iff.mpr ⟨hlt, rfl⟩
        obtain ⟨g1, g2⟩ := hJ.go i _ ei m2 F2 H2 M12 hO
        rw [List.drop_eq_getElem_cons hlt, forL] at h2
        cases hpf : patF p ds[i] E2 with
        | none => simp only [hpf] at h2; exact h2.elim
        | some E' =>
          simp only [hpf] at h2
          obtain ⟨l, hpa, hsl⟩ : ∃ l, patA p ds[i] = some l ∧ setL l E2 = some E' := by
            unfold patF at hpf
            cases e : patA p ds[i] with
            | none => rw [e] at hpf; cases hpf
            | some l => rw [e] at hpf; exact ⟨l, rfl, hpf⟩
          refine .inr ⟨g1, fun σ' H' => ∃ m' F' E' st', Mono m F H m' F' H' ∧ Mono m1 F1 H1 m' F' H' ∧ Sim L B m' F' E' st' σ' H' ∧ PostS L B W m F H (forL p (fun E' st' => exB o b E' st') (ds.drop (i + 1)) E' st') D, fun σ' H' z => ⟨ds.length - (i + 1), by omega, rfl, hlt, z⟩, fun x H' hy => ?_⟩
          obtain ⟨F3, X3, S3, r3⟩ : ∃ F3, Ext m2 F2 H2 m2 F3 H' ∧ Sim L B m2 F3 E2 st2 σ2 H' ∧ Rep L m2 F3 H' ds[i] x := by
            rcases g2 x H' hy with ⟨rfl, r⟩ | ⟨q, es, vs, hq, rfl, rfl, ed, r, z⟩
            · exact ⟨F2, Ext.refl, S2, r⟩
            · have Sf := S2.fresh (u := .tup vs) hq
              refine ⟨Fp F2 q, (Ext.fresh hq).keep hq, Sf.keep (by rw [upd_same]; exact fun z => nomatch z) (S2.notcell hq) (S2.noown hq) (S2.ex.tr q hq), ?_⟩
              rw [ed]
              simp only [Rep]
              have Y : Ext m2 F2 H2 m2 (Fp F2 q) (upd H2 q (.tup vs)) := (Ext.fresh hq).keep hq
              exact ⟨q, vs, rfl, .inl ⟨.inr rfl, .inl upd_same⟩, RepL.mono Y.mono _ _ r, z⟩
          refine ⟨L, m2, F3, ds[i], l, eK, r3, hpa, fun vl hvl => ?_⟩
          have S4 := S3.pat hvl hsl rfl fun _ _ => rfl
          -- the body, from this turn's state
          refine ⟨m2, F3, E', st2, S4, ?_⟩
          have M3 := M2.trans X3.mono
          have M13 := M12.trans X3.mono
          -- what the rest asks is told from the loop's begin, and from the walk's
          have key : PostS L B W m F H (exB o b E' st2) { D with nx := fun σ' H' => ∃ E' st' m' F', Sim L B m' F' E' st' σ' H' ∧ Mono m F H m' F' H' ∧ PostS L B W m F H (forL p (fun E' st' => exB o b E' st') (ds.drop (i + 1)) E' st') D, ct := fun σ' H' => ∃ E' st' m' F', Sim L B m' F' E' st' σ' H' ∧ Mono m F H m' F' H' ∧ PostS L B W m F H (forL p (fun E' st' => exB o b E' st') (ds.drop (i + 1)) E' st') D, bk := D.nx } :=
            PostS.lp h2 fun E' st' q m' F' σ' H' M' S' => ⟨E', st', m', F', S', M', q⟩
          cases hb : exB o b E' st2 with
          | nx E5 st5 => rw [hb] at h2; exact fun m5 F5 σ5 H5 M5 S5 => ⟨m5, F5, E5, st5, M3.trans M5, M13.trans M5, S5, h2⟩
          | ct E5 st5 => rw [hb] at h2; exact fun m5 F5 σ5 H5 M5 S5 => ⟨m5, F5, E5, st5, M3.trans M5, M13.trans M5, S5, h2⟩
          | bk E5 st5 => rw [hb] at h2; exact fun m5 F5 σ5 H5 M5 S5 => h2 m5 F5 σ5 H5 (M3.trans M5) S5
          | rt v st5 => rw [hb] at h2; exact h2
          | ex xc E5 st5 => rw [hb] at h2; exact fun m5 F5 σ5 H5 cls d M5 S5 r5 => h2 m5 F5 σ5 H5 cls d (M3.trans M5) S5 r5
          | bad => rw [hb] at h2; exact h2
      · have e : i = ds.length := by omega
        subst e
        rw [List.drop_eq_nil_of_le (Nat.le_refl _), forL] at h2
        exact .inl ⟨hJ.stop m2 F2 H2 M12 hO, h2 m2 F2 σ2 H2 M2 S2⟩
end
end Mp

end
section
set_option Elab.async false
set_option linter.all false
set_option maxRecDepth 100000
set_option maxHeartbeats 4000000
/-! S20: places that change; stores in a row. -/
namespace Mp
open PySem PySem.Spec PyProof.Rows L2
section
variable {C : CC} {L : Lk} {B : Bs} {W : WX} {o : Orc} {X : Cx} {m m0 m1 m2 m' : List Addr} {F F0 F1 F2 F' : Addr → Prop} {H H0 H1 H2 H' : Hp} {E : Env} {st st' st0 st1 : Sto} {σ : L2.St} {Q : V → Hp → Prop} {me a b c : ME} {es : List ME} {k : Bool} {D : Ends} {s : MS} {ss : List MS}
theorem Sim.updOwn {i : Nat} {d d' : Mp.D} {p : Addr} {u : HO} (S : Sim L B m F E st σ H) (e : E[i]? = some (some (.new d))) (e2 : σ[i]? = some (some (.ref p))) (r' : ORep L m F (upd H p u) p d') : Sim L B m F (E.set i (some (.new d'))) st σ (upd H p u) := by
  obtain ⟨x, e3, q, rfl, r, nf, nm, n0⟩ := S.sl i _ e
  rw [e2] at e3; cases e3
  have hi := (List.getElem?_eq_some_iff.mp e).1
  have M : Mono m F H m F (upd H p u) := Mono.updFree nf
  have kp : ∀ a o, a ≠ p → H a = some o → upd H p u a = some o := fun a o ne e => by rw [upd_ne ne]; exact e
  have oth : ∀ j, j ≠ i → ¬ OwnAt E σ j p := fun j hj q => hj (S.ij j i p q ⟨⟨d, e⟩, e2⟩)
  refine ⟨⟨fun n d e => ?_, S.wd.ln, S.wd.nd, fun a fa => ⟨fun z => ?_, (S.wd.ft a fa).2⟩⟩, S.ex.updFree n0 nf, fun j v ej => ?_, by rw [List.length_set]; exact S.ln, fun j k a hj hk => ?_⟩
  · obtain ⟨a, e1, r⟩ := S.wd.ce n d e
    exact ⟨a, e1, r.mono M fun o q => kp a o (fun z => nm (z ▸ List.mem_of_getElem? e1)) q⟩
  · have ne : a ≠ p := fun z => by subst z; exact nf fa
    rw [upd_ne ne] at z
    exact (S.wd.ft a fa).1 z
  · by_cases hj : j = i
    · subst hj
      rw [List.getElem?_set_self hi] at ej
      cases ej
      exact ⟨_, e2, p, rfl, r', nf, nm, n0⟩
    · rw [List.getElem?_set_ne (Ne.symm hj)] at ej
      obtain ⟨x, e1, r⟩ := S.sl j v ej
      refine ⟨x, e1, ?_⟩
      cases v with
      | dat d => exact Rep.mono M _ _ r
      | new d =>
        obtain ⟨a, rfl, r, nf1, nm1, n1⟩ := r
        exact ⟨a, rfl, r.mono M fun o q => kp a o (fun z => oth j hj (by subst z; exact ⟨⟨d, ej⟩, e1⟩)) q, nf1, nm1, n1⟩
      | bor d => exact r
      | xv c fs => obtain ⟨q, e, e2, e3, r⟩ := r; exact ⟨q, e, e2, e3, r.mono M⟩
  · have back : ∀ k, OwnAt (E.set i (some (.new d'))) σ k a → OwnAt E σ k a := fun k ⟨⟨d', q1⟩, q2⟩ => by
      by_cases hk : k = i
      · subst hk; exact ⟨⟨d, e⟩, q2⟩
      · rw [List.getElem?_set_ne (Ne.symm hk)] at q1; exact ⟨⟨d', q1⟩, q2⟩
    exact S.ij j k a (back j hj) (back k hk)
theorem Sim.updCell {n : Nat} {d d' : Mp.D} {p : Addr} {u : HO} (S : Sim L B m F E st σ H) (hn : m[n]? = some p) (hs : st[n]? = some d) (r' : ORep L m F (upd H p u) p d') : Sim L B m F E (st.set n d') σ (upd H p u) := by
  have pm : p ∈ m := List.mem_of_getElem? hn
  have nf : ¬ F p := fun z => (S.wd.ft p z).2 pm
  have M : Mono m F H m F (upd H p u) := Mono.updFree nf
  have kp : ∀ a o, a ≠ p → H a = some o → upd H p u a = some o := fun a o ne e => by rw [upd_ne ne]; exact e
  have hl := (List.getElem?_eq_some_iff.mp hs).1
  refine ⟨⟨fun k d2 e => ?_, by rw [List.length_set]; exact S.wd.ln, S.wd.nd, fun a fa => ⟨fun z => ?_, (S.wd.ft a fa).2⟩⟩, ?_, fun j v ej => ?_, S.ln, S.ij⟩
  · by_cases hk : k = n
    · subst hk
      rw [List.getElem?_set_self hl] at e
      cases e
      exact ⟨p, hn, r'⟩
    · rw [List.getElem?_set_ne (Ne.symm hk)] at e
      obtain ⟨a, e1, r⟩ := S.wd.ce k d2 e
      refine ⟨a, e1, r.mono M fun o q => kp a o (fun z => hk ?_) q⟩
      subst z
      obtain ⟨h1, h2⟩ := List.getElem?_eq_some_iff.mp e1
      exact (List.getElem?_inj h1 S.wd.nd).mp (e1.trans hn.symm)
  · have ne : a ≠ p := fun z => by subst z; exact nf fa
    rw [upd_ne ne] at z
    exact (S.wd.ft a fa).1 z
  · refine ⟨S.ex.mp, S.ex.fm, S.ex.fn, fun a o e h1 h2 => ?_, fun a fa o e => ?_, fun a e => ?_⟩
    · have ne : a ≠ p := fun z => by
        subst z
        obtain ⟨l, hl, hf⟩ := S.ex.mp
        rw [hl] at pm
        rcases List.mem_append.mp pm with q | q
        · exact h1 q
        · rw [hf a q] at e; cases e
      rw [upd_ne ne]
      exact S.ex.kp a o e h1 h2
    · have ne : a ≠ p := fun z => by subst z; exact nf (S.ex.fm _ fa)
      rw [upd_ne ne]
      exact S.ex.st a fa o e
    · by_cases ne : a = p
      · subst ne; rw [upd_same] at e; cases e
      · rw [upd_ne ne] at e; exact S.ex.tr a e
  · obtain ⟨x, e1, r⟩ := S.sl j v ej
    refine ⟨x, e1, ?_⟩
    cases v with
    | dat d => exact Rep.mono M _ _ r
    | new d =>
      obtain ⟨a, rfl, r, nf1, nm1, n1⟩ := r
      exact ⟨a, rfl, r.mono M fun o q => kp a o (fun z => nm1 (by rw [z]; exact pm)) q, nf1, nm1, n1⟩
    | bor d => exact r
    | xv c fs => obtain ⟨q, e, e2, e3, r⟩ := r; exact ⟨q, e, e2, e3, r.mono M⟩
/-- a place (a variable's own container, or a cell) that is changed: f on the data, u in the heap -/
theorem PostS.chg {i : Nat} {f : Mp.D → Option Mp.D} (M0 : Mono m0 F0 H0 m F H) (S : Sim L B m F E st σ H) (h : PostS L B W m0 F0 H0 ((chgE o (.var i) f E st).sr E fun E' st' => .nx E' st') D) :
    ∃ p d d', σ[i]? = some (some (.ref p)) ∧ f d = some d' ∧ ORep L m F H p d ∧ ¬ F p ∧ ∀ u, ORep L m F (upd H p u) p d' → D.nx σ (upd H p u) := by
  unfold chgE at h
  simp only at h
  split at h
  · rename_i d e
    cases ef : f d with
    | none => rw [ef] at h; exact h.elim
    | some d' =>
      rw [ef] at h
      obtain ⟨x, e2, p, rfl, r, nf, nm, n0⟩ := S.sl i _ e
      exact ⟨p, d, d', e2, ef, r, nf, fun u r' => h m F σ _ (M0.trans (Mono.updFree nf)) (S.updOwn e e2 r')⟩
  · rename_i n e
    cases es : st[n]? with
    | none => rw [es] at h; exact h.elim
    | some d =>
      rw [es] at h
      cases ef : f d with
      | none => simp only [Option.bind_some, ef] at h; exact h.elim
      | some d' =>
        simp only [Option.bind_some, ef] at h
        obtain ⟨x, e2, r⟩ := S.sl i _ e
        simp only [SlR, Rep] at r
        obtain ⟨p, rfl, hp⟩ := r
        obtain ⟨p', e1, r⟩ := S.wd.ce n d es
        rw [hp] at e1; cases e1
        have nf : ¬ F p := fun z => (S.wd.ft p z).2 (List.mem_of_getElem? hp)
        exact ⟨p, d, d', e2, ef, r, nf, fun u r' => h m F σ _ (M0.trans (Mono.updFree nf)) (S.updCell hp es r')⟩
  · exact h.elim
theorem bind_sr {α : Type} (r : ER Val) (f : Val → Sto → ER α) (E : Env) (g : α → Sto → SR) : (r.bind f).sr E g = r.sr E fun a st => (f a st).sr E g := by cases r <;> rfl
def rSetC : TSet := fun o i v H Q => rSetL o i v H Q ∨ ∃ a H', o = .ref a ∧ DPut H a i v H' ∧ Q H'
theorem set_C {X : Cx} (hu : X.A.units + 1 < cLine) : PSet X rSetC := by
  intro pins s σ H o i v ov iv u Q I r1 r2 r3 h
  rcases h with h | ⟨a, H', rfl, g, q⟩
  · exact set_list pins s σ H o i v ov iv u Q I r1 r2 r3 h
  · obtain rfl : ov = Value.ref a := r1
    exact d_setItem hu I g r2 r3 fun s' I' => ⟨H', I', q⟩
/-- xs[i] = e, xs a variable -/
theorem tS_sub {i : Nat} {b : ME} (h : tS L B W o (.asg (.sub (.var i) b) me) D σ H) : tAsg (tE L B W o me) (gSub (tVar i) (tE L B W o b) rSetC) D σ H := by
  obtain ⟨m, F, E, st, S, h⟩ := h
  rw [exS] at h
  refine tE.mono (fun x H1 ⟨m1, F1, st1, v, X1, M1, S1, r1, h1⟩ => ?_) (tE_sr Mono.refl S h)
  rw [tgF] at h1
  cases hpl : plcB (.var i) E with
  | false => rw [hpl] at h1; exact h1.elim
  | true =>
  rw [hpl, if_pos rfl] at h1
  obtain ⟨x0, e0⟩ : ∃ x0, σ[i]? = some (some x0) := by
    simp only [plcB] at hpl
    split at hpl
    · rename_i v0 e; obtain ⟨x, e1, _⟩ := S.sl i _ e; exact ⟨x, e1⟩
    · cases hpl
  cases hk : v.kp with
  | none => rw [hk] at h1; exact h1.elim
  | some d =>
    rw [hk] at h1
    have h1 : PostS L B W m F H (((evE o b E st1).bind fun x st1 => (ER.opt x.kp st1).bind fun j st2 => chgE o (.var i) (fun c => setSub c j d) E st2).sr E fun E' st2 => .nx E' st2) D := h1
    rw [bind_sr] at h1
    obtain ⟨F', X', S', r', mF, _⟩ := VRep.kept X1 S.beg S1 r1 hk
    have M1' : Mono m F H m1 F' H1 := M1.trans ⟨fun _ _ z => z, mF, fun _ _ => Stay.refl⟩
    have key := tE_sr M1' S' h1
    have fin : ∀ y H2, (∃ m2 F2 st2 w, Ext m1 F' H1 m2 F2 H2 ∧ Mono m F H m2 F2 H2 ∧ Sim L B m2 F2 E st2 σ H2 ∧ VRep L m2 F2 H2 E σ H1 w y ∧ PostS L B W m F H (((ER.opt w.kp st2).bind fun j st2 => chgE o (.var i) (fun c => setSub c j d) E st2).sr E fun E' st2 => .nx E' st2) D) →
        ∃ p, σ[i]? = some (some (.ref p)) ∧ rSetC (.ref p) y x H2 (fun H3 => D.nx σ H3) := fun y H2 ⟨m2, F2, st2, w, X2, M2, S2, r2, h2⟩ => by
      cases hk2 : w.kp with
      | none => rw [hk2] at h2; exact h2.elim
      | some j =>
        rw [hk2] at h2
        have h2 : PostS L B W m F H ((chgE o (.var i) (fun c => setSub c j d) E st2).sr E fun E' st2 => .nx E' st2) D := h2
        obtain ⟨p, d0, d1, ep, ef, ro, nf, hq⟩ := PostS.chg M2 S2 h2
        have hx := Rep.mono X2.mono _ _ r'
        cases d0 <;> simp only [setSub] at ef <;> try contradiction
        · rename_i xs
          cases j <;> simp only at ef <;> try contradiction
          rename_i k _
          simp only [Option.map_eq_some_iff] at ef
          obtain ⟨n, en, rfl⟩ := ef
          simp only [ORep] at ro
          obtain ⟨vs, eH, rl, z⟩ := ro
          have ey : y = .int k := by
            cases w with
            | dat e => cases hk2; exact r2
            | new e => obtain ⟨rfl, _⟩ := kp_new hk2; obtain ⟨_, _, r3, _⟩ := r2; simp only [ORep] at r3
            | bor e => cases hk2
            | xv c fs => cases hk2
          refine ⟨p, ep, .inl ⟨p, vs, k, n, rfl, ey, eH, by rw [ixN_idx, ← rl.len]; exact en, hq _ ?_⟩⟩
          simp only [ORep]
          have M3 : Mono m2 F2 H2 m2 F2 (upd H2 p (.lst (vs.set n x))) := Mono.updFree nf
          exact ⟨_, upd_same, RepL.mono M3 _ _ (rl.set n hx), by rw [List.length_set]; exact z⟩
        · rename_i kvs
          split at ef
          · rename_i hk3
            cases ef
            obtain ⟨q, hq3⟩ := keyOf_some hk3.1
            simp only [ORep] at ro
            obtain ⟨ks, eH, rk, z⟩ := ro
            have ey : y = kV q := by
              cases w with
              | dat e =>
                have r4 : Rep L m2 F2 H2 e y := r2
                cases hk2
                exact keyOf_kV hq3 (Rep.look r4)
              | new e =>
                obtain ⟨rfl, _⟩ := kp_new hk2
                obtain ⟨_, _, r3, _⟩ := r2
                cases e <;> simp [keyOf] at hq3 <;> simp only [ORep] at r3
              | bor e => cases hk2
              | xv c fs => cases hk2
            have hok : kOk j = true := by
              cases w with
              | dat e =>
                have r4 : Rep L m2 F2 H2 e y := r2
                cases hk2
                exact kOk_of hk3.1 (Rep.look r4)
              | new e =>
                obtain ⟨rfl, _⟩ := kp_new hk2
                obtain ⟨_, _, r3, _⟩ := r2
                cases e <;> simp [keyOf] at hq3 <;> simp only [ORep] at r3
              | bor e => cases hk2
              | xv c fs => cases hk2
            refine ⟨p, ep, .inr ⟨p, _, rfl, .inl ⟨ks, q, eH, ey, by rw [← rk.lenK]; exact szLt (Nat.le_of_lt hk3.2), rfl⟩, hq _ ?_⟩⟩
            simp only [ORep]
            have M3 : Mono m2 F2 H2 m2 F2 (upd H2 p (.dK (putK ks q x))) := Mono.updFree nf
            exact ⟨_, upd_same, RepK.mono M3 _ _ (rk.put hq3 hok hx), dPut_len hk3.2⟩
          · cases ef
    refine ⟨x0, e0, tE.mono (fun y H2 z => ?_) key⟩
    obtain ⟨p, ep, q⟩ := fin y H2 z
    rw [e0] at ep; cases ep
    exact q
end
end Mp

end
section
set_option Elab.async false
set_option linter.all false
set_option maxRecDepth 100000
set_option maxHeartbeats 4000000
/-! S21: insert, stores in a row, a comprehension's name. -/
namespace Mp
open PySem PySem.Spec PyProof.Rows L2
def slots : List Tg → Option (List Nat)
  | [] => some []
  | .v i :: r => (slots r).map (i :: ·)
  | _ :: _ => none
def setSl : List Nat → List V → L2.St → L2.St
  | i :: is, x :: xs, σ => setSl is xs (σ.set i (some x))
  | _, _, σ => σ
section
variable {C : CC} {L : Lk} {B : Bs} {W : WX} {o : Orc} {X : Cx} {m m0 m1 m2 m' : List Addr} {F F0 F1 F2 F' : Addr → Prop} {H H0 H1 H2 H' : Hp} {E : Env} {st st' st0 st1 : Sto} {σ : L2.St} {Q : V → Hp → Prop} {me a b c : ME} {es : List ME} {k : Bool} {D : Ends} {s : MS} {ss : List MS}
theorem PostS.plcL {i : Nat} {r : SR} (S : Sim L B m F E st σ H) (h : PostS L B W m0 F0 H0 (if !Mp.plcL (.var i) E st then .bad else r) D) : PostS L B W m0 F0 H0 r D ∧ ∃ p xs, σ[i]? = some (some (.ref p)) ∧ H p = some (.lst xs) := by
  cases hp : Mp.plcL (.var i) E st with
  | false => rw [hp] at h; exact h.elim
  | true =>
    rw [hp] at h
    refine ⟨h, ?_⟩
    simp only [Mp.plcL] at hp
    split at hp
    · rename_i xs e
      obtain ⟨x, e1, p, rfl, r, _⟩ := S.sl i _ e
      simp only [ORep] at r
      obtain ⟨vs, e2, _⟩ := r
      exact ⟨p, vs, e1, e2⟩
    · rename_i n e
      obtain ⟨x, e1, r⟩ := S.sl i _ e
      simp only [SlR, Rep] at r
      obtain ⟨p, rfl, hm⟩ := r
      split at hp
      · rename_i xs es
        obtain ⟨p', e2, r⟩ := S.wd.ce n _ es
        rw [hm] at e2; cases e2
        simp only [ORep] at r
        obtain ⟨vs, e2, _⟩ := r
        exact ⟨p, vs, e1, e2⟩
      · cases hp
    · cases hp
/-- xs.insert(i, e) -/
theorem tS_ins {i : Nat} (h : tS L B W o (.ins (.var i) a b) D σ H) : tDrop (tBM X.K "list" (fun x vs H Q => ∃ (l : Addr) (xs : List V) (i : Int) (y : V), x = .ref l ∧ vs = [.int i, y] ∧ H l = some (.lst xs) ∧ xs.length < sizeLine ∧ 0 ≤ i ∧ i < 2 ^ 63 ∧
    Q .non (upd H l (.lst (xs.take i.toNat ++ [y] ++ xs.drop i.toNat)))) (tVar i) (tCons (tE L B W o a) (tCons (tE L B W o b) tNil))) D σ H := by
  obtain ⟨m, F, E, st, S, h⟩ := h
  rw [exS] at h
  obtain ⟨h, p, xs, ep, eH⟩ := PostS.plcL S h
  refine ⟨_, ep, .inl ⟨rfl, xs, .inl (.inl eH)⟩, ?_⟩
  refine tE.mono (fun y H1 ⟨m1, F1, st1, w, X1, M1, S1, r1, h1⟩ => ?_) (tE_sr Mono.refl S h)
  refine tE.mono (fun x H2 ⟨m2, F2, st2, v, X2, M2, S2, r2, h2⟩ => ?_) (tE_sr M1 S1 h1)
  cases e1 : w.d with
  | int k =>
    rw [e1] at h2
    cases hk : v.kp with
    | none => rw [hk] at h2; exact h2.elim
    | some d =>
      rw [hk] at h2
      obtain ⟨F', X', S', r', mF, _⟩ := VRep.kept X2 S1.beg S2 r2 hk
      obtain ⟨q, d0, d1, eq, ef, ro, nf, hq⟩ := PostS.chg (M2.trans ⟨fun _ _ z => z, mF, fun _ _ => Stay.refl⟩) S' h2
      rw [ep] at eq
      cases eq
      have hw : w.d ≠ .bad := by rw [e1]; exact fun z => nomatch z
      have ey : y = .int k := (r1.ext X2).int S2 e1
      cases d0 <;> simp only at ef <;> try contradiction
      rename_i ds
      split at ef
      · rename_i hz
        cases ef
        simp only [ORep] at ro
        obtain ⟨vs, e2, rl, z⟩ := ro
        refine ⟨p, vs, k, x, rfl, by rw [ey], e2, by rw [← rl.len]; exact szLt (Nat.le_of_lt hz.1), hz.2.1, by have := hz.2.2; omega, hq _ ?_⟩
        simp only [ORep]
        have M3 : Mono m2 F' H2 m2 F' (upd H2 p (.lst (vs.take k.toNat ++ [x] ++ vs.drop k.toNat))) := Mono.updFree nf
        refine ⟨_, upd_same, RepL.mono M3 _ _ ?_, ?_⟩
        · have e3 : ds.take (clampI ds.length k) = ds.take k.toNat ∧ ds.drop (clampI ds.length k) = ds.drop k.toNat := by
            unfold clampI
            rw [if_neg (by omega)]
            by_cases hlt : k.toNat ≤ ds.length
            · rw [Nat.min_eq_left hlt]; exact ⟨rfl, rfl⟩
            · rw [Nat.min_eq_right (by omega), List.take_of_length_le (Nat.le_refl _), List.take_of_length_le (by omega), List.drop_eq_nil_of_le (Nat.le_refl _), List.drop_eq_nil_of_le (by omega)]
              exact ⟨rfl, rfl⟩
          rw [e3.1, e3.2, List.append_assoc]
          exact (rl.take _).append (by simp only [List.singleton_append, RepL]; exact ⟨r', rl.drop _⟩)
        · have h1 := hz.1
          simp only [List.length_append, List.length_cons, List.length_take, List.length_drop]
          omega
      · cases ef
  | _ => rw [e1] at h2; exact h2.elim
theorem strInsert : ("insert" : Str) = ("insert" : Str) := rfl
theorem ps_insM (f : Fx C L o B X W) {i : Nat} {x : Str} {e1 e2 : Expr} {ap cp p : Pos} {q : Pos} (hv : visB C i x = true) (h1 : okE e1 = true) (h2 : okE e2 = true) (hl : (ap.endLine == cp.line) = true) (ha : PE X e1 (tE L B W o a)) (hb : PE X e2 (tE L B W o b)) :
    PS X (.Expr (.Call (.Attribute (.Name x q) ("insert" : Str) ap) [e1, e2] [] cp) p) (tS L B W o (.ins (.var i) a b)) := by
  obtain ⟨g1, g2, g3, g4⟩ := f.vis hv
  refine (ps_expr (pe_bm PySem.F.plainAttrs_list PySem.F.slot_list_insert PySem.F.type_list_insert mt_insert (pe_var g1 g2 g3 g4) (pa_cons ha (pa_cons hb pa_nil (okE_star h2 _ _)) (okE_star h1 _ _)) rfl ?_ hl (okE_star h1 _ _) (allOk_any (by simp [h2]))) rfl).imp fun D σ H h => tS_ins h
  rw [okE_star h1, okE_star h2]
  rfl
/-! stores in a row -/
theorem Sim.set' {i : Nat} {v : Val} {x : V} (S : Sim L B m F E st σ H) (r : SlR L B m F H i v x) (hi : i < E.length) (hv : (∃ d, v = .dat d) ∨ ∃ d, v = .new d) (no : ∀ d a, v = .new d → x = .ref a → ∀ j, j ≠ i → ¬ OwnAt E σ j a) :
    Sim L B m F (E.set i (some v)) st (σ.set i (some x)) H := by
  have hi2 : i < σ.length := by rw [← S.ln]; exact hi
  have back : ∀ k a, k ≠ i → OwnAt (E.set i (some v)) (σ.set i (some x)) k a → OwnAt E σ k a := fun k a hk ⟨⟨d', q1⟩, q2⟩ => by
    rw [List.getElem?_set_ne (Ne.symm hk)] at q1 q2
    exact ⟨⟨d', q1⟩, q2⟩
  have own : ∀ a, OwnAt (E.set i (some v)) (σ.set i (some x)) i a → ∃ d, v = .new d ∧ x = .ref a := fun a ⟨⟨d', q1⟩, q2⟩ => by
    rw [List.getElem?_set_self hi] at q1
    rw [List.getElem?_set_self hi2] at q2
    cases q1; cases q2
    exact ⟨d', rfl, rfl⟩
  refine ⟨S.wd, S.ex, fun j w e => ?_, by simp [S.ln], fun j k a hj hk => ?_⟩
  · by_cases hj : j = i
    · subst hj
      rw [List.getElem?_set_self hi] at e
      cases e
      exact ⟨x, List.getElem?_set_self hi2, r⟩
    · rw [List.getElem?_set_ne (Ne.symm hj)] at e
      obtain ⟨y, e1, r1⟩ := S.sl j w e
      exact ⟨y, by rw [List.getElem?_set_ne (Ne.symm hj)]; exact e1, r1⟩
  · by_cases h1 : j = i
    · by_cases h2 : k = i
      · rw [h1, h2]
      · obtain ⟨d, e1, e2⟩ := own a (h1 ▸ hj)
        exact absurd (back k a h2 hk) (no d a e1 e2 k h2)
    · by_cases h2 : k = i
      · obtain ⟨d, e1, e2⟩ := own a (h2 ▸ hk)
        exact absurd (back j a h1 hj) (no d a e1 e2 j h1)
      · exact S.ij j k a (back j a h1 hj) (back k a h2 hk)
/-- a value that a slot may take, told without the state -/
def VN (L : Lk) (B : Bs) (m : List Addr) (F : Addr → Prop) (H : Hp) : Val → V → Prop
  | .dat d, x => Rep L m F H d x
  | .new d, x => ∃ a, x = .ref a ∧ ORep L m F H a d ∧ ¬ F a ∧ a ∉ m ∧ B.H a = none
  | .bor _, _ => True
  | .xv _ _, _ => True
def VNL (L : Lk) (B : Bs) (m : List Addr) (F : Addr → Prop) (H : Hp) : List Val → List V → Prop
  | [], [] => True
  | v :: vs, x :: xs => VN L B m F H v x ∧ VNL L B m F H vs xs
  | _, _ => False
theorem VsL.vn (tr : ∀ a, H0 a = none → B.H a = none) : ∀ {vs : List Val} {xs : List V}, VsL L m F H E σ H0 vs xs → VNL L B m F H vs xs
  | [], [], _ => trivial
  | v :: vs, x :: xs, h => by
    refine ⟨?_, VsL.vn tr h.2⟩
    have h1 := h.1
    cases v with
    | dat d => exact h1
    | new d => obtain ⟨a, e, r, nf, nm, n0⟩ := h1; exact ⟨a, e, r, nf, nm, tr a n0⟩
    | bor d => trivial
    | xv c fs => trivial
theorem VNL.ext (X1 : Ext m F H m' F' H') : ∀ {vs : List Val} {xs : List V}, VNL L B m F H vs xs → VNL L B m' F' H' vs xs
  | [], [], _ => trivial
  | v :: vs, x :: xs, h => by
    refine ⟨?_, VNL.ext X1 h.2⟩
    have h1 := h.1
    cases v with
    | dat d => exact Rep.mono X1.mono _ _ h1
    | new d =>
      obtain ⟨a, e, r, nf, nm, n0⟩ := h1
      obtain ⟨k, nf', nm'⟩ := X1.own r.there nm nf
      exact ⟨a, e, r.mono X1.mono k, nf', nm', n0⟩
    | bor d => trivial
    | xv c fs => trivial
theorem tgL_v {f : Env → Sto → SR} {E0 : Env} : ∀ {ts : List Tg} {is : List Nat} {vs : List Val} {xs : List V} {E : Env} {σ : L2.St}, slots ts = some is → Sim L B m F E st σ H → VNL L B m F H vs xs → (news vs xs).Nodup → (∀ a, V.ref a ∈ news vs xs → ∀ j, ¬ OwnAt E σ j a) →
    PostS L B W m0 F0 H0 ((tgL o ts vs E st).sr E0 f) D → ∃ E', Sim L B m F E' st (setSl is xs σ) H ∧ PostS L B W m0 F0 H0 (f E' st) D ∧ is.length = xs.length
  | [], is, vs, xs, E, σ, hs, S, hv, nd, no, h => by
    cases hs
    cases vs with
    | nil =>
      cases xs with
      | nil => rw [tgL] at h; exact ⟨E, S, h, rfl⟩
      | cons => exact hv.elim
    | cons v vs => rw [tgL] at h; exact h.elim; all_goals (intros; simp_all)
  | .v i :: ts, is, vs, xs, E, σ, hs, S, hv, nd, no, h => by
    simp only [slots, Option.map_eq_some_iff] at hs
    obtain ⟨is', hs, rfl⟩ := hs
    cases vs with
    | nil => rw [tgL] at h; exact h.elim; all_goals (intros; simp_all)
    | cons v vs =>
      cases xs with
      | nil => exact hv.elim
      | cons x xs =>
        rw [tgL] at h
        have hh : i < E.length ∧ ((∃ d, v = .dat d) ∨ ∃ d, v = .new d) ∧ PostS L B W m0 F0 H0 ((tgL o ts vs (E.set i (some v)) st).sr E0 f) D := by
          cases v with
          | dat d =>
            simp only [tgF] at h
            by_cases hi : i < E.length
            · rw [if_pos hi] at h; exact ⟨hi, .inl ⟨d, rfl⟩, h⟩
            · rw [if_neg hi] at h; exact h.elim
          | new d =>
            simp only [tgF] at h
            by_cases hi : i < E.length
            · rw [if_pos hi] at h; exact ⟨hi, .inr ⟨d, rfl⟩, h⟩
            · rw [if_neg hi] at h; exact h.elim
          | bor d => simp only [tgF] at h; exact h.elim
          | xv c fs => simp only [tgF] at h; exact h.elim
        obtain ⟨hi, hdn, h2⟩ := hh
        simp only [news] at nd no
        rw [List.nodup_append] at nd
        have r : SlR L B m F H i v x := by
          have h1 := hv.1
          rcases hdn with ⟨d, rfl⟩ | ⟨d, rfl⟩
          · exact h1
          · exact h1
        have S1 := S.set' r hi hdn fun d a e1 e2 j hj => no a (List.mem_append_left _ (by rw [e1, e2]; simp)) j
        obtain ⟨E', S2, h3, hl⟩ := tgL_v hs S1 hv.2 nd.2.1 (fun a ha j q => by
          by_cases hj : j = i
          · subst hj
            obtain ⟨⟨d, q1⟩, q2⟩ := q
            rw [List.getElem?_set_self hi] at q1
            rw [List.getElem?_set_self (by rw [← S.ln]; exact hi)] at q2
            cases q1; cases q2
            exact nd.2.2 (.ref a) (by simp) (.ref a) ha rfl
          · obtain ⟨⟨d, q1⟩, q2⟩ := q
            rw [List.getElem?_set_ne (Ne.symm hj)] at q1 q2
            exact no a (List.mem_append_right _ ha) j ⟨⟨d, q1⟩, q2⟩) h2
        exact ⟨E', S2, h3, by simp [hl]⟩
  | .fld .. :: _, _, _, _, _, _, hs, _, _, _, _, _ => by simp [slots] at hs
  | .sub .. :: _, _, _, _, _, _, hs, _, _, _, _, _ => by simp [slots] at hs
  | .t .. :: _, _, _, _, _, _, hs, _, _, _, _, _ => by simp [slots] at hs
theorem tL_sr {f : List Val → Sto → SR} (X0 : Mono m0 F0 H0 m F H) (S : Sim L B m F E st σ H) (h : PostS L B W m0 F0 H0 ((evL o es E st).sr E f) D) :
    tL L B W o es σ H (fun xs H1 => ∃ m1 F1 st1 vs, Ext m F H m1 F1 H1 ∧ Mono m0 F0 H0 m1 F1 H1 ∧ Sim L B m1 F1 E st1 σ H1 ∧ VsRep L m1 F1 H1 E σ H vs xs ∧ evL o es E st = .ok vs st1 ∧ PostS L B W m0 F0 H0 (f vs st1) D) := by
  refine ⟨m, F, E, st, S, ?_⟩
  cases e : evL o es E st with
  | ok v st1 =>
    rw [e] at h
    exact fun m1 F1 x H1 a b c => ⟨m1, F1, st1, v, a, X0.trans a.mono, b, c, rfl, h⟩
  | ex xc st1 =>
    rw [e] at h
    exact fun m1 F1 H1 cls d a b c => h m1 F1 σ H1 cls d (X0.trans a.mono) b c
  | bad =>
    rw [e] at h
    exact h
/-- a, b = e, f by the swap -/
theorem tS_par {ts : List Tg} {i j : Nat} (hs : slots ts = some [i, j]) (h : tS L B W o (.par ts es) D σ H) : tPar i j (tL L B W o es) D σ H := by
  obtain ⟨m, F, E, st, S, h⟩ := h
  rw [exS] at h
  refine tL.mono (fun xs H1 ⟨m1, F1, st1, vs, X1, M1, S1, r1, e1, h1⟩ => ?_) (tL_sr Mono.refl S h)
  obtain ⟨E', S2, h2, hl⟩ := tgL_v hs S1 (r1.al.vn S.ex.tr) r1.nd (fun a ha j q => by
    obtain ⟨a', e, n⟩ := news_fresh r1.al _ ha
    cases e
    exact S.ownThere q n) h1
  match xs, hl with
  | [x, y], _ => exact ⟨x, y, rfl, h2 m1 F1 _ H1 M1 S2⟩
/-- a, b, .. = e, f, .. by the tuple -/
theorem tS_parT {ts : List Tg} {is : List Nat} (hs : slots ts = some is) (hz : es.length ≤ szMax) (h : tS L B W o (.par ts es) D σ H) :
    tAsg (tTup (tL L B W o es)) (fun v σ H Q => ∃ a xs, v = .ref a ∧ SqT X.K H a xs ∧ xs.length = is.length ∧ Q (setSl is xs σ) H) D σ H := by
  obtain ⟨m, F, E, st, S, h⟩ := h
  rw [exS] at h
  refine tL.mono (fun xs H1 ⟨m1, F1, st1, vs, X1, M1, S1, r1, e1, h1⟩ => ?_) (tL_sr Mono.refl S h)
  have hlen : xs.length = es.length := by rw [← VsL.len r1.al, evL_len e1]
  refine ⟨by rw [hlen]; exact Nat.le_trans hz szLine, fun p hp => ?_⟩
  have Xf : Ext m1 F1 H1 m1 F1 (upd H1 p (.tup xs)) := Ext.fresh hp
  obtain ⟨E', S2, h2, hl⟩ := tgL_v hs (S1.fresh (u := .tup xs) hp) ((r1.al.vn S.ex.tr).ext Xf) r1.nd (fun a ha j q => by
    obtain ⟨a', e, n⟩ := news_fresh r1.al _ ha
    cases e
    exact S.ownThere q n) h1
  exact ⟨p, xs, rfl, .inl (.inl upd_same), hl.symm, h2 m1 F1 _ _ (M1.trans Xf.mono) S2⟩
end
end Mp

end
section
set_option Elab.async false
set_option linter.all false
set_option maxRecDepth 100000
set_option maxHeartbeats 4000000
/-! S21b: stores of fields, rows of targets, append, +=. -/
namespace Mp
open PySem PySem.Spec PyProof.Rows L2
section
variable {C : CC} {L : Lk} {B : Bs} {W : WX} {o : Orc} {X : Cx} {m m0 m1 m2 m' : List Addr} {F F0 F1 F2 F' : Addr → Prop} {H H0 H1 H2 H' : Hp} {E : Env} {st st' : Sto} {σ : L2.St} {D : Ends} {me a b : ME}
theorem RepF.put (hi : ∀ j k, L.nm j = L.nm k → j = k) {k : Nat} {d : Mp.D} {x : V} (r : Rep L m F H d x) : ∀ {fs : List (Nat × Mp.D)} {fv : List (Str × V)}, RepF L m F H fs fv → RepF L m F H (putFld k d fs) (putF (L.nm k) x fv)
  | [], [], _ => by simp only [putFld, putF, RepF]; exact ⟨trivial, r, trivial⟩
  | (j, e) :: fs, (y, w) :: fv, h => by
    simp only [RepF] at h
    obtain ⟨rfl, r1, r2⟩ := h
    by_cases ek : j = k
    · subst ek
      simp only [putFld, putF, beq_self_eq_true, if_true, RepF]
      first | exact ⟨rfl, r, r2⟩ | exact ⟨trivial, r, r2⟩
    · have e1 : (j == k) = false := by simpa using ek
      have e2 : ¬ L.nm j = L.nm k := fun z => ek (hi j k z)
      simp only [putFld, putF, e1, if_neg e2, RepF]
      first | exact ⟨rfl, r1, RepF.put hi r r2⟩ | exact ⟨trivial, r1, RepF.put hi r r2⟩
  | [], _ :: _, r => by simp only [RepF] at r
  | _ :: _, [], r => by simp only [RepF] at r
theorem RepF.lenF : ∀ {fs : List (Nat × Mp.D)} {fv : List (Str × V)}, RepF L m F H fs fv → fs.length = fv.length
  | [], [], _ => rfl
  | (j, e) :: fs, (y, w) :: fv, h => by simp only [RepF] at h; simp [RepF.lenF h.2.2]
  | [], _ :: _, r => by simp only [RepF] at r
  | _ :: _, [], r => by simp only [RepF] at r
/-- x.f = e, x a variable -/
theorem tS_fld (f : Fx C L o B X W) {i k : Nat} {y : Str} (hy : L.nm k = y) (h : tS L B W o (.asg (.fld (.var i) k) me) D σ H) : sFld X.K (tVar i) (tE L B W o me) y D σ H := by
  obtain ⟨m, F, E, st, S, h⟩ := h
  rw [exS] at h
  refine tE.mono (fun x H1 ⟨m1, F1, st1, v, X1, M1, S1, r1, h1⟩ => ?_) (tE_sr Mono.refl S h)
  rw [tgF] at h1
  cases hk : v.kp with
  | none => rw [hk] at h1; exact h1.elim
  | some d =>
    rw [hk] at h1
    obtain ⟨F', X', S', r', mF, _⟩ := VRep.kept X1 S.beg S1 r1 hk
    have M1' : Mono m F H m1 F' H1 := M1.trans ⟨fun _ _ z => z, mF, fun _ _ => Stay.refl⟩
    obtain ⟨p, d0, d1, ep, ef, ro, nf, hq⟩ := PostS.chg M1' S' h1
    cases d0 <;> simp only [setFld] at ef <;> try contradiction
    rename_i c fs
    split at ef
    · rename_i hz
      cases ef
      simp only [ORep] at ro
      obtain ⟨dx, fv, eH, rf⟩ := ro
      obtain ⟨hc, hn⟩ := f.oc c k (by simpa using hz.1)
      rw [hy] at hn
      refine ⟨_, ep, p, L.cad c, dx, fv, rfl, eH, hc, hn, by rw [← rf.lenF]; omega, hq _ ?_⟩
      simp only [ORep]
      have M3 : Mono m1 F' H1 m1 F' (upd H1 p (.ins (L.cad c) dx (putF y x fv))) := Mono.updFree nf
      refine ⟨dx, _, upd_same, ?_⟩
      rw [← hy] at M3 ⊢
      exact RepF.mono M3 _ _ (RepF.put f.fi r' rf)
    · cases ef
/-- a row of names = e -/
theorem tS_asgT (eK : L.K = X.K) {ts : List Tg} {ps : List Pat} (hp : tgPatL ts = some ps) (h : tS L B W o (.asg (.t ts) me) D σ H) : tAsg (tE L B W o me) (tgP X.K (.t ps)) D σ H := by
  obtain ⟨m, F, E, st, S, h⟩ := h
  rw [exS] at h
  refine tE.mono (fun x H1 ⟨m1, F1, st1, v, X1, M1, S1, r1, h1⟩ => ?_) (tE_sr Mono.refl S h)
  cases v with
  | dat d =>
    simp only [tgF, hp] at h1
    cases e : patF (.t ps) d E with
    | none => rw [e] at h1; exact h1.elim
    | some E' =>
      rw [e] at h1
      unfold patF at e
      cases e2 : patA (.t ps) d with
      | none => rw [e2] at e; cases e
      | some l =>
        rw [e2] at e
        exact ⟨L, m1, F1, d, l, eK, r1, e2, fun vl pa => h1 m1 F1 _ H1 M1 (S1.pat pa e rfl fun i _ => rfl)⟩
  | _ => simp only [tgF, hp] at h1; exact h1.elim
/-- xs.append(e) -/
theorem tS_app {i : Nat} (h : tS L B W o (.app (.var i) a) D σ H) : tDrop (tBM X.K "list" rAppend (tVar i) (tCons (tE L B W o a) tNil)) D σ H := by
  obtain ⟨m, F, E, st, S, h⟩ := h
  rw [exS] at h
  obtain ⟨h, p, xs, ep, eH⟩ := PostS.plcL S h
  refine ⟨_, ep, .inl ⟨rfl, xs, .inl (.inl eH)⟩, ?_⟩
  refine tE.mono (fun x H2 ⟨m2, F2, st2, v, X2, M2, S2, r2, h2⟩ => ?_) (tE_sr Mono.refl S h)
  cases hk : v.kp with
  | none => rw [hk] at h2; exact h2.elim
  | some d =>
    rw [hk] at h2
    obtain ⟨F', X', S', r', mF, _⟩ := VRep.kept X2 S.beg S2 r2 hk
    obtain ⟨q, d0, d1, eq, ef, ro, nf, hq⟩ := PostS.chg (M2.trans ⟨fun _ _ z => z, mF, fun _ _ => Stay.refl⟩) S' h2
    rw [ep] at eq
    cases eq
    cases d0 <;> simp only at ef <;> try contradiction
    rename_i ds
    split at ef
    · rename_i hz
      cases ef
      simp only [ORep] at ro
      obtain ⟨vs, e2, rl, z⟩ := ro
      refine ⟨p, vs, x, rfl, rfl, e2, by rw [← rl.len]; exact szLt (Nat.le_of_lt hz), hq _ ?_⟩
      simp only [ORep]
      have M3 : Mono m2 F' H2 m2 F' (upd H2 p (.lst (vs ++ [x]))) := Mono.updFree nf
      refine ⟨_, upd_same, RepL.mono M3 _ _ (rl.append (by simp only [RepL]; exact ⟨r', trivial⟩)), ?_⟩
      rw [List.length_append]
      exact hz
    · cases ef
theorem ps_appM (f : Fx C L o B X W) {i : Nat} {x : Str} {e1 : Expr} {ap cp p : Pos} {q : Pos} (hv : visB C i x = true) (h1 : okE e1 = true) (hl : (ap.endLine == cp.line) = true) (ha : PE X e1 (tE L B W o a)) :
    PS X (.Expr (.Call (.Attribute (.Name x q) ("append" : Str) ap) [e1] [] cp) p) (tS L B W o (.app (.var i) a)) := by
  obtain ⟨g1, g2, g3, g4⟩ := f.vis hv
  refine (ps_expr (pe_bm PySem.F.plainAttrs_list PySem.F.slot_list_append PySem.F.type_list_append mt_append (pe_var g1 g2 g3 g4) (pa_cons ha pa_nil (okE_star h1 _ _)) rfl ?_ hl (okE_star h1 _ _) rfl) rfl).imp fun D σ H h => tS_app h
  rw [okE_star h1]
  rfl
theorem tS_par3 {ts : List Tg} {i j l : Nat} (hs : slots ts = some [i, j, l]) (h : tS L B W o (.par ts es) D σ H) : tPar3 i j l (tL L B W o es) D σ H := by
  obtain ⟨m, F, E, st, S, h⟩ := h
  rw [exS] at h
  refine tL.mono (fun xs H1 ⟨m1, F1, st1, vs, X1, M1, S1, r1, e1, h1⟩ => ?_) (tL_sr Mono.refl S h)
  obtain ⟨E', S2, h2, hl⟩ := tgL_v hs S1 (r1.al.vn S.ex.tr) r1.nd (fun a ha j q => by
    obtain ⟨a', e, n⟩ := news_fresh r1.al _ ha
    cases e
    exact S.ownThere q n) h1
  match xs, hl with
  | [x, y, z], _ => exact ⟨x, y, z, rfl, h2 m1 F1 _ H1 M1 S2⟩
def ipM (op : Op) : TIp := fun x y H Q => ∃ a b z, x = .int a ∧ y = .int b ∧ augF op (.int a) (.int b) = some (.int z) ∧ Q (.int z) H
theorem ip_M (op : Op) : PIp X (opK op) (ipM op) := by
  intro pins s σ H x y v u Q I r1 r2 h
  obtain ⟨a, b, z, rfl, rfl, hz, q⟩ := h
  cases op <;> simp only [augF, Option.some.injEq, Mp.D.int.injEq] at hz <;> try contradiction
  · subst hz; exact ip_add pins s σ H _ _ v u Q I r1 r2 ⟨a, b, rfl, rfl, q⟩
  · subst hz; exact ip_sub pins s σ H _ _ v u Q I r1 r2 ⟨a, b, rfl, rfl, q⟩
theorem augF_int {op : Op} {x y z : Mp.D} (h : augF op x y = some z) : ∃ a b c, x = .int a ∧ y = .int b ∧ z = .int c := by
  unfold augF at h
  split at h
  · cases h; exact ⟨_, _, _, rfl, rfl, rfl⟩
  · cases h; exact ⟨_, _, _, rfl, rfl, rfl⟩
  · cases h
theorem tS_augV {i : Nat} {op : Op} (h : tS L B W o (.aug (.v i) op me) D σ H) : tAug i (tE L B W o me) (ipM op) D σ H := by
  obtain ⟨m, F, E, st, S, h⟩ := h
  rw [exS] at h
  split at h
  · rename_i x e
    obtain ⟨xv, e1, rx⟩ := S.sl i _ e
    refine ⟨xv, e1, ?_⟩
    refine tE.mono (fun y H1 ⟨m1, F1, st1, v, X1, M1, S1, r1, h1⟩ => ?_) (tE_sr Mono.refl S h)
    cases ez : augF op x v.d with
    | none => rw [ez] at h1; exact h1.elim
    | some z =>
      rw [ez] at h1
      obtain ⟨a, b, c, rfl, eb, rfl⟩ := augF_int ez
      have ex : xv = .int a := by
        have : Rep L m F H (.int a) xv := rx
        simpa [Rep] using this
      refine ⟨a, b, c, ex, r1.int S1 eb, by rw [eb] at ez; exact ez, ?_⟩
      have hi : i < E.length := (List.getElem?_eq_some_iff.mp e).1
      refine h1 m1 F1 _ H1 M1 ?_
      exact S1.set' (v := .dat (.int c)) (x := .int c) (by simp only [SlR, Rep]) hi (.inl ⟨_, rfl⟩) (fun d a e => nomatch e)
  · exact h.elim
end
end Mp

end
section
set_option Elab.async false
set_option linter.all false
set_option maxRecDepth 100000
set_option maxHeartbeats 4000000
/-! S22a: several except clauses, each with or without a name. -/
namespace L2N
open PySem PySem.Spec PyProof.Rows L2
/-- the ends of a suite, its name let go -/
def dEnd (sl : Option Nat) (D : Ends) : Ends := match sl with
  | none => D
  | some i => ⟨fun σ => D.nx (σ.set i none), D.rt, fun σ => D.bk (σ.set i none), fun σ => D.ct (σ.set i none)⟩
def wManyA (K : PySem.W.Frag) (Wout : WX) (D : Ends) : List (Value × Option Nat × (Addr → Value → Option Addr → TS)) → WX
  | [] => Wout
  | (c, sl, ts) :: r => fun cls d σ H => ∃ b, PySem.W.exmOne K cls c = some b ∧ (b = true → ∀ a, H a = none → match sl with
      | none => ts a cls d D σ H
      | some i => ts a cls d (dEnd (some i) D) (σ.set i (some (.ref a))) H) ∧ (b = false → wManyA K Wout D r cls d σ H)
inductive HdsA (X : Cx) : List ExceptHandler → List (Value × Option Nat × (Addr → Value → Option Addr → TS)) → Prop
  | nil : HdsA X [] []
  | cons {x : Str} {c : Value} {ts : Addr → Value → Option Addr → TS} {b₀ : Stmt} {suite : List Stmt} {np pos' : Pos} {hds : List ExceptHandler} {l : List (Value × Option Nat × (Addr → Value → Option Addr → TS))} (hc : Names X x c)
      (hsu : ∀ (a : Addr) (oe : Obj) (cls : Value) (d : Option Addr) (pn : List (Addr × Obj)), Zn cls d oe → (∃ vs, oe.data = .fields vs) → PSs (X.suite a ((a, oe) :: pn)) (b₀ :: suite) (ts a cls d)) (r : HdsA X hds l) :
      HdsA X (.ExceptHandler (some (.Name x np)) none (b₀ :: suite) pos' :: hds) ((c, none, ts) :: l)
  | as {x n : Str} {i : Nat} {c : Value} {ts : Addr → Value → Option Addr → TS} {b₀ : Stmt} {suite : List Stmt} {np pos' : Pos} {hds : List ExceptHandler} {l : List (Value × Option Nat × (Addr → Value → Option Addr → TS))} (hc : Names X x c)
      (hN : X.N.Nodup) (hi : X.N[i]? = some n) (hln : X.env.kindOf n = some .local)
      (hsu : ∀ (a : Addr) (oe : Obj) (cls : Value) (d : Option Addr) (pn : List (Addr × Obj)), Zn cls d oe → (∃ vs, oe.data = .fields vs) → PSs (X.suite a ((a, oe) :: pn)) (b₀ :: suite) (ts a cls d)) (r : HdsA X hds l) :
      HdsA X (.ExceptHandler (some (.Name x np)) (some n) (b₀ :: suite) pos' :: hds) ((c, some i, ts) :: l)
section
variable {X : Cx} {body : List Stmt} {h₀ : ExceptHandler} {hds : List ExceptHandler} {l : List (Value × Option Nat × (Addr → Value → Option Addr → TS))} {pos : Pos} {tb : WX → TS} {Wout : WX}
theorem ps_try_manyA (hs : X.stack = X.env :: X.outer) (hf : X.env.frame = some X.env.locals) (tk : Takes X Wout)
    (hb : ∀ (W : WX) (pn : List (Addr × Obj)) (xe : Value → Shared → Prop), Takes (X.tr pn xe) W → PassesOwn (model X.prog X.w) X.A X.env xe → PSs (X.tr pn xe) body (tb W))
    (hh : HdsA X (h₀ :: hds) l) : PS X (.Try body (h₀ :: hds) [] [] pos) (fun D σ H => tb (wManyA X.K Wout D l) D σ H) := by
  refine ⟨fun pins s σ H D I h => ?_⟩
  have ok := I.ok
  have hfr : X.A.frames = some (X.env :: X.outer) := by rw [ok.frames, hs]
  refine wpAny_Try_except ?_
  refine wpAny_mono ((hb (wManyA X.K Wout D l) (X.pn ++ pins) (fun e s₁ => wpAny (model X.prog X.w) X.A (noteFrame e X.env) (fun _ s₂ => wpAny (model X.prog X.w) X.A (setFlight e none) (fun _ s₃ =>
    wpAny (model X.prog X.w) X.A (handleBy e X.env (h₀ :: hds)) (SP X pins D) X.xe s₃) X.xe s₂) X.xe s₁) (fun u s' xx => ?_) PassesOwn.looking).run [] s σ H D (I.toTry _) h) (fun f s1 hsp => ?_) (fun e s1 he => he)
  · -- the catch
    obtain ⟨a, B, sI, pins', σ', H', cls, d, rfl, J', nb, up, sky, na, os, ag, w⟩ := xx
    have J : Inv X pins σ' H' sI := J'.ofTry ok
    have sky' : Sky B (X.env :: X.outer) a (Zn cls d) X.env.locals s'.heap := by rw [← hs]; exact sky
    show wpAny (model X.prog X.w) X.A (noteFrame (.ref a) X.env) _ _ _
    refine Sky.land Zn.steady hfr hf sky' fun h3 fl3 up3 => ?_
    have J3 : Inv X pins σ' H' { s' with heap := h3 } := J.landed nb fl3.1 (up.trans up3) os ag
    obtain ⟨oe3, vs3, he3, hz3, hd3⟩ := fl3.there
    have notFr : ∀ {h : Heap} {o : Obj} {vs : Array Value}, h.FunFrames B (X.env :: X.outer) → h.get? a = some o → o.data = .fields vs → a ∉ frs (X.env :: X.outer) := fun {h o vs} ff e dd hm => by
      obtain ⟨_, o', e', hnf⟩ := ff.mem hm
      rw [e] at e'; cases e'
      exact hnf _ dd
    have nfr := notFr fl3.2.2.1 he3 hd3
    have nL : a ≠ X.env.locals := fun z => nfr (List.mem_filterMap.mpr ⟨X.env, List.mem_cons_self, by rw [hf, z]⟩)
    have nF : a ∉ X.fs := fun hm => by
      obtain ⟨e, he, q⟩ := List.mem_filterMap.mp hm
      exact nfr (List.mem_filterMap.mpr ⟨e, List.mem_cons_of_mem _ he, q⟩)
    have S3 := J3.suite he3 hd3 na nL nF
    have LT : PySem.W.Looks (model X.prog X.w) h3 (typeOf (.ref a)) cls := fun A Q E s k q => wpAny_typeOf_ref (k _ _ he3) (by rw [hz3.1]; exact q)
    have test : ∀ {x : Str} {c : Value} {np : Pos}, Names X x c → ∀ {Q : Value → Shared → Prop} {E : Value → Shared → Prop}, Q c { s' with heap := h3 } → wpAny (model X.prog X.w) (X.A.mark (some (.ref a))) (eval (.Name x np) X.env) Q E { s' with heap := h3 } := fun {x c np} hc {Q E} q => by
      obtain ⟨hg, hdbg, hm | ⟨hm, hv, hnn⟩⟩ := hc
      · exact ld_glob (X := X.suite a ((a, oe3) :: (X.pn ++ pins))) S3 hg hm q hdbg
      · exact ld_blt (X := X.suite a ((a, oe3) :: (X.pn ++ pins))) S3 hg hm hv q hnn hdbg
    have go : ∀ {hds' : List ExceptHandler} {l' : List (Value × Option Nat × (Addr → Value → Option Addr → TS))}, HdsA X hds' l' → wManyA X.K Wout D l' cls d σ' H' →
        wpAny (model X.prog X.w) X.A (handleBy (.ref a) X.env hds') (SP X pins D) X.xe { s' with heap := h3 } := by
      intro hds' l' hk
      induction hk with
      | nil =>
        intro w
        refine wpAny_handleBy_nil ?_
        obtain ⟨k1, k2, k3, oe, vs, T, oT, ts', he, hz, hd, h1, hr⟩ := id fl3
        unfold PySem.passOn
        refine wpAny_bind (wpAny_field he hd h1 ?_)
        rw [if_neg (show ¬ ((Value.ref T == Value.none) = true) from by simp)]
        have fin : wpAny (model X.prog X.w) X.A (setFlight (.ref a) X.env.frame) (fun _ s4 => wpAny (model X.prog X.w) X.A (throw (.ref a) : Sem Flow) (SP X pins D) X.xe s4) X.xe { s' with heap := h3 } := by
          rw [hf]
          refine HandSPX.setFlight_upZ fl3 fun h4 hh4 up4 => wpAny_throw (tk _ _ ?_)
          exact ⟨a, B, sI, pins, σ', H', cls, d, rfl, J, nb, (up.trans up3).trans up4, .inr (.inr (by rw [hs]; exact hh4)), na, os, ag, w⟩
        first
          | exact wpAny_bind (wpAny_pure (wpAny_bind fin))
          | exact wpAny_bind fin
      | @cons x c ts b₀ suite np pos' hds2 l2 hc hsu r ih =>
        intro w
        obtain ⟨b, hb1, hyes, hno⟩ := w
        have LM := PySem.W.exm_one (M := model X.prog X.w) (J3.kIn) LT hb1
        refine wpAny_handleBy_cons (codeAny_handlers_test ?_) (by intro q; cases q)
        refine test hc (LM.here ?_)
        cases b with
        | true =>
          refine codeAny_handlers_suite ?_
          refine HandSPX.lands_againZ fl3 fun h4 fl4 up4 => ?_
          have J4 : Inv X pins σ' H' { s' with heap := h4 } := J.landed nb fl4.1 ((up.trans up3).trans up4) os ag
          obtain ⟨oe4, vs4, he4, hz4, hd4⟩ := fl4.there
          have S4 := J4.suite he4 hd4 na nL nF
          refine wpAny_mono ((hsu a oe4 cls d (X.pn ++ pins) hz4 ⟨_, hd4⟩).run [] _ _ H' _ S4 (hyes rfl a na)) (fun f s6 hsp => ?_) (fun _ _ z => False.elim z)
          cases f with
          | next =>
            obtain ⟨σ6, H6, S6, q6⟩ := hsp
            exact ⟨_, _, S6.unsuite ok, q6⟩
          | brk =>
            obtain ⟨σ6, H6, S6, q6⟩ := hsp
            exact ⟨_, _, S6.unsuite ok, q6⟩
          | cont =>
            obtain ⟨σ6, H6, S6, q6⟩ := hsp
            exact ⟨_, _, S6.unsuite ok, q6⟩
          | ret u =>
            obtain ⟨v6, σ6, H6, S6, r6, q6⟩ := hsp
            exact ⟨_, _, _, S6.unsuite ok, r6, q6⟩
        | false =>
          show wpAny _ X.A (handleBy (.ref a) X.env hds2) _ _ _
          exact ih (hno rfl)
      | @as x n i c ts b₀ suite np pos' hds2 l2 hc hN hi hln hsu r ih =>
        intro w
        have hloc : Loc X.env.scope n := .inl hln
        obtain ⟨b, hb1, hyes, hno⟩ := w
        have LM := PySem.W.exm_one (M := model X.prog X.w) (J3.kIn) LT hb1
        refine wpAny_handleBy_cons (codeAny_handlers_test ?_) (by intro q; cases q)
        refine test hc (LM.here ?_)
        cases b with
        | true =>
          refine codeAny_handlers_suite_as ?_
          refine HandSPX.lands_againZ fl3 fun h4 fl4 up4 => ?_
          have J4 : Inv X pins σ' H' { s' with heap := h4 } := J.landed nb fl4.1 ((up.trans up3).trans up4) os ag
          obtain ⟨oe4, vs4, he4, hz4, hd4⟩ := fl4.there
          have S4 := J4.suite he4 hd4 na nL nF
          refine store_ok (X := X.suite a ((a, oe4) :: (X.pn ++ pins))) (v := .ref a) S4 hN hi hloc rfl (fun s5 S5 => ?_) (.inr hln)
          refine wpAny_mono ((hsu a oe4 cls d (X.pn ++ pins) hz4 ⟨_, hd4⟩).run [] s5 _ H' _ S5 (hyes rfl a na)) (fun f s6 hsp => ?_) (fun _ _ z => False.elim z)
          have end_ : ∀ {σ6 : St} {H6 : Hp} {Q : Shared → Prop}, Inv (X.suite a ((a, oe4) :: (X.pn ++ pins))) [] σ6 H6 s6 → (∀ s7, Inv X pins (σ6.set i none) H6 s7 → Q s7) →
              wpAny (model X.prog X.w) X.A (do bindName X.env n .none; unbindBehindTheSuite X.env n pos') (fun _ s7 => Q s7) X.xe s6 := fun {σ6 H6 Q} S6 hq => gone_ok (S6.unsuite ok) hN hi hln hq
          cases f with
          | next =>
            obtain ⟨σ6, H6, S6, q6⟩ := hsp
            exact end_ S6 fun s7 J7 => ⟨_, _, J7, q6⟩
          | brk =>
            obtain ⟨σ6, H6, S6, q6⟩ := hsp
            exact end_ S6 fun s7 J7 => ⟨_, _, J7, q6⟩
          | cont =>
            obtain ⟨σ6, H6, S6, q6⟩ := hsp
            exact end_ S6 fun s7 J7 => ⟨_, _, J7, q6⟩
          | ret u =>
            obtain ⟨v6, σ6, H6, S6, r6, q6⟩ := hsp
            exact end_ S6 fun s7 J7 => ⟨_, _, _, J7, r6, q6⟩
        | false =>
          show wpAny _ X.A (handleBy (.ref a) X.env hds2) _ _ _
          exact ih (hno rfl)
    exact go hh w
  · cases f with
    | next =>
      obtain ⟨σ', H', J', q⟩ := hsp
      exact wpAny_execs_nil ⟨σ', H', J'.ofTry ok, q⟩
    | brk =>
      obtain ⟨σ', H', J', q⟩ := hsp
      exact ⟨σ', H', J'.ofTry ok, q⟩
    | cont =>
      obtain ⟨σ', H', J', q⟩ := hsp
      exact ⟨σ', H', J'.ofTry ok, q⟩
    | ret u =>
      obtain ⟨v, σ', H', J', r, q⟩ := hsp
      exact ⟨v, σ', H', J'.ofTry ok, r, q⟩
end
end L2N

end
section
set_option Elab.async false
set_option linter.all false
set_option maxRecDepth 100000
set_option maxHeartbeats 4000000
/-! S22: raise, try; the checker of statements. -/
namespace Mp
open PySem PySem.Spec PyProof.Rows L2
/-- making an own exception -/
def XMk (X : Cx) (L : Lk) (o : Orc) (c : Nat) (x : Str) : Prop := ∀ (l : List Expr) (p p2 : Pos) (t : TA), PA X l t → (l = [] → ∀ σ H Q, t σ H Q → Q [] H) → l.all okE = true → l.length = (o.flds c).length → Gl X x → (x == ("__debug__" : Str)) = false →
  L2N.PMk X (.Call (.Name x p) l [] p2) (fun σ H Q => t σ H fun vs H1 => (o.flds c = [] → Q (.ref (L.cad c)) none H1) ∧ (o.flds c ≠ [] → vs.length = (o.flds c).length ∧ ∀ d, H1 d = none → Q (.ref (L.cad c)) (some d) (upd H1 d (.xd (((o.flds c).map L.nm).zip vs)))))
def XcM (P : Program) (w : World) (K : PySem.W.Frag) (mg : Str → Option Value) (base : Heap) (A : Around) (L : Lk) (o : Orc) (c : Nat) (x : Str) : Prop := ∀ X : Cx, X.prog = P → X.w = w → X.K = K → X.mg = mg → X.base = base → X.A = A → XMk X L o c x
structure Sx (C : CC) (L : Lk) (o : Orc) (B : Bs) (X : Cx) (W : WX) : Prop where
  fx : Fx C L o B X W
  kd : C.sc.kind = .function
  po : PassesOwn (model X.prog X.w) X.A X.env X.xe
  hs : X.stack = X.env :: X.outer
  hf : X.env.frame = some X.env.locals
  mkx : C.cold = true → ∀ c x, C.nm.cls[c]? = some x → (o.sup c).contains c = true → C.nm.ar[c]? = some (o.flds c).length → XcM X.prog X.w X.K X.mg X.base X.A L o c x
  ar : ∀ c n, n < 1000 → C.nm.ar[c]? = some n → (o.flds c).length = n
  em : ∀ c' c x, C.nm.cls[c]? = some x → (o.sup c').contains c' = true → PySem.W.exmOne X.K (.ref (L.cad c')) (.ref (L.cad c)) = some ((o.sup c').contains c)
section
variable {C : CC} {L : Lk} {B : Bs} {W : WX} {o : Orc} {X : Cx} {m m0 m1 m2 m' : List Addr} {F F0 F1 F2 F' : Addr → Prop} {H H0 H1 H2 H' : Hp} {E : Env} {st st' st0 st1 : Sto} {σ : L2.St} {Q : V → Hp → Prop} {me a b c : ME} {es : List ME} {k : Bool} {D : Ends} {s : MS} {ss : List MS}
theorem ps_raisM (f : Sx C L o B X W) (hc : C.cold = true) {c : Nat} {x : Str} {l : List Expr} {p p2 p3 : Pos} (hx : C.nm.cls[c]? = some x) (hg : glB C x = true) (hl : l.all okE = true) (har : C.nm.ar[c]? = some l.length) (hk : l.length < 1000) (hlen2 : es.length = l.length) (ha : PA X l (tL L B W o es)) :
    PS X (.Raise (some (.Call (.Name x p) l [] p2)) none p3) (tS L B W o (.rais c es)) := by
  obtain ⟨g1, g2, g3⟩ := f.fx.gl hg
  have hlen : l.length = (o.flds c).length := (f.ar c _ hk har).symm
  by_cases hv : (o.sup c).contains c = true
  · have mk := f.mkx hc c x hx hv (by rw [← hlen]; exact har) X rfl rfl rfl rfl rfl rfl l p p2 _ ha (fun z σ H Q h => by
      rw [z] at hlen2
      obtain rfl := List.eq_nil_of_length_eq_zero hlen2
      exact tL_nil h) hl hlen g1 g2
    refine (L2N.ps_raise (f.fx.cold hc) f.fx.tk mk).imp fun D σ H ⟨m, F, E, st, S, h⟩ => ?_
    rw [exS, hv] at h
    have h : PostS L B W m F H ((evL o es E st).sr E fun vs st1 => match (kpL vs).bind (excF o c) with | some fs => .ex ⟨c, fs⟩ E st1 | none => .bad) D := h
    refine tL.mono (fun xs H1 ⟨m1, F1, st1, vs, X1, M1, S1, r1, e1, h1⟩ => ?_) (tL_sr Mono.refl S h)
    cases ek : kpL vs with
    | none => rw [ek] at h1; exact h1.elim
    | some ds =>
      rw [ek] at h1
      simp only [Option.bind_some] at h1
      obtain ⟨F', X', S', r', mF, _⟩ := VsRep.kept X1 S.beg S1 r1.al r1.nd ek
      have M1' : Mono m F H m1 F' H1 := M1.trans ⟨fun _ _ z => z, mF, fun _ _ => Stay.refl⟩
      cases ex : excF o c ds with
      | none => rw [ex] at h1; exact h1.elim
      | some fs =>
        rw [ex] at h1
        unfold excF at ex
        split at ex
        · cases ex
          rename_i hln
          refine ⟨fun hf => ?_, fun hf => ⟨r'.len.symm.trans (by exact (eq_of_beq hln).symm), fun d hd => ?_⟩⟩
          · refine h1 m1 F' σ H1 _ none M1' S' ⟨rfl, ?_⟩
            rw [hf]; rfl
          · have Xf : Ext m1 F' H1 m1 F' (upd H1 d (.xd (((o.flds c).map L.nm).zip xs))) := Ext.fresh hd
            have Sf := S'.fresh (u := .xd (((o.flds c).map L.nm).zip xs)) hd
            have Sk := Sf.keep (p := d) (by rw [upd_same]; exact fun z => nomatch z) (S'.notcell hd) (fun j q => S'.noown hd j q) (S'.ex.tr d hd)
            have Mk : Mono m1 F' H1 m1 (Fp F' d) (upd H1 d (.xd (((o.flds c).map L.nm).zip xs))) := Xf.mono.trans Mono.fp
            exact h1 m1 (Fp F' d) σ _ _ (some d) (M1'.trans Mk) Sk ⟨rfl, .inr rfl, _, upd_same, RepF.mono Mk _ _ (RepF.zip r')⟩
        · cases ex
  · -- no class of that number
    refine ⟨fun pins s σ H D I ⟨m, F, E, st, S, h⟩ => ?_⟩
    rw [exS] at h
    have : (o.sup c).contains c = false := by simpa using hv
    rw [this] at h
    exact h.elim
/-- the context of an except suite -/
def CC.hot (C : CC) : CC := { C with cold := false }
theorem Sx.suite (f : Sx C L o B X W) {i : Nat} {a : Addr} {oe : Obj} {cls : Value} {d : Option Addr} {pn : List (Addr × Obj)} (hz : L2N.Zn cls d oe) (hv : ∃ vs, oe.data = .fields vs) : Sx C.hot L o { B with x := some ⟨i, a, cls, d⟩ } (X.suite a ((a, oe) :: pn)) wNo := by
  have F := f.fx
  refine ⟨⟨F.K, F.hu, F.gd, F.N, F.nd, F.sc, (fun z => nomatch z), F.fl, ?_, F.blt, (fun z => nomatch z), F.fng, F.oc, F.mt, (fun z => nomatch z), (fun z => nomatch z), fun q e => ?_, F.cl, F.xk, F.xf, F.fi, F.nm, F.eq, F.con, (fun _ z => nomatch z)⟩, f.kd, PassesOwn.never, f.hs, f.hf, (fun z => nomatch z), f.ar, f.em⟩
  · rintro u s' ⟨_, _, _, _, _, _, _, _, _, _, _, _, _, _, _, _, w⟩
    exact w
  · cases e
    exact ⟨X, oe, pn, rfl, hz.zc, hv⟩
theorem Sx.tr (f : Sx C L o B X W) {W' : WX} {pn : List (Addr × Obj)} {xe : Value → Shared → Prop} (tk : L2N.Takes (X.tr pn xe) W') (po : PassesOwn (model X.prog X.w) X.A X.env xe) (hx : B.x = none) : Sx C L o B (X.tr pn xe) W' := by
  have F := f.fx
  refine ⟨⟨F.K, F.hu, F.gd, F.N, F.nd, F.sc, F.cold, F.fl, tk, F.blt, fun c i e => ?_, F.fng, F.oc, F.mt, fun c i e => ?_, F.cx, fun q e => ?_, F.cl, F.xk, F.xf, F.fi, F.nm, F.eq, F.con, F.xfm⟩, f.kd, po, f.hs, f.hf, f.mkx, f.ar, f.em⟩
  · obtain ⟨h2, h3⟩ := F.fn c i e
    exact ⟨h2, h3⟩
  · obtain ⟨g, h1, h2⟩ := F.mkc c i e
    exact ⟨g, h1, h2⟩
  · rw [hx] at e; cases e
theorem Sim.noxv (S : Sim L B m F E st σ H) (hx : B.x = none) {i c : Nat} {fs : List (Nat × Mp.D)} (e : E[i]? = some (some (.xv c fs))) : False := by
  obtain ⟨x, _, q, h, _⟩ := S.sl i _ e
  rw [hx] at h; cases h
/-- into an except suite: the exception in slot i -/
theorem Sim.enter (S : Sim L B m F E st σ H) (hx : B.x = none) {i c : Nat} {fs : List (Nat × Mp.D)} {cls : Value} {d : Option Addr} {p : Addr} (hi : i < E.length) (r : XRep L m F H c fs cls d) :
    Sim L { B with x := some ⟨i, p, cls, d⟩ } m F (E.set i (some (.xv c fs))) st (σ.set i (some (.ref p))) H := by
  have hi2 : i < σ.length := by rw [← S.ln]; exact hi
  refine ⟨S.wd, S.ex, fun j v e => ?_, by simp [S.ln], fun j k a hj hk => ?_⟩
  · by_cases hj : j = i
    · subst hj
      rw [List.getElem?_set_self hi] at e
      cases e
      exact ⟨_, List.getElem?_set_self hi2, _, rfl, rfl, rfl, r⟩
    · rw [List.getElem?_set_ne (Ne.symm hj)] at e
      obtain ⟨x, e1, r1⟩ := S.sl j v e
      refine ⟨x, by rw [List.getElem?_set_ne (Ne.symm hj)]; exact e1, ?_⟩
      cases v with
      | dat d => exact r1
      | new d => exact r1
      | bor d => exact r1
      | xv c fs => exact (S.noxv hx e).elim
  · have back : ∀ k, OwnAt (E.set i (some (.xv c fs))) (σ.set i (some (.ref p))) k a → OwnAt E σ k a := fun k ⟨⟨d', q1⟩, q2⟩ => by
      by_cases hk : k = i
      · subst hk; rw [List.getElem?_set_self hi] at q1; cases q1
      · rw [List.getElem?_set_ne (Ne.symm hk)] at q1 q2; exact ⟨⟨d', q1⟩, q2⟩
    exact S.ij j k a (back j hj) (back k hk)
/-- out of it: the slot let go -/
theorem Sim.left {q : Xi} (S : Sim L { B with x := some q } m F E st σ H) : Sim L B m F (E.set q.i none) st (σ.set q.i none) H := by
  refine ⟨S.wd, S.ex, fun j v e => ?_, by simp [S.ln], fun j k a hj hk => ?_⟩
  · by_cases hj : j = q.i
    · subst hj
      by_cases hl : q.i < E.length
      · rw [List.getElem?_set_self hl] at e; cases e
      · rw [List.getElem?_eq_none (by simp; omega)] at e; cases e
    · rw [List.getElem?_set_ne (Ne.symm hj)] at e
      obtain ⟨x, e1, r1⟩ := S.sl j v e
      refine ⟨x, by rw [List.getElem?_set_ne (Ne.symm hj)]; exact e1, ?_⟩
      cases v with
      | dat d => exact r1
      | new d => exact r1
      | bor d => exact r1
      | xv c fs =>
        obtain ⟨q', h1, h2, _⟩ := r1
        cases h1
        exact absurd h2.symm hj
  · have back : ∀ k, OwnAt (E.set q.i none) (σ.set q.i none) k a → OwnAt E σ k a := fun k ⟨⟨d', q1⟩, q2⟩ => by
      by_cases hk : k = q.i
      · subst hk
        by_cases hl : q.i < E.length
        · rw [List.getElem?_set_self hl] at q1; cases q1
        · rw [List.getElem?_eq_none (by simp; omega)] at q1; cases q1
      · rw [List.getElem?_set_ne (Ne.symm hk)] at q1 q2; exact ⟨⟨d', q1⟩, q2⟩
    exact S.ij j k a (back j hj) (back k hk)
/-- try: body, except x as n: suite -/
theorem ps_tr1M (f : Sx C L o B X W) (hc : C.cold = true) {c i : Nat} {x n : Str} {sb sh : List MS} {body suite : List Stmt} {b₀ : Stmt} {np pos' pos : Pos} (hx : C.nm.cls[c]? = some x) (hg : glB C x = true) (hn : C.N[i]? = some n) (hl : C.sc.names.lookup n = some .local)
    (hb : ∀ X' W', Sx C L o B X' W' → PSs X' body (tB L B W' o sb)) (hh : ∀ B' X' W', Sx C.hot L o B' X' W' → PSs X' (b₀ :: suite) (tB L B' W' o sh)) :
    PS X (.Try body [.ExceptHandler (some (.Name x np)) (some n) (b₀ :: suite) pos'] [] [] pos) (tS L B W o (.tr sb [(c, some i, sh)])) := by
  obtain ⟨g1, g2, g3⟩ := f.fx.gl hg
  have bx := f.fx.cx hc
  have z := L2N.ps_try_as (X := X) (c := .ref (L.cad c)) (np := np) (pos := pos) (pos' := pos') (body := body) (tb := fun W' => tB L B W' o sb) (ts := fun a cls d => tB L { B with x := some ⟨i, a, cls, d⟩ } wNo o sh) f.hs f.hf (by rw [f.fx.N]; exact f.fx.nd) (by rw [f.fx.N]; exact hn) (by show X.env.scope.names.lookup n = _; rw [f.fx.sc]; exact hl)
    (show Names X x (.ref (L.cad c)) from ⟨g1, g2, .inl (f.fx.cl c x hx)⟩) f.fx.tk (fun W' pn xe tk po => hb _ _ (f.tr tk po bx)) (fun a oe cls d pn hz hv => hh _ _ _ (f.suite hz hv))
  refine z.imp fun D σ H ⟨m, F, E, st, S, h⟩ => ?_
  rw [exS] at h
  refine ⟨m, F, E, st, S, ?_⟩
  cases e : exB o sb E st with
  | nx E1 st1 => rw [e] at h; exact h
  | bk E1 st1 => rw [e] at h; exact h
  | ct E1 st1 => rw [e] at h; exact h
  | rt v st1 => rw [e] at h; exact h
  | bad => rw [e] at h; exact h
  | ex xc E1 st1 =>
    rw [e] at h
    have h : PostS L B W m F H (if (o.sup xc.c).contains xc.c then exH o xc [(c, some i, sh)] E1 st1 else .bad) D := h
    intro m1 F1 σ1 H1 cls d M1 S1 r1
    by_cases hv : (o.sup xc.c).contains xc.c = true
    · rw [if_pos hv, exH] at h
      have ec : cls = .ref (L.cad xc.c) := r1.1
      refine ⟨(o.sup xc.c).contains c, by rw [ec]; exact f.em xc.c c x hx hv, fun hb p hp => ?_, fun hb => ?_⟩
      · rw [if_pos hb] at h
        split at h
        · rename_i hi
          refine ⟨m1, F1, _, st1, S1.enter bx hi r1, ?_⟩
          cases e2 : exB o sh (E1.set i (some (.xv xc.c xc.fs))) st1 with
          | nx E2 st2 => rw [e2] at h; exact fun m2 F2 σ2 H2 M2 S2 => h m2 F2 _ H2 (M1.trans M2) S2.left
          | bk E2 st2 => rw [e2] at h; exact fun m2 F2 σ2 H2 M2 S2 => h m2 F2 _ H2 (M1.trans M2) S2.left
          | ct E2 st2 => rw [e2] at h; exact fun m2 F2 σ2 H2 M2 S2 => h m2 F2 _ H2 (M1.trans M2) S2.left
          | rt v st2 => rw [e2] at h; exact h
          | ex x2 E2 st2 => rw [e2] at h; exact h.elim
          | bad => rw [e2] at h; exact h
        · exact h.elim
      · rw [hb, if_neg Bool.false_ne_true, exH] at h
        exact h m1 F1 σ1 H1 cls d M1 S1 r1
    · rw [if_neg hv] at h
      exact h.elim
end
end Mp

end
section
set_option Elab.async false
set_option linter.all false
set_option maxRecDepth 100000
set_option maxHeartbeats 4000000
/-! S22c: try with several clauses. -/
namespace Mp
open PySem PySem.Spec PyProof.Rows L2
section
variable {C : CC} {L : Lk} {B : Bs} {W : WX} {o : Orc} {X : Cx} {m m0 m1 m2 m' : List Addr} {F F0 F1 F2 F' : Addr → Prop} {H H0 H1 H2 H' : Hp} {E : Env} {st st' st0 st1 : Sto} {σ : L2.St} {Q : V → Hp → Prop} {me a b c : ME} {es : List ME} {k : Bool} {D : Ends} {s : MS} {ss : List MS}
theorem Sx.suite0 (f : Sx C L o B X W) (hx : B.x = none) {a : Addr} {oe : Obj} {cls : Value} {d : Option Addr} {pn : List (Addr × Obj)} (hz : L2N.Zn cls d oe) (hv : ∃ vs, oe.data = .fields vs) : Sx C.hot L o B (X.suite a ((a, oe) :: pn)) wNo := by
  have F := f.fx
  refine ⟨⟨F.K, F.hu, F.gd, F.N, F.nd, F.sc, (fun z => nomatch z), F.fl, ?_, F.blt, (fun z => nomatch z), F.fng, F.oc, F.mt, (fun z => nomatch z), (fun z => nomatch z), fun q e => ?_, F.cl, F.xk, F.xf, F.fi, F.nm, F.eq, F.con, (fun _ z => nomatch z)⟩, f.kd, PassesOwn.never, f.hs, f.hf, (fun z => nomatch z), f.ar, f.em⟩
  · rintro u s' ⟨_, _, _, _, _, _, _, _, _, _, _, _, _, _, _, _, w⟩
    exact w
  · rw [hx] at e; cases e
/-- the clauses' texts, walked -/
def HdP (C : CC) (L : Lk) (o : Orc) : List (Nat × Option Nat × List MS) → List ExceptHandler → Prop
  | [], l => l = []
  | (c, sl, sh) :: r, l => ∃ x np nm b₀ suite pos' hds, l = .ExceptHandler (some (.Name x np)) nm (b₀ :: suite) pos' :: hds ∧ C.nm.cls[c]? = some x ∧ glB C x = true ∧
      (match sl with | some i => ∃ n, nm = some n ∧ C.N[i]? = some n ∧ C.sc.names.lookup n = some .local | none => nm = none) ∧
      (∀ B' X' W', Sx C.hot L o B' X' W' → PSs X' (b₀ :: suite) (tB L B' W' o sh)) ∧ HdP C L o r hds
def tsM (L : Lk) (B : Bs) (o : Orc) (sl : Option Nat) (sh : List MS) : Addr → Value → Option Addr → TS := fun a cls d => match sl with
  | some i => tB L { B with x := some ⟨i, a, cls, d⟩ } wNo o sh
  | none => tB L B wNo o sh
def clM (L : Lk) (B : Bs) (o : Orc) (hs : List (Nat × Option Nat × List MS)) : List (Value × Option Nat × (Addr → Value → Option Addr → TS)) := hs.map fun h => (.ref (L.cad h.1), h.2.1, tsM L B o h.2.1 h.2.2)
theorem hdsA_of (f : Sx C L o B X W) (hx : B.x = none) : ∀ {hs : List (Nat × Option Nat × List MS)} {hds : List ExceptHandler}, HdP C L o hs hds → L2N.HdsA X hds (clM L B o hs)
  | [], hds, h => by
    have h : hds = [] := h
    subst h
    exact .nil
  | (c, sl, sh) :: r, hds, h => by
    obtain ⟨x, np, nm, b₀, suite, pos', hds', rfl, hc, hg, hn, hp, hr⟩ := h
    obtain ⟨g1, g2, g3⟩ := f.fx.gl hg
    have nx : Names X x (.ref (L.cad c)) := ⟨g1, g2, .inl (f.fx.cl c x hc)⟩
    cases sl with
    | none =>
      have hn : nm = none := hn
      subst hn
      exact .cons nx (fun a oe cls d pn hz hv => hp _ _ _ (f.suite0 hx hz hv)) (hdsA_of f hx hr)
    | some i =>
      obtain ⟨n, e, h1, h2⟩ := hn
      subst e
      exact .as nx (by rw [f.fx.N]; exact f.fx.nd) (by rw [f.fx.N]; exact h1) (by show X.env.scope.names.lookup n = _; rw [f.fx.sc]; exact h2) (fun a oe cls d pn hz hv => hp _ _ _ (f.suite hz hv)) (hdsA_of f hx hr)
/-- an exception of the body: the clauses, one after the other -/
theorem exH_sound (f : Sx C L o B X W) (bx : B.x = none) {xc : Exc} (hv : (o.sup xc.c).contains xc.c = true) : ∀ {hs : List (Nat × Option Nat × List MS)} {hds : List ExceptHandler} {E1 : Env} {st1 : Sto} {σ1 : L2.St} {cls : Value} {d : Option Addr}, HdP C L o hs hds →
    Sim L B m1 F1 E1 st1 σ1 H1 → Mono m F H m1 F1 H1 → XRep L m1 F1 H1 xc.c xc.fs cls d → PostS L B W m F H (exH o xc hs E1 st1) D → L2N.wManyA X.K W D (clM L B o hs) cls d σ1 H1
  | [], hds, E1, st1, σ1, cls, d, hp, S1, M1, r1, h => by
    rw [exH] at h
    exact h m1 F1 σ1 H1 cls d M1 S1 r1
  | (c, sl, sh) :: r, hds, E1, st1, σ1, cls, d, hp, S1, M1, r1, h => by
    obtain ⟨x, np, nm, b₀, suite, pos', hds', rfl, hx, hg, hn, hb, hr⟩ := hp
    have h : PostS L B W m F H (if (o.sup xc.c).contains c then
      match (generalizing := false) sl with
      | none => (exB o sh E1 st1).nox
      | some i => if i < E1.length then (exB o sh (E1.set i (some (.xv xc.c xc.fs))) st1).nox.del i else .bad
      else exH o xc r E1 st1) D := by unfold exH at h; exact h
    have ec : cls = .ref (L.cad xc.c) := r1.1
    refine ⟨(o.sup xc.c).contains c, by rw [ec]; exact f.em xc.c c x hx hv, fun hb p hp => ?_, fun hb => ?_⟩
    · rw [if_pos hb] at h
      cases sl with
      | none =>
        refine ⟨m1, F1, E1, st1, S1, ?_⟩
        have h : PostS L B W m F H (exB o sh E1 st1).nox D := h
        cases e2 : exB o sh E1 st1 with
        | nx E2 st2 => rw [e2] at h; exact fun m2 F2 σ2 H2 M2 S2 => h m2 F2 _ H2 (M1.trans M2) S2
        | bk E2 st2 => rw [e2] at h; exact fun m2 F2 σ2 H2 M2 S2 => h m2 F2 _ H2 (M1.trans M2) S2
        | ct E2 st2 => rw [e2] at h; exact fun m2 F2 σ2 H2 M2 S2 => h m2 F2 _ H2 (M1.trans M2) S2
        | rt v st2 => rw [e2] at h; exact h
        | ex x2 E2 st2 => rw [e2] at h; exact h.elim
        | bad => rw [e2] at h; exact h
      | some i =>
        simp only at h
        split at h
        · rename_i hi
          refine ⟨m1, F1, _, st1, S1.enter bx hi r1, ?_⟩
          cases e2 : exB o sh (E1.set i (some (.xv xc.c xc.fs))) st1 with
          | nx E2 st2 => rw [e2] at h; exact fun m2 F2 σ2 H2 M2 S2 => h m2 F2 _ H2 (M1.trans M2) S2.left
          | bk E2 st2 => rw [e2] at h; exact fun m2 F2 σ2 H2 M2 S2 => h m2 F2 _ H2 (M1.trans M2) S2.left
          | ct E2 st2 => rw [e2] at h; exact fun m2 F2 σ2 H2 M2 S2 => h m2 F2 _ H2 (M1.trans M2) S2.left
          | rt v st2 => rw [e2] at h; exact h
          | ex x2 E2 st2 => rw [e2] at h; exact h.elim
          | bad => rw [e2] at h; exact h
        · exact h.elim
    · rw [hb, if_neg Bool.false_ne_true] at h
      exact exH_sound f bx hv hr S1 M1 r1 h
theorem ps_trM (f : Sx C L o B X W) (hc : C.cold = true) {h0 : Nat × Option Nat × List MS} {hs : List (Nat × Option Nat × List MS)} {sb : List MS} {body : List Stmt} {hds : List ExceptHandler} {pos : Pos}
    (hb : ∀ X' W', Sx C L o B X' W' → PSs X' body (tB L B W' o sb)) (hh : HdP C L o (h0 :: hs) hds) : PS X (.Try body hds [] [] pos) (tS L B W o (.tr sb (h0 :: hs))) := by
  have bx := f.fx.cx hc
  have hh0 := hh
  obtain ⟨c0, sl0, sh0⟩ := h0
  obtain ⟨x0, np0, nm0, b0, suite0, pos0, hds0, rfl, _⟩ := hh0
  have z := L2N.ps_try_manyA (X := X) (pos := pos) (body := body) (tb := fun W' => tB L B W' o sb) f.hs f.hf f.fx.tk (fun W' pn xe tk po => hb _ _ (f.tr tk po bx)) (hdsA_of f bx hh)
  refine z.imp fun D σ H ⟨m, F, E, st, S, h⟩ => ?_
  rw [exS] at h
  refine ⟨m, F, E, st, S, ?_⟩
  cases e : exB o sb E st with
  | nx E1 st1 => rw [e] at h; exact h
  | bk E1 st1 => rw [e] at h; exact h
  | ct E1 st1 => rw [e] at h; exact h
  | rt v st1 => rw [e] at h; exact h
  | bad => rw [e] at h; exact h
  | ex xc E1 st1 =>
    rw [e] at h
    have h : PostS L B W m F H (if (o.sup xc.c).contains xc.c then exH o xc ((c0, sl0, sh0) :: hs) E1 st1 else .bad) D := h
    intro m1 F1 σ1 H1 cls d M1 S1 r1
    by_cases hv : (o.sup xc.c).contains xc.c = true
    · rw [if_pos hv] at h
      exact exH_sound f bx hv hh S1 M1 r1 h
    · rw [if_neg hv] at h
      exact h.elim
end
end Mp

end
section
set_option Elab.async false
set_option linter.all false
set_option maxRecDepth 100000
set_option maxHeartbeats 4000000
/-! S23: the checker of statements; every statement that it takes. -/
namespace Mp
open PySem PySem.Spec PyProof.Rows L2
/-- no comprehension -/
def ncB : Expr → Bool
  | .ListComp .. => false | .SetComp .. => false | .DictComp .. => false | _ => true
/-- a name that may be stored -/
def stB (C : CC) (i : Nat) (x : Str) : Bool := decide (C.N[i]? = some x) && (match C.sc.names.lookup x with | some .local => true | some .cell => C.fl | _ => false)
def locB (C : CC) (x : Str) : Bool := decide (C.sc.names.lookup x = some .local)
/-- does the store stand in the comprehension's own frame's stead -/
def swB (C : CC) (e : Expr) (x : Str) (l : Nat) : Bool := match e with
  | .ListComp _ _ scope pos => locB C x && decide (l = pos.line) && !(scope.names.any fun (n, k) => n == x && (k == .local || k == .cell))
  | _ => false
/-- names on the left, all local, on one line -/
def nmsB (C : CC) (ln : Nat) : List Expr → List Nat → Option (List Str)
  | [], is => match is with | [] => some [] | _ => none
  | e :: r, is => match e, is with
    | .Name x p, i :: is => if decide (C.N[i]? = some x) && locB C x && decide (p.line = ln) then (nmsB C ln r is).map (x :: ·) else none
    | _, _ => none
/-- names on the left that may be stored -/
def nmsS (C : CC) : List Expr → List Nat → Bool
  | [], is => match is with | [] => true | _ => false
  | e :: r, is => match e, is with | .Name x _, i :: is => stB C i x && nmsS C r is | _, _ => false
/-- a name on the left that is no plain local: no swap -/
def cellN (C : CC) : Expr → Bool | .Name x _ => !locB C x | _ => false
/-- a value that is unpacked -/
def okT : Expr → Bool
  | .Name .. => true | .Call .. => true | .Subscript .. => true | .Attribute .. => true | .IfExp .. => true | _ => false
mutual
def mtS (C : CC) : MS → Stmt → Bool
  | .asg t me, s => match s with
    | .Assign [.Name x p] e pos => (match t with
      | .v i => stB C i x && okE e && mtE C me e && (if swB C e x p.line then (match me with | .lc .. => true | .lcf .. => true | _ => false) else (match e with | .SetComp .. => false | .DictComp .. => false | _ => true))
      | _ => false)
    | .Assign [.Subscript (.Name x p) z q] e pos => (match t with
      | .sub (.var i) b => visB C i x && okE z && okE e && mtE C b z && mtE C me e
      | _ => false)
    | .Assign [.Attribute (.Name x p) y q] e pos => (match t with
      | .fld (.var i) k => visB C i x && decide (C.nm.flds[k]? = some y) && okE e && mtE C me e
      | _ => false)
    | .Assign [.Tuple tl k q] e pos => (match t with
      | .t ts => C.cold && okT e && (match tgPatL ts with | some ps => mtP C (.t ps) (.Tuple tl k q) | none => false) && mtE C me e
      | _ => false)
    | _ => false
  | .par ts es, s => match s with
    | .Assign [.Tuple tl _ _] (.Tuple l _ _) pos => C.cold && mtL C es l && decide (es.length ≤ szMax) && (match slots ts with
      | some [i, j] => (match tl, l with
        | [.Name x px, .Name y py], [a, b] => if tl.any (cellN C) then nmsS C tl [i, j] else decide (C.N[i]? = some x) && decide (C.N[j]? = some y) && locB C x && locB C y && decide (py.line = px.line) && decide (x ≠ y) && !(foldedForSure 8 a && foldedForSure 8 b) && !(constantsAlone 8 a && constantsAlone 8 b)
        | _, _ => false)
      | some [i, j, l3] => (match tl, l with
        | [.Name x px, .Name y py, .Name z pz], [a, b, c] => if tl.any (cellN C) then nmsS C tl [i, j, l3] else decide (C.N[i]? = some x) && decide (C.N[j]? = some y) && decide (C.N[l3]? = some z) && locB C x && locB C y && locB C z && decide (py.line = px.line) && decide (pz.line = px.line) && decide (x ≠ y) && decide (x ≠ z) && decide (y ≠ z) && !(foldedForSure 8 a && foldedForSure 8 b && foldedForSure 8 c) && !(constantsAlone 8 a && constantsAlone 8 b && constantsAlone 8 c)
        | _, _ => false)
      | some is => decide (4 ≤ tl.length) && nmsS C tl is
      | none => false)
    | _ => false
  | .app (.var i) a, s => match s with
    | .Expr (.Call (.Attribute (.Name x _) y ap) [e1] [] cp) _ => decide (y = ("append" : Str)) && visB C i x && okE e1 && decide (ap.endLine = cp.line) && mtE C a e1
    | _ => false
  | .aug (.v i) op me, s => match s with | .AugAssign (.Name x _) op' e _ => decide (op' = opK op) && stB C i x && okE e && mtE C me e | _ => false
  | .expr me, s => match s with | .Expr e _ => ncB e && okE e && mtE C me e | _ => false
  | .ins (.var i) a b, s => match s with
    | .Expr (.Call (.Attribute (.Name x _) y ap) [e1, e2] [] cp) _ => decide (y = ("insert" : Str)) && visB C i x && okE e1 && okE e2 && decide (ap.endLine = cp.line) && mtE C a e1 && mtE C b e2
    | _ => false
  | .ite c a b, s => match s with | .If e l1 l2 _ => mtE C c e && mtB C a l1 && mtB C b l2 | _ => false
  | .whl c b, s => match s with | .While e l [] _ => mtE C c e && mtB C b l | _ => false
  | .fr p it b, s => match s with | .For tg e l [] _ => C.cold && tgOk it tg && mtI C it e && mtP C p tg && mtB C b l | _ => false
  | .ret e, s => match s with | .Return (some x) _ => okE x && mtE C e x | _ => false
  | .retN, s => match s with | .Return none _ => true | _ => false
  | .rais c es, s => match s with
    | .Raise (some (.Call (.Name x _) l [] _)) none _ => C.cold && decide (C.nm.cls[c]? = some x) && glB C x && decide (C.nm.ar[c]? = some l.length) && decide (l.length < 1000) && mtL C es l
    | _ => false
  | .tr b hs, s => match s with
    | .Try body hds [] [] _ => C.cold && !hs.isEmpty && mtB C b body && mtH C hs hds
    | _ => false
  | .pass, s => match s with | .Pass _ => true | _ => false
  | .brk, s => match s with | .Break _ => true | _ => false
  | .cont, s => match s with | .Continue _ => true | _ => false
  | _, _ => false
def mtB (C : CC) : List MS → List Stmt → Bool
  | [], l => match l with | [] => true | _ => false
  | s :: ss, l => match s with
    | .frz _ => mtB C ss l
    | s => match l with | x :: r => mtS C s x && mtB C ss r | _ => false
def mtH (C : CC) : List (Nat × Option Nat × List MS) → List ExceptHandler → Bool
  | [], l => match l with | [] => true | _ => false
  | h :: r, l => match h with
    | (c, sl, b) => match l with
      | .ExceptHandler (some (.Name x _)) nm (b₀ :: suite) _ :: hds => decide (C.nm.cls[c]? = some x) && glB C x && (match sl with
        | some i => (match nm with | some n => decide (C.N[i]? = some n) && locB C n | none => false)
        | none => (match nm with | none => true | some _ => false)) && mtB C.hot b (b₀ :: suite) && mtH C r hds
      | _ => false
end
section
variable {C : CC} {L : Lk} {B : Bs} {W : WX} {o : Orc} {X : Cx}
theorem sw_nc {e : Expr} {t : Option Expr} {l : Nat} {env : PySem.Env} (h : ncB e = true) : swapsWith e t l env = pure false := by cases e <;> simp [ncB] at h <;> rfl
theorem sw_sub {e z w : Expr} {q : Pos} {l : Nat} {env : PySem.Env} : swapsWith e (some (.Subscript z w q)) l env = pure false := by cases e <;> rfl
theorem sw_name {e : Expr} {x : Str} {p : Pos} {l : Nat} (f : Sx C L o B X W) : swapsWith e (some (.Name x p)) l X.env = pure (swB C e x p.line) ∨ ∃ a b s q, (e = .SetComp a b s q ∨ ∃ c, e = .DictComp a c b s q) := by
  have hb : X.env.blockKind = .function := by
    have := f.kd
    rw [← f.fx.sc] at this
    unfold Env.blockKind
    rw [this]
    rfl
  cases e with
  | ListComp a b s q =>
    left
    have hk : X.env.kindOf x = C.sc.names.lookup x := by show X.env.scope.names.lookup x = _; rw [f.fx.sc]
    unfold swapsWith swB
    simp only [hb, hk]
    show pure ((ScopeKind.function == ScopeKind.function) && (C.sc.names.lookup x == some .local) && (p.line == q.line) && !(s.names.any fun (n, k) => n == x && (k == .local || k == .cell))) = pure _
    have h1 : (C.sc.names.lookup x == some NameKind.local) = locB C x := by
      unfold locB
      cases C.sc.names.lookup x with
      | none => rfl
      | some k => cases k <;> rfl
    rw [h1]
    rfl
  | SetComp a b s q => exact .inr ⟨a, b, s, q, .inl rfl⟩
  | DictComp a c b s q => exact .inr ⟨a, b, s, q, .inr ⟨c, rfl⟩⟩
  | _ => exact .inl rfl
theorem sws1 {e x z : Expr} {q : Pos} {l : Nat} {env : PySem.Env} : swapsWithSole [.Subscript x z q] e l env = pure false := by cases e <;> rfl
theorem sws_sub {e x z : Expr} {q : Pos} {env : PySem.Env} : swappedStores [.Subscript x z q] e env = pure none := by cases e <;> rfl
theorem sw_att {e z : Expr} {y : Str} {q : Pos} {l : Nat} {env : PySem.Env} : swapsWith e (some (.Attribute z y q)) l env = pure false := by cases e <;> rfl
theorem sws_tup {e : Expr} {tl : List Expr} {k : Nat} {q : Pos} {l : Nat} {env : PySem.Env} (h : okT e = true) : swapsWithSole [.Tuple tl k q] e l env = pure false ∧ swappedStores [.Tuple tl k q] e env = pure none := by
  cases e <;> simp [okT] at h <;> exact ⟨rfl, rfl⟩
theorem asg_sub {x z : Expr} {pos : Pos} {env : PySem.Env} (h : okE z = true) (v : Value) : assign (.Subscript x z pos) env v = (do
      let ov ← holding [v] (eval x env)
      let iv ← holding [v, ov] (eval z env)
      standAt pos
      holding [v, ov, iv] (setItem ov iv v)
      release [v, ov, iv] []) := by cases z <;> simp [okE] at h <;> rfl
theorem ps_setLcM (f : Sx C L o B X W) (hc : C.cold = true) {i : Nat} {y : Str} {py spos : Pos} {x tg iter : Expr} {scope : Scope} {pos : Pos} {it : MI} {p : Pat} {a : ME} (hy : C.N[i]? = some y) (hyl : C.sc.names.lookup y = some .local) (hsw : swB C (.ListComp x [⟨tg, iter, [], 0⟩] scope pos) y py.line = true)
    (hi : PI X tg iter (tI L B W o false it)) (hs : ∀ l k p, iter ≠ .Set l k p) (hb : blkC C.N C.sc scope ((patSl p).map fun i => (C.N.getD i "", i)) = true) (hp : mtP (C.blk scope) p tg = true) (he : ∀ X', Fx (C.blk scope) L o B X' wNo → PE X' x (tE L B wNo o a)) :
    PS X (.Assign [.Name y py] (.ListComp x [⟨tg, iter, [], 0⟩] scope pos) spos) (tAsg (tE L B W o (.lc a p it)) (gName i)) := by
  have F := f.fx
  have ok := blkOk_by (N := X.N) (sc := X.env.scope) (by rw [F.N, F.sc]; exact hb)
  have hsw' : swapsWith (.ListComp x [⟨tg, iter, [], 0⟩] scope pos) (some (.Name y py)) spos.line X.env = pure true := by
    rcases sw_name (l := spos.line) (e := .ListComp x [⟨tg, iter, [], 0⟩] scope pos) (x := y) (p := py) f with h | ⟨_, _, _, _, h | ⟨_, h⟩⟩
    · rw [h, hsw]
    · cases h
    · cases h
  have z := ps_setLc (X := X) (spos := spos) (py := py) (F.cold hc) (by rw [F.N]; exact F.nd) (by rw [F.N]; exact hy) (by rw [F.sc]; exact hyl) hsw' hi ok (g := tgP X.K p) (tt := tYes) (te := tE L B wNo o a) (fun s H a' cl fp => by
      have fb := F.blk hc s H scope cl a' fp
      exact pgM (X := X.blk s H scope (compEnvC scope cl a' X.env) fp) ⟨fb.N, fb.nd, fb.sc, fb.fl, F.cold hc⟩ hp) (fun s H a' cl fp => pts_nil) (fun s H a' cl fp => he _ (F.blk hc s H scope cl a' fp)) (fold_ok hs)
  rw [own_sl] at z
  refine z.imp fun D σ H ⟨m, F0, E, st, S, h⟩ => lc_tI (cf := fun _ st' => .ok (.dat (.bl true)) st') F.K (fun m F H E' st σ2 Q' S' hq => ?_) ⟨m, F0, E, st, S, by rw [evE] at h; exact h⟩
  obtain ⟨t, e, q⟩ := hq m F H Ext.refl S'
  cases e
  exact q
theorem ps_setLcfM (f : Sx C L o B X W) (hc : C.cold = true) {i : Nat} {y : Str} {py spos : Pos} {x w tg iter : Expr} {scope : Scope} {pos : Pos} {it : MI} {p : Pat} {a c : ME} (hy : C.N[i]? = some y) (hyl : C.sc.names.lookup y = some .local) (hsw : swB C (.ListComp x [⟨tg, iter, [w], 0⟩] scope pos) y py.line = true)
    (hi : PI X tg iter (tI L B W o false it)) (hs : ∀ l k p, iter ≠ .Set l k p) (hb : blkC C.N C.sc scope ((patSl p).map fun i => (C.N.getD i "", i)) = true) (hp : mtP (C.blk scope) p tg = true) (he : ∀ X', Fx (C.blk scope) L o B X' wNo → PE X' x (tE L B wNo o a)) (hw : ∀ X', Fx (C.blk scope) L o B X' wNo → PT X' w (tTest (tE L B wNo o c))) :
    PS X (.Assign [.Name y py] (.ListComp x [⟨tg, iter, [w], 0⟩] scope pos) spos) (tAsg (tE L B W o (.lcf a p it c)) (gName i)) := by
  have F := f.fx
  have ok := blkOk_by (N := X.N) (sc := X.env.scope) (by rw [F.N, F.sc]; exact hb)
  have hsw' : swapsWith (.ListComp x [⟨tg, iter, [w], 0⟩] scope pos) (some (.Name y py)) spos.line X.env = pure true := by
    rcases sw_name (l := spos.line) (e := .ListComp x [⟨tg, iter, [w], 0⟩] scope pos) (x := y) (p := py) f with h | ⟨_, _, _, _, h | ⟨_, h⟩⟩
    · rw [h, hsw]
    · cases h
    · cases h
  have z := ps_setLc (X := X) (spos := spos) (py := py) (F.cold hc) (by rw [F.N]; exact F.nd) (by rw [F.N]; exact hy) (by rw [F.sc]; exact hyl) hsw' hi ok (g := tgP X.K p) (tt := tTest (tE L B wNo o c)) (te := tE L B wNo o a) (fun s H a' cl fp => by
      have fb := F.blk hc s H scope cl a' fp
      exact pgM (X := X.blk s H scope (compEnvC scope cl a' X.env) fp) ⟨fb.N, fb.nd, fb.sc, fb.fl, F.cold hc⟩ hp) (fun s H a' cl fp => pts_one (hw _ (F.blk hc s H scope cl a' fp))) (fun s H a' cl fp => he _ (F.blk hc s H scope cl a' fp)) (fold_ok hs)
  rw [own_sl] at z
  refine z.imp fun D σ H ⟨m, F0, E, st, S, h⟩ => lc_tI (cf := fun E' st' => evE o c E' st') F.K (fun m F H E' st σ2 Q' S' hq => ?_) ⟨m, F0, E, st, S, by rw [evE] at h; exact h⟩
  refine ⟨m, F, E', st, S', ?_⟩
  cases e : evE o c E' st with
  | bad => rw [e] at hq; exact hq.elim
  | ex xc s => rw [e] at hq; exact hq.elim
  | ok v st2 =>
    rw [e] at hq
    intro m' F' x H' X1 S1 r1
    obtain ⟨t, rfl, q⟩ := hq m' F' H' X1 S1
    exact ⟨t, r1, q⟩
/-- two names on the left, by the swap -/
theorem swap2 (f : Sx C L o B X W) {x y : Str} {px py pt pt2 : Pos} {kt k2 : Nat} {a b : Expr} (hx : C.sc.names.lookup x = some .local) (hy : C.sc.names.lookup y = some .local) (hl : py.line = px.line) (hne : x ≠ y) (ha : okE a = true) (hb : okE b = true)
    (h1 : (foldedForSure 8 a && foldedForSure 8 b) = false) (h2 : (constantsAlone 8 a && constantsAlone 8 b) = false) : swappedStores [.Tuple [.Name x px, .Name y py] kt pt] (.Tuple [a, b] k2 pt2) X.env = pure (some [x, y]) := by
  have hbk : X.env.blockKind = .function := by
    have := f.kd
    rw [← f.fx.sc] at this
    unfold Env.blockKind
    rw [this]
    rfl
  have kx : X.env.kindOf x = some .local := by show X.env.scope.names.lookup x = _; rw [f.fx.sc]; exact hx
  have ky : X.env.kindOf y = some .local := by show X.env.scope.names.lookup y = _; rw [f.fx.sc]; exact hy
  have e1 : ([a, b].any fun | .Starred .. => true | _ => false) = false := by
    cases a <;> simp [okE] at ha <;> cases b <;> simp [okE] at hb <;> rfl
  have e2 : [a, b].all (foldedForSure 8) = false := by simpa using h1
  have e3 : [a, b].all (constantsAlone 8) = false := by simpa using h2
  have e4 : (x == y) = false := by simpa using hne
  have e5 : ([x, y] : List Str).eraseDups = [x, y] := by
    simp [List.eraseDups_cons, e4, Ne.symm hne]
  have e6 : [(Expr.Name x px), (Expr.Name y py)].filterMap (fun | .Name id pos => if X.env.kindOf id == some .local && pos.line == px.line then some id else none | _ => none) = [x, y] := by
    simp only [List.filterMap_cons, kx, ky, hl]
    simp
  have go : swappedStores [.Tuple [.Name x px, .Name y py] kt pt] (.Tuple [a, b] k2 pt2) X.env = (do
      if !(([(Expr.Name x px), (Expr.Name y py)] : List Expr).length == 2 || ([(Expr.Name x px), (Expr.Name y py)] : List Expr).length == 3) || [a, b].length != ([(Expr.Name x px), (Expr.Name y py)] : List Expr).length || X.env.blockKind != .function then return none
      if ([a, b].any fun | .Starred .. => true | _ => false) then return none
      let names := [(Expr.Name x px), (Expr.Name y py)].filterMap (fun | .Name id pos => if X.env.kindOf id == some .local && pos.line == px.line then some id else none | _ => none)
      if names.length != ([(Expr.Name x px), (Expr.Name y py)] : List Expr).length || names.eraseDups.length != names.length then return none
      if [a, b].all (foldedForSure 8) then return none
      if [a, b].all (constantsAlone 8) then unsupported "assign.tuple-of-constant-expressions:order-of-the-stores"
      return some names) := rfl
  rw [go, e1, e2, e3, e6]
  dsimp only
  rw [e5, hbk]
  rfl
theorem swap3 (f : Sx C L o B X W) {x y z : Str} {px py pz pt pt2 : Pos} {kt k2 : Nat} {a b c : Expr} (hx : C.sc.names.lookup x = some .local) (hy : C.sc.names.lookup y = some .local) (hz : C.sc.names.lookup z = some .local) (hl : py.line = px.line) (hl2 : pz.line = px.line) (hne : x ≠ y) (hne2 : x ≠ z) (hne3 : y ≠ z)
    (ha : okE a = true) (hb : okE b = true) (hc : okE c = true)
    (h1 : (foldedForSure 8 a && foldedForSure 8 b && foldedForSure 8 c) = false) (h2 : (constantsAlone 8 a && constantsAlone 8 b && constantsAlone 8 c) = false) : swappedStores [.Tuple [.Name x px, .Name y py, .Name z pz] kt pt] (.Tuple [a, b, c] k2 pt2) X.env = pure (some [x, y, z]) := by
  have hbk : X.env.blockKind = .function := by
    have := f.kd
    rw [← f.fx.sc] at this
    unfold Env.blockKind
    rw [this]
    rfl
  have kx : X.env.kindOf x = some .local := by show X.env.scope.names.lookup x = _; rw [f.fx.sc]; exact hx
  have ky : X.env.kindOf y = some .local := by show X.env.scope.names.lookup y = _; rw [f.fx.sc]; exact hy
  have kz : X.env.kindOf z = some .local := by show X.env.scope.names.lookup z = _; rw [f.fx.sc]; exact hz
  have e1 : ([a, b, c].any fun | .Starred .. => true | _ => false) = false := by
    rw [List.any_cons, List.any_cons, List.any_cons]
    have q : ∀ e : Expr, okE e = true → (match e with | .Starred .. => true | _ => false) = false := fun e he => by cases e <;> simp [okE] at he <;> rfl
    rw [q a ha, q b hb, q c hc]
    rfl
  have e2 : [a, b, c].all (foldedForSure 8) = false := by simpa [Bool.and_assoc] using h1
  have e3 : [a, b, c].all (constantsAlone 8) = false := by simpa [Bool.and_assoc] using h2
  have e5 : ([x, y, z] : List Str).eraseDups = [x, y, z] := by
    have q1 : (y == x) = false := by simpa using Ne.symm hne
    have q2 : (z == x) = false := by simpa using Ne.symm hne2
    have q3 : (z == y) = false := by simpa using Ne.symm hne3
    simp [List.eraseDups_cons, q1, q2, q3, Ne.symm hne, Ne.symm hne2, Ne.symm hne3]
  have e6 : [(Expr.Name x px), (Expr.Name y py), (Expr.Name z pz)].filterMap (fun | .Name id pos => if X.env.kindOf id == some .local && pos.line == px.line then some id else none | _ => none) = [x, y, z] := by
    simp only [List.filterMap_cons, kx, ky, kz, hl, hl2]
    simp
  have go : swappedStores [.Tuple [.Name x px, .Name y py, .Name z pz] kt pt] (.Tuple [a, b, c] k2 pt2) X.env = (do
      if !(([(Expr.Name x px), (Expr.Name y py), (Expr.Name z pz)] : List Expr).length == 2 || ([(Expr.Name x px), (Expr.Name y py), (Expr.Name z pz)] : List Expr).length == 3) || [a, b, c].length != ([(Expr.Name x px), (Expr.Name y py), (Expr.Name z pz)] : List Expr).length || X.env.blockKind != .function then return none
      if ([a, b, c].any fun | .Starred .. => true | _ => false) then return none
      let names := [(Expr.Name x px), (Expr.Name y py), (Expr.Name z pz)].filterMap (fun | .Name id pos => if X.env.kindOf id == some .local && pos.line == px.line then some id else none | _ => none)
      if names.length != ([(Expr.Name x px), (Expr.Name y py), (Expr.Name z pz)] : List Expr).length || names.eraseDups.length != names.length then return none
      if [a, b, c].all (foldedForSure 8) then return none
      if [a, b, c].all (constantsAlone 8) then unsupported "assign.tuple-of-constant-expressions:order-of-the-stores"
      return some names) := rfl
  rw [go, e1, e2, e3, e6]
  dsimp only
  rw [e5, hbk]
  rfl
theorem fm_lt {α β : Type} {f : α → Option β} : ∀ {l : List α}, (∃ a ∈ l, f a = none) → (l.filterMap f).length < l.length
  | [], h => by simp at h
  | a :: l, h => by
    rw [List.filterMap_cons]
    cases e : f a with
    | none =>
      have := List.length_filterMap_le f l
      simp only [List.length_cons]
      omega
    | some b =>
      obtain ⟨x, hx, hn⟩ := h
      rcases List.mem_cons.mp hx with h1 | h1
      · rw [h1, e] at hn; cases hn
      · have := fm_lt ⟨x, h1, hn⟩
        simp only [List.length_cons]
        omega
theorem swapN (f : Sx C L o B X W) {ts vs : List Expr} {k k2 : Nat} {p p2 : Pos} (h : ts.any (cellN C) = true) : swappedStores [.Tuple ts k p] (.Tuple vs k2 p2) X.env = pure none := by
  obtain ⟨t, ht, hc⟩ := List.any_eq_true.mp h
  have hn : ∀ ln : Nat, ((ts.filterMap fun | .Name id pos => if X.env.kindOf id == some .local && pos.line == ln then some id else none | _ => none).length != ts.length) = true := fun ln => by
    have := fm_lt (f := fun | .Name id pos => if X.env.kindOf id == some .local && pos.line == ln then some id else none | _ => none) (l := ts) ⟨t, ht, by
      cases t <;> simp [cellN] at hc
      rename_i x px
      have hk : X.env.kindOf x = C.sc.names.lookup x := by show X.env.scope.names.lookup x = _; rw [f.fx.sc]
      have h2 : (X.env.kindOf x == some .local) = false := by
        rw [hk]
        unfold locB at hc
        simpa using hc
      simp [h2]⟩
    simp only [bne_iff_ne, ne_eq]
    omega
  unfold swappedStores
  dsimp only
  by_cases c1 : (!(ts.length == 2 || ts.length == 3) || vs.length != ts.length || X.env.blockKind != ScopeKind.function) = true
  · rw [if_pos c1]
  · rw [if_neg c1]
    split
    · rfl
    · refine if_pos ?_
      rw [Bool.or_eq_true]
      exact .inl (hn _)
theorem swap4 {ts vs : List Expr} {k k2 : Nat} {p p2 : Pos} {env : PySem.Env} (h : 4 ≤ ts.length) : swappedStores [.Tuple ts k p] (.Tuple vs k2 p2) env = pure none := by
  have h1 : (ts.length == 2) = false := by simp; omega
  have h2 : (ts.length == 3) = false := by simp; omega
  unfold swappedStores
  simp only [h1, h2]
  rfl
theorem st_loc (f : Sx C L o B X W) {i : Nat} {x : Str} (h : stB C i x = true) : X.N[i]? = some x ∧ Loc X.env.scope x ∧ (X.fn x = true ∨ X.env.scope.names.lookup x = some .local) := by
  unfold stB at h
  rw [Bool.and_eq_true, decide_eq_true_eq] at h
  refine ⟨by rw [f.fx.N]; exact h.1, ?_⟩
  rw [f.fx.sc]
  have h2 := h.2
  split at h2
  · rename_i e; exact ⟨.inl e, .inr e⟩
  · rename_i e; exact ⟨.inr e, .inl (f.fx.fl h2 x)⟩
  · cases h2
theorem pgs_nms (f : Sx C L o B X W) : ∀ {tl : List Expr} {is : List Nat}, nmsS C tl is = true → PGs X tl (fun vs σ H Q => vs.length = is.length ∧ Q (setSl is vs σ) H) ∧ tl.length = is.length ∧ tl.all okE = true
  | [], [], _ => ⟨⟨fun pins s σ H vs us Q I r ⟨h1, h2⟩ => by
      cases vs with
      | nil => exact pgs_nil.run pins s σ H [] us Q I r ⟨rfl, h2⟩
      | cons => cases h1⟩, rfl, rfl⟩
  | [], _ :: _, h => by simp [nmsS] at h
  | e :: tl, is, h => by
    cases is with
    | nil => cases e <;> simp [nmsS] at h
    | cons i is =>
      cases e <;> simp only [nmsS, Bool.and_eq_true] at h <;> try contradiction
      rename_i x p
      obtain ⟨g1, g2, g3⟩ := st_loc f h.1
      obtain ⟨r1, r2, r3⟩ := pgs_nms f h.2
      have z := pgs_cons (pg_name (pos := p) (by rw [f.fx.N]; exact f.fx.nd) g1 g2 g3) r1 rfl
      refine ⟨⟨fun pins s σ H vs us Q I r ⟨h1, h2⟩ => z.run pins s σ H vs us Q I r ?_⟩, by simp [r2], by simp [okE, r3]⟩
      cases vs with
      | nil => cases h1
      | cons v vs => exact ⟨v, vs, rfl, by simpa using h1, h2⟩
theorem pg_nms (f : Sx C L o B X W) (hc : C.cold = true) {tl : List Expr} {is : List Nat} {k : Nat} {p : Pos} (h : nmsS C tl is = true) : PG X (.Tuple tl k p) (fun v σ H Q => ∃ a xs, v = .ref a ∧ SqT X.K H a xs ∧ xs.length = is.length ∧ Q (setSl is xs σ) H) := by
  obtain ⟨r1, r2, r3⟩ := pgs_nms f h
  have z := pg_tup (X := X) (k := k) (pos := p) (f.fx.cold hc) r1 (asg_okL r3).1 (asg_okL r3).2
  exact ⟨fun pins s σ H v u Q I r ⟨a, xs, e, hs, hl, q⟩ => z.run pins s σ H v u Q I r ⟨a, xs, e, hs, by rw [hl, r2], hl, q⟩⟩
def SS (s : MS) : Prop := ∀ (C : CC) (L : Lk) (B : Bs) (W : WX) (o : Orc) (X : Cx), Sx C L o B X W → ∀ (st : Stmt), mtS C s st = true → PS X st (tS L B W o s)
def SB (ss : List MS) : Prop := ∀ (C : CC) (L : Lk) (B : Bs) (W : WX) (o : Orc) (X : Cx), Sx C L o B X W → ∀ (l : List Stmt), mtB C ss l = true → PSs X l (tB L B W o ss)
def SH (hs : List (Nat × Option Nat × List MS)) : Prop := ∀ (C : CC) (L : Lk) (o : Orc) (hds : List ExceptHandler), mtH C hs hds = true → HdP C L o hs hds
end
mutual
theorem sS : ∀ s : MS, SS s
  | .asg (.v i) me => by
    intro C L B W o X f st h
    unfold mtS at h
    split at h
    · rename_i x p e pos
      simp only [Bool.and_eq_true] at h
      obtain ⟨⟨⟨h1, h2⟩, h3⟩, h4⟩ := h
      obtain ⟨g1, g2, g3⟩ := st_loc f h1
      refine PS.imp (t := tAsg (tE L B W o me) (gName i)) ?_ (fun D σ H h => tS_asg h)
      cases hsw : swB C e x p.line with
      | false =>
        rw [hsw, if_neg Bool.false_ne_true] at h4
        refine ps_set (by rw [f.fx.N]; exact f.fx.nd) g1 g2 (sE me _ _ _ _ _ _ f.fx _ h3).1 ?_ g3
        rcases sw_name (l := pos.line) (e := e) (x := x) (p := p) f with q | ⟨_, _, _, _, q | ⟨_, q⟩⟩
        · rw [q, hsw]
        · subst q; cases h4
        · subst q; cases h4
      | true =>
        rw [hsw, if_pos rfl] at h4
        have hy : C.N[i]? = some x := by rw [← f.fx.N]; exact g1
        have hyl : C.sc.names.lookup x = some .local := by
          unfold swB at hsw
          split at hsw
          · simp only [Bool.and_eq_true] at hsw
            exact of_decide_eq_true hsw.1.1
          · cases hsw
        split at h4
        · rename_i a pt it
          unfold mtE at h3
          split at h3
          · simp only [Bool.and_eq_true, decide_eq_true_eq] at h3
            obtain ⟨⟨⟨⟨⟨⟨⟨hc, ht⟩, hi⟩, hb⟩, _⟩, hp⟩, ha⟩, _⟩ := h3
            obtain ⟨i1, i2⟩ := sI it _ _ _ _ _ _ f.fx _ hi
            exact ps_setLcM f hc hy hyl hsw (i1 _ false ht) i2 hb hp fun X' f' => (sE a _ _ _ _ _ _ f' _ ha).1
          · cases h3
        · rename_i a pt it c
          unfold mtE at h3
          split at h3
          · simp only [Bool.and_eq_true, decide_eq_true_eq] at h3
            obtain ⟨⟨⟨⟨⟨⟨⟨⟨hc, ht⟩, hi⟩, hb⟩, _⟩, hp⟩, ha⟩, _⟩, hy'⟩ := h3
            obtain ⟨i1, i2⟩ := sI it _ _ _ _ _ _ f.fx _ hi
            exact ps_setLcfM f hc hy hyl hsw (i1 _ false ht) i2 hb hp (fun X' f' => (sE a _ _ _ _ _ _ f' _ ha).1) fun X' f' => (sE c _ _ _ _ _ _ f' _ hy').2
          · cases h3
        · cases h4
    · cases h
    · cases h
    · cases h
    · cases h
  | .asg (.sub b0 b) me => by
    intro C L B W o X f st h
    unfold mtS at h
    split at h
    · cases h
    · cases b0 <;> try contradiction
      rename_i i
      simp only [Bool.and_eq_true] at h
      obtain ⟨⟨⟨⟨h1, h2⟩, h3⟩, h4⟩, h5⟩ := h
      obtain ⟨g1, g2, g3, g4⟩ := f.fx.vis h1
      exact PS.imp (ps_asg (sE me _ _ _ _ _ _ f.fx _ h5).1 (pg_sub (pe_var g1 g2 g3 g4) (sE b _ _ _ _ _ _ f.fx _ h4).1 (set_C (by have := f.fx.hu4; omega)) (asg_sub h2)) sws1 sws_sub) (fun D σ H h => tS_sub h)
    · cases h
    · cases h
    · cases h
  | .par ts es => by
    intro C L B W o X f st h
    unfold mtS at h
    split at h
    · simp only [Bool.and_eq_true, decide_eq_true_eq] at h
      obtain ⟨⟨⟨hc, hl⟩, hz⟩, h⟩ := h
      split at h
      · rename_i i j hs
        split at h
        · split at h
          · exact PS.imp (ps_asg (pe_tup (sL es _ _ _ _ _ _ f.fx _ hl).pa) (pg_nms f hc h) (by rfl) (swapN f ‹_›) (by rfl)) (fun D σ H h => tS_parT hs hz h)
          simp only [Bool.and_eq_true, decide_eq_true_eq, Bool.not_eq_true'] at h
          obtain ⟨⟨⟨⟨⟨⟨⟨h1, h2⟩, h3⟩, h4⟩, h5⟩, h6⟩, h7⟩, h8⟩ := h
          have ho := (mtL_len hl).2
          simp only [List.all_cons, List.all_nil, Bool.and_eq_true] at ho
          have hij : i ≠ j := fun z => h6 (by rw [z, h2] at h1; exact (Option.some.inj h1).symm)
          refine PS.imp (ps_par (X := X) (f.fx.cold hc) (by rw [f.fx.N]; exact f.fx.nd) (by rw [f.fx.N]; exact h1) (by rw [f.fx.N]; exact h2) hij (by rw [f.fx.sc]; exact of_decide_eq_true h3) (by rw [f.fx.sc]; exact of_decide_eq_true h4) (sL es _ _ _ _ _ _ f.fx _ hl).pa
            (swap2 f (of_decide_eq_true h3) (of_decide_eq_true h4) h5 h6 ho.1 ho.2.1 h7 h8) (by rfl)) (fun D σ H h => tS_par hs h)
        · cases h
      · rename_i i j l3 hs
        split at h
        · split at h
          · exact PS.imp (ps_asg (pe_tup (sL es _ _ _ _ _ _ f.fx _ hl).pa) (pg_nms f hc h) (by rfl) (swapN f ‹_›) (by rfl)) (fun D σ H h => tS_parT hs hz h)
          simp only [Bool.and_eq_true, decide_eq_true_eq, Bool.not_eq_true'] at h
          obtain ⟨⟨⟨⟨⟨⟨⟨⟨⟨⟨⟨⟨h1, h2⟩, h2'⟩, h3⟩, h4⟩, h4'⟩, h5⟩, h5'⟩, h6⟩, h6'⟩, h6''⟩, h7⟩, h8⟩ := h
          have ho := (mtL_len hl).2
          simp only [List.all_cons, List.all_nil, Bool.and_eq_true] at ho
          have hij : i ≠ j := fun z => h6 (by rw [z, h2] at h1; exact (Option.some.inj h1).symm)
          have hil : i ≠ l3 := fun z => h6' (by rw [z, h2'] at h1; exact (Option.some.inj h1).symm)
          have hjl : j ≠ l3 := fun z => h6'' (by rw [z, h2'] at h2; exact (Option.some.inj h2).symm)
          refine PS.imp (ps_par3 (X := X) (f.fx.cold hc) (by rw [f.fx.N]; exact f.fx.nd) (by rw [f.fx.N]; exact h1) (by rw [f.fx.N]; exact h2) (by rw [f.fx.N]; exact h2') hij hil hjl (by rw [f.fx.sc]; exact of_decide_eq_true h3) (by rw [f.fx.sc]; exact of_decide_eq_true h4) (by rw [f.fx.sc]; exact of_decide_eq_true h4') (sL es _ _ _ _ _ _ f.fx _ hl).pa
            (swap3 f (of_decide_eq_true h3) (of_decide_eq_true h4) (of_decide_eq_true h4') h5 h5' h6 h6' h6'' ho.1 ho.2.1 ho.2.2.1 h7 h8) (by rfl)) (fun D σ H h => tS_par3 hs h)
        · cases h
      · rename_i is _ _ hs
        rw [Bool.and_eq_true, decide_eq_true_eq] at h
        exact PS.imp (ps_asg (pe_tup (sL es _ _ _ _ _ _ f.fx _ hl).pa) (pg_nms f hc h.2) (by rfl) (swap4 h.1) (by rfl)) (fun D σ H h => tS_parT hs hz h)
      · cases h
    · cases h
  | .expr me => by
    intro C L B W o X f st h
    unfold mtS at h
    split at h
    · simp only [Bool.and_eq_true] at h
      obtain ⟨⟨h1, h2⟩, h3⟩ := h
      exact ps_exprM (sw_nc h1) (sE me _ _ _ _ _ _ f.fx _ h3).1
    · cases h
  | .ins b0 a b => by
    intro C L B W o X f st h
    cases b0 <;> try (simp [mtS] at h; done)
    rename_i i
    unfold mtS at h
    split at h
    · simp only [Bool.and_eq_true, decide_eq_true_eq] at h
      obtain ⟨⟨⟨⟨⟨⟨rfl, h1⟩, h2⟩, h3⟩, h4⟩, h5⟩, h6⟩ := h
      exact ps_insM f.fx h1 h2 h3 (by simpa using h4) (sE a _ _ _ _ _ _ f.fx _ h5).1 (sE b _ _ _ _ _ _ f.fx _ h6).1
    · cases h
  | .ite c a b => by
    intro C L B W o X f st h
    unfold mtS at h
    split at h
    · simp only [Bool.and_eq_true] at h
      obtain ⟨⟨h1, h2⟩, h3⟩ := h
      exact ps_iteM (sE c _ _ _ _ _ _ f.fx _ h1).2 (sB a _ _ _ _ _ _ f _ h2) (sB b _ _ _ _ _ _ f _ h3)
    · cases h
  | .whl c b => by
    intro C L B W o X f st h
    unfold mtS at h
    split at h
    · simp only [Bool.and_eq_true] at h
      exact ps_whlM f.po (sE c _ _ _ _ _ _ f.fx _ h.1).2 (sB b _ _ _ _ _ _ f _ h.2)
    · cases h
  | .fr p it b => by
    intro C L B W o X f st h
    unfold mtS at h
    split at h
    · simp only [Bool.and_eq_true] at h
      obtain ⟨⟨⟨⟨hc, ht⟩, hi⟩, hp⟩, hb⟩ := h
      obtain ⟨i1, i2⟩ := sI it _ _ _ _ _ _ f.fx _ hi
      exact ps_frM f.fx.K f.po (f.fx.cold hc) (i1 _ true ht) (pgM ⟨f.fx.N, f.fx.nd, f.fx.sc, f.fx.fl, f.fx.cold hc⟩ hp) (sB b _ _ _ _ _ _ f _ hb) i2
    · cases h
  | .ret e => by
    intro C L B W o X f st h
    unfold mtS at h
    split at h
    · rw [Bool.and_eq_true] at h
      exact ps_retM (sE e _ _ _ _ _ _ f.fx _ h.2).1
    · cases h
  | .retN => by
    intro C L B W o X f st h
    unfold mtS at h
    split at h
    · exact ps_retNM
    · cases h
  | .rais c es => by
    intro C L B W o X f st h
    unfold mtS at h
    split at h
    · simp only [Bool.and_eq_true, decide_eq_true_eq] at h
      obtain ⟨⟨⟨⟨⟨hc, hx⟩, hg⟩, har⟩, hk⟩, hl⟩ := h
      exact ps_raisM f hc hx hg (mtL_len hl).2 har hk (mtL_len hl).1 (sL es _ _ _ _ _ _ f.fx _ hl).pa
    · cases h
  | .tr b hs => by
    intro C L B W o X f st h
    unfold mtS at h
    split at h
    · simp only [Bool.and_eq_true] at h
      obtain ⟨⟨⟨hc, hne⟩, hb⟩, hh⟩ := h
      cases hs with
      | nil => cases hne
      | cons h0 hs => exact ps_trM f hc (fun X' W' f' => sB b _ _ _ _ _ _ f' _ hb) (sH (h0 :: hs) C L o _ hh)
    · cases h
  | .pass => by
    intro C L B W o X f st h
    unfold mtS at h
    split at h
    · exact ps_passM
    · cases h
  | .brk => by
    intro C L B W o X f st h
    unfold mtS at h
    split at h
    · exact ps_brkM
    · cases h
  | .cont => by
    intro C L B W o X f st h
    unfold mtS at h
    split at h
    · exact ps_contM
    · cases h
  | .asg (.fld b0 k) me => by
    intro C L B W o X f st h
    unfold mtS at h
    split at h
    · cases h
    · cases h
    · cases b0 <;> try contradiction
      rename_i i
      simp only [Bool.and_eq_true, decide_eq_true_eq] at h
      obtain ⟨⟨⟨h1, h2⟩, h3⟩, h5⟩ := h
      obtain ⟨g1, g2, g3, g4⟩ := f.fx.vis h1
      exact PS.imp (ps_fld (pe_var g1 g2 g3 g4) (sE me _ _ _ _ _ _ f.fx _ h5).1 sw_att) (fun D σ H h => tS_fld f.fx (f.fx.nm _ _ h2) h)
    · cases h
    · cases h
  | .asg (.t ts) me => by
    intro C L B W o X f st h
    unfold mtS at h
    split at h
    · cases h
    · cases h
    · cases h
    · simp only [Bool.and_eq_true] at h
      obtain ⟨⟨⟨hc, ht⟩, hp⟩, h5⟩ := h
      split at hp
      · rename_i ps e
        obtain ⟨q1, q2⟩ := sws_tup ht
        exact PS.imp (ps_asg (sE me _ _ _ _ _ _ f.fx _ h5).1 (pgM ⟨f.fx.N, f.fx.nd, f.fx.sc, f.fx.fl, f.fx.cold hc⟩ hp) q1 q2) (fun D σ H h => tS_asgT f.fx.K e h)
      · cases hp
    · cases h
  | .aug (.v i) op me => by
    intro C L B W o X f st h
    unfold mtS at h
    split at h
    · simp only [Bool.and_eq_true, decide_eq_true_eq] at h
      obtain ⟨⟨⟨rfl, hs⟩, he⟩, hm⟩ := h
      obtain ⟨g1, g2, g3⟩ := st_loc f hs
      exact PS.imp (ps_aug (by rw [f.fx.N]; exact f.fx.nd) g1 g2 (sE me _ _ _ _ _ _ f.fx _ hm).1 (ip_M op) g3) (fun D σ H h => tS_augV h)
    · cases h
  | .aug (.fld ..) .. => by intro C L B W o X f st h; simp [mtS] at h
  | .aug (.sub ..) .. => by intro C L B W o X f st h; simp [mtS] at h
  | .aug (.t ..) .. => by intro C L B W o X f st h; simp [mtS] at h
  | .app b0 a => by
    intro C L B W o X f st h
    cases b0 <;> try (simp [mtS] at h; done)
    rename_i i
    unfold mtS at h
    split at h
    · simp only [Bool.and_eq_true, decide_eq_true_eq] at h
      obtain ⟨⟨⟨⟨rfl, h1⟩, h2⟩, h4⟩, h5⟩ := h
      exact ps_appM f.fx h1 h2 (by simpa using h4) (sE a _ _ _ _ _ _ f.fx _ h5).1
    · cases h
  | .ext .. => by intro C L B W o X f st h; simp [mtS] at h
  | .popT .. => by intro C L B W o X f st h; simp [mtS] at h
  | .trR .. => by intro C L B W o X f st h; simp [mtS] at h
  | .frz .. => by intro C L B W o X f st h; simp [mtS] at h
theorem sH : ∀ hs : List (Nat × Option Nat × List MS), SH hs
  | [] => by
    intro C L o hds h
    unfold mtH at h
    split at h
    · rfl
    · cases h
  | (c, sl, b) :: r => by
    intro C L o hds h
    unfold mtH at h
    simp only at h
    split at h
    · simp only [Bool.and_eq_true, decide_eq_true_eq] at h
      obtain ⟨⟨⟨⟨h1, h2⟩, h3⟩, h5⟩, h6⟩ := h
      refine ⟨_, _, _, _, _, _, _, rfl, h1, h2, ?_, fun B' X' W' f' => sB b _ _ _ _ _ _ f' _ h5, sH r C L o _ h6⟩
      cases sl with
      | none =>
        simp only at h3
        split at h3
        · rfl
        · cases h3
      | some i =>
        simp only at h3
        split at h3
        · simp only [Bool.and_eq_true, decide_eq_true_eq] at h3
          exact ⟨_, rfl, h3.1, of_decide_eq_true h3.2⟩
        · cases h3
    · cases h
theorem sB : ∀ ss : List MS, SB ss
  | [] => by
    intro C L B W o X f l h
    cases l with
    | nil => exact pss_nilM
    | cons => simp [mtB] at h
  | s :: ss => by
    intro C L B W o X f l h
    unfold mtB at h
    split at h
    · exact (sB ss _ _ _ _ _ _ f _ h).imp fun D σ H h => tB_frz h
    · split at h
      · rw [Bool.and_eq_true] at h
        exact pss_consM (sS s _ _ _ _ _ _ f _ h.1) (sB ss _ _ _ _ _ _ f _ h.2)
      · cases h
end
end Mp

end
section
set_option Elab.async false
set_option linter.all false
set_option maxRecDepth 100000
set_option maxHeartbeats 4000000
/-! S23b: cells let go; the start of an `__init__`. -/
namespace Mp
open PySem PySem.Spec PyProof.Rows L2
section
variable {L : Lk} {m m0 m1 m' : List Addr} {F F0 F1 F' : Addr → Prop} {H H0 H1 H' : Hp} {st st' : Sto} {n : Nat}
mutual
theorem Rep.trim : ∀ (d : Mp.D) (v : V), noRef n d = true → Rep L m F H d v → Rep L (m.take n) F H d v
  | .non, v, _, h => by simpa [Rep] using h
  | .bl b, v, _, h => by simpa [Rep] using h
  | .int i, v, _, h => by simpa [Rep] using h
  | .str s, v, _, h => by simpa [Rep] using h
  | .tup xs, v, q, h => by
    simp only [Rep] at h ⊢
    obtain ⟨a, vs, e, hf, hr, hz⟩ := h
    exact ⟨a, vs, e, hf, RepL.trim xs vs q hr, hz⟩
  | .lst xs, v, q, h => by
    simp only [Rep] at h ⊢
    obtain ⟨a, vs, e, hf, hs, hr, hz⟩ := h
    exact ⟨a, vs, e, hf, hs, RepL.trim xs vs q hr, hz⟩
  | .dct kvs, v, q, h => by
    simp only [Rep] at h ⊢
    obtain ⟨a, ks, e, hf, hs, hr, hz⟩ := h
    exact ⟨a, ks, e, hf, hs, RepK.trim kvs ks q hr, hz⟩
  | .set xs, v, _, h => by simp only [Rep] at h
  | .obj c fs, v, q, h => by
    simp only [Rep] at h ⊢
    obtain ⟨a, dx, fv, e, hf, hs, hr⟩ := h
    exact ⟨a, dx, fv, e, hf, hs, RepF.trim fs fv q hr⟩
  | .ref k, v, q, h => by
    simp only [Rep] at h ⊢
    obtain ⟨a, e, hm⟩ := h
    have hk : k < n := of_decide_eq_true q
    exact ⟨a, e, by rw [List.getElem?_take, if_pos hk]; exact hm⟩
  | .fn f, v, _, h => by simpa [Rep] using h
  | .scr xs, v, _, h => by simpa only [Rep] using h
  | .bad, v, _, h => by simp only [Rep] at h
theorem RepL.trim : ∀ (ds : List Mp.D) (vs : List V), noRefL n ds = true → RepL L m F H ds vs → RepL L (m.take n) F H ds vs
  | [], [], _, _ => by simp only [RepL]
  | d :: ds, v :: vs, q, h => by
    simp only [RepL] at h ⊢
    rw [noRefL, Bool.and_eq_true] at q
    exact ⟨Rep.trim d v q.1 h.1, RepL.trim ds vs q.2 h.2⟩
  | [], _ :: _, _, h => by simp only [RepL] at h
  | _ :: _, [], _, h => by simp only [RepL] at h
theorem RepK.trim : ∀ (ds : List (Mp.D × Mp.D)) (vs : List (Key × V)), noRefK n ds = true → RepK L m F H ds vs → RepK L (m.take n) F H ds vs
  | [], [], _, _ => by simp only [RepK]
  | (k, d) :: ds, (q', v) :: vs, q, h => by
    simp only [RepK] at h ⊢
    rw [noRefK, Bool.and_eq_true, Bool.and_eq_true] at q
    exact ⟨h.1, Rep.trim d v q.1.2 h.2.1, RepK.trim ds vs q.2 h.2.2⟩
  | [], _ :: _, _, h => by simp only [RepK] at h
  | _ :: _, [], _, h => by simp only [RepK] at h
theorem RepF.trim : ∀ (ds : List (Nat × Mp.D)) (vs : List (Str × V)), noRefF n ds = true → RepF L m F H ds vs → RepF L (m.take n) F H ds vs
  | [], [], _, _ => by simp only [RepF]
  | (k, d) :: ds, (q', v) :: vs, q, h => by
    simp only [RepF] at h ⊢
    rw [noRefF, Bool.and_eq_true] at q
    exact ⟨h.1, Rep.trim d v q.1 h.2.1, RepF.trim ds vs q.2 h.2.2⟩
  | [], _ :: _, _, h => by simp only [RepF] at h
  | _ :: _, [], _, h => by simp only [RepF] at h
end
theorem ORep.trim {a : Addr} : ∀ {d : Mp.D}, noRef n d = true → ORep L m F H a d → ORep L (m.take n) F H a d := by
  intro d q h
  cases d <;> simp only [ORep] at h ⊢ <;> try exact h
  · obtain ⟨vs, e, r, z⟩ := h; exact ⟨vs, e, RepL.trim _ _ q r, z⟩
  · obtain ⟨vs, e, r, z⟩ := h; exact ⟨vs, e, RepK.trim _ _ q r, z⟩
  · obtain ⟨dx, fv, e, r⟩ := h; exact ⟨dx, fv, e, RepF.trim _ _ q r⟩
theorem noRefL_mem : ∀ {ds : List Mp.D} {d : Mp.D}, noRefL n ds = true → d ∈ ds → noRef n d = true
  | x :: r, d, q, h => by
    rw [noRefL, Bool.and_eq_true] at q
    rcases List.mem_cons.mp h with rfl | h
    · exact q.1
    · exact noRefL_mem q.2 h
theorem Wd.trim (w : Wd L m F st H) (q : noRefL n (st.take n) = true) : Wd L (m.take n) F (st.take n) H := by
  refine ⟨fun k d e => ?_, ?_, w.nd.sublist (List.take_sublist ..), fun a f => ⟨(w.ft a f).1, fun z => (w.ft a f).2 (List.mem_of_mem_take z)⟩⟩
  · have hm := List.mem_of_getElem? e
    rw [List.getElem?_take] at e
    split at e
    · rename_i hk
      obtain ⟨a, e1, r⟩ := w.ce k d e
      exact ⟨a, by rw [List.getElem?_take, if_pos hk]; exact e1, ORep.trim (noRefL_mem q hm) r⟩
    · cases e
  · rw [List.length_take, List.length_take, w.ln]
theorem Ext.trim (X : Ext m F H m' F' H') : Ext m F H (m'.take m.length) F' H' := by
  obtain ⟨l, e, _⟩ := X.mp
  have : m'.take m.length = m := by rw [e]; simp
  rw [this]
  exact ⟨⟨[], by simp, by simp⟩, X.fm, X.fn, X.kp, X.st, X.tr⟩
theorem XRep.trim {c : Nat} {fs : List (Nat × Mp.D)} {cls : Value} {d : Option Addr} (q : noRefF n fs = true) (h : XRep L m F H c fs cls d) : XRep L (m.take n) F H c fs cls d := by
  obtain ⟨e, h⟩ := h
  refine ⟨e, ?_⟩
  cases d with
  | none => exact h
  | some dd => obtain ⟨f, fv, e, r⟩ := h; exact ⟨f, fv, e, RepF.trim _ _ q r⟩
theorem OutRep.trim {v : Val} {x : V} (q : noRef n v.d = true) (h : OutRep L m F H H0 v x) : OutRep L (m.take n) F H H0 v x := by
  cases v with
  | dat d => exact Rep.trim _ _ q h
  | new d => obtain ⟨a, e, r, nf, nm, n0⟩ := h; exact ⟨a, e, ORep.trim q r, nf, fun z => nm (List.mem_of_mem_take z), n0⟩
  | bor d => exact h
  | xv c fs => exact h
/-- a def's own cells are let go -/
theorem PostC.trim {r : ER Val} {Q : V → Hp → Prop} {E : XK} (w : Wd L m F st H) {t : Bool} (h : PostC L m F H (Mp.trim t st.length r) Q E) : PostC L m F H r Q E := by
  unfold Mp.trim at h
  cases r with
  | ok v st1 =>
    simp only at h
    cases t with
    | false => exact h
    | true =>
      simp only [if_true] at h
      split at h
      · rename_i q
        rw [Bool.and_eq_true] at q
        intro m' F' x H' X w' r
        have X' := X.trim
        rw [w.ln] at X'
        exact h (m'.take st.length) F' x H' X' (w'.trim q.2) (r.trim q.1)
      · exact h.elim
  | ex xc st1 =>
    simp only at h
    cases t with
    | false => exact h
    | true =>
      simp only [if_true] at h
      split at h
      · rename_i q
        rw [Bool.and_eq_true] at q
        intro m' F' H' cls d X w' r
        have X' := X.trim
        rw [w.ln] at X'
        exact h (m'.take st.length) F' H' cls d X' (w'.trim q.2) (r.trim q.1)
      · exact h.elim
  | bad => exact h
/-- the start of an `__init__`: the new instance is a cell -/
theorem init_start {c : Nat} {x dx : Addr} (w : Wd L m F st H0) (hx : H0 x = none) (hdx : H0 dx = none) (hne : dx ≠ x) :
    Ext m F H0 (m ++ [x]) F (upd (upd H0 dx (.own x)) x (.ins (L.cad c) dx [])) ∧ Wd L (m ++ [x]) F (st ++ [.obj c []]) (upd (upd H0 dx (.own x)) x (.ins (L.cad c) dx [])) := by
  have S0 : Sim L ⟨m, F, H0, none⟩ m F [] st [] H0 := ⟨w, Ext.refl, fun i v e => by simp at e, rfl, fun i j a hi hj => by obtain ⟨⟨d, e⟩, _⟩ := hi; simp at e⟩
  have hx1 : (upd H0 dx (.own x)) x = none := by rw [upd_ne (Ne.symm hne)]; exact hx
  have S2 := (S0.fresh (u := .own x) hdx).fresh (u := .ins (L.cad c) dx []) hx1
  have nf : ¬ F x := fun z => (w.ft x z).1 hx
  have nm : x ∉ m := fun z => by
    obtain ⟨k, hk, e⟩ := List.mem_iff_getElem.mp z
    have hk' : k < st.length := by rw [← w.ln]; exact hk
    obtain ⟨a, e1, r⟩ := w.ce k (st[k]) (List.getElem?_eq_getElem hk')
    rw [List.getElem?_eq_getElem hk, e] at e1
    cases e1
    exact r.there hx
  have S3 := S2.cell (p := x) (d := .obj c []) ⟨dx, [], upd_same, by simp only [RepF]⟩ nf nm hx (fun i z => by obtain ⟨⟨d, e⟩, _⟩ := z; simp at e)
  exact ⟨S3.ex, S3.wd⟩
end
end Mp

end
section
set_option Elab.async false
set_option linter.all false
set_option maxRecDepth 100000
set_option maxHeartbeats 4000000
/-! S24: defs. -/
namespace Mp
open PySem PySem.Spec PyProof.Rows L2
/-- a def's text -/
structure FTx (K : PySem.W.Frag) (L : Lk) (nm : NmT) (f : Nat) (fd : FnD) (fdat : FuncData) (ps : List Str) : Prop where
  ex : ∃ (name qual : Str) (params : Arguments) (body : List Stmt) (scope : Scope) (dV kV doc pm cdv ct oc : Value) (an od : Option Addr) (osl : Array (Option Value)) (N : List Str),
    fdat = PySem.W.fnOf name qual params body scope dV kV doc pm an cdv ct ∧ K.lookup (L.fad f) = some ⟨oc, od, .func (PySem.W.fnOf name qual params body scope dV kV doc pm an cdv ct), osl⟩ ∧ PySem.W.codeIn K cdv qual = true ∧ FnScope N ps scope ∧
    mtB ⟨N, scope, nm, true, true⟩ fd.body body = true ∧ N.length = fd.nv
  np : ps.length = fd.np
  df : fd.df = []
  bd : ∀ us : List Value, us.length = ps.length → bindArgs fdat ⟨us, []⟩ = pure (ps.zip us)
/-- a law's text -/
structure LawTx (P : Program) (w : World) (K : PySem.W.Frag) (mg : Str → Option Value) (L : Lk) (p : Prog) (nm : NmT) : Prop where
  KL : L.K = K
  blt : ∀ x, x ∈ bltN → mg x = none
  fng : ∀ f x, nm.fns[f]? = some (some x) → mg x = some (.ref (L.fad f)) ∧ (p.fns[f]?).isSome = true
  fns : ∀ f fd, p.fns[f]? = some fd → PySem.W.keepIn K (.ref (L.fad f)) = true ∧ ∃ fdat ps, FTx K L nm f fd fdat ps
  oc : ∀ n c k, k ∈ (O p n).cf c → L2.Cls K (L.cad c) ∧ L2.NoAttr K (L.cad c) (L.nm k)
  mt : ∀ n c m g, (O p n).mth c m = some g → L2.Cls K (L.cad c) ∧ L2.Meth K (L.cad c) (L.nm m) (L.fad g) ∧ (p.fns[g]?).isSome = true
  mkc : ∀ c, nm.mks.contains c = true → ∃ k g fd, p.cls[c]? = some k ∧ k.ini = some g ∧ p.fns[g]? = some fd ∧ L2.Mk K (L.cad c) (L.fad g)
  cl : ∀ c x, nm.cls[c]? = some x → mg x = some (.ref (L.cad c))
  xk : ∀ n c, ((O p n).sup c).contains c = true → XcOk K L (O p n) nm.cls.length c
  xf : ∀ n c k, k ∈ (O p n).flds c → ((O p n).sup c).contains c = true
  fi : ∀ j k, L.nm j = L.nm k → j = k
  nmf : ∀ k y, nm.flds[k]? = some y → L.nm k = y
  eq : ∀ n c g, (O p n).eqm c = some g → L2.EqK K (L.cad c) (L.fad g) ∧ (p.fns[g]?).isSome = true
  con : ∀ (c : Nat) (x : Str), nm.con[c]? = some x → ∃ (u : Value) (d : Mp.D) (v : V), mg x = some u ∧ p.con[c]? = some d ∧ RelV v u ∧ ∀ (m : List Addr) (F : Addr → Prop) (H : Hp), Rep L m F H d v
  xfm : nm.kwx = true → ∀ n c x base A, nm.cls[c]? = some x → RoomG 0 A → XfM P w K mg base A L (O p n) c x
  mkx : ∀ n c x base A, nm.cls[c]? = some x → ((O p n).sup c).contains c = true → nm.ar[c]? = some ((O p n).flds c).length → RoomG 0 A → XcM P w K mg base A L (O p n) c x
  ar : ∀ n c k, k < 1000 → nm.ar[c]? = some k → ((O p n).flds c).length = k
  em : ∀ n c' c x, nm.cls[c]? = some x → ((O p n).sup c').contains c' = true → PySem.W.exmOne K (.ref (L.cad c')) (.ref (L.cad c)) = some (((O p n).sup c').contains c)
section
variable {P : Program} {w : World} {K : PySem.W.Frag} {mg : Str → Option Value} {L : Lk} {p : Prog} {nm : NmT}
theorem callN_len {n f : Nat} {fd : FnD} (h : p.fns[f]? = some fd) (hd : fd.df = []) {ds : List D} {st : Sto} (hb : callN p n false f ds st ≠ .bad) : ds.length = fd.np := by
  cases n with
  | zero => rw [callN] at hb; exact absurd rfl hb
  | succ n =>
    rw [callN, h] at hb
    simp only at hb
    cases e : envOf fd (ds.map .dat) with
    | none => rw [e] at hb; exact absurd rfl hb
    | some E =>
      unfold envOf at e
      split at e
      · rename_i hl
        rw [hd] at hl
        simp at hl
        omega
      · cases e
theorem sim_start {m : List Addr} {F : Addr → Prop} {H : Hp} {st : Sto} {N : List Str} {ds : List D} {vs : List V} {k : Nat} (w : Wd L m F st H) (r : RepL L m F H ds vs) (hl : vs.length + k = N.length) :
    Sim L ⟨m, F, H, none⟩ m F (ds.map (fun d => some (Val.dat d)) ++ List.replicate k none) st (L2.start N vs) H := by
  have hlen := r.len
  refine ⟨w, Ext.refl, fun i v e => ?_, by simp [L2.start]; omega, fun i j a hi hj => ?_⟩
  · by_cases hi : i < ds.length
    · rw [List.getElem?_append_left (by simpa using hi), List.getElem?_map] at e
      cases ed : ds[i]? with
      | none => rw [ed] at e; cases e
      | some d =>
        rw [ed] at e
        cases e
        obtain ⟨x, ex, rx⟩ := r.get ed
        refine ⟨x, ?_, rx⟩
        unfold L2.start
        rw [List.getElem?_append_left (by simp; omega), List.getElem?_map, ex]
        rfl
    · rw [List.getElem?_append_right (by simpa using hi), List.getElem?_replicate] at e
      split at e <;> cases e
  · obtain ⟨⟨d, e⟩, _⟩ := hi
    by_cases hi : i < ds.length
    · rw [List.getElem?_append_left (by simpa using hi), List.getElem?_map] at e
      cases ed : ds[i]? with
      | none => rw [ed] at e; cases e
      | some d => rw [ed] at e; cases e
    · rw [List.getElem?_append_right (by simpa using hi), List.getElem?_replicate] at e
      split at e <;> cases e
theorem callM_len {n c g : Nat} {k : Cls} {fd : FnD} (hk : p.cls[c]? = some k) (hg : k.ini = some g) (h : p.fns[g]? = some fd) (hd : fd.df = []) {ds : List D} {st : Sto} (hb : callN p n true c ds st ≠ .bad) : ds.length + 1 = fd.np := by
  cases n with
  | zero => rw [callN] at hb; exact absurd rfl hb
  | succ n =>
    rw [callN, hk] at hb
    simp only [hg, h] at hb
    cases e : envOf fd (.dat (.ref st.length) :: ds.map .dat) with
    | none => rw [e] at hb; exact absurd rfl hb
    | some E =>
      unfold envOf at e
      split at e
      · rename_i hl
        rw [hd] at hl
        simp at hl
        omega
      · cases e
abbrev fnSp (L : Lk) (p : Prog) (n f : Nat) (ps : List Str) : Sp := fun vs H Q E => vs.length = ps.length ∧ spM L (callN p n false f) vs H Q E
abbrev inSp (L : Lk) (p : Prog) (n c : Nat) (ps : List Str) : Sp := fun vs H Q E => vs.length = ps.length ∧ spI L c (callN p n true c) vs H Q E
/-- what is known of the level below -/
structure Lev (P : Program) (w : World) (K : PySem.W.Frag) (mg : Str → Option Value) (L : Lk) (p : Prog) (nm : NmT) (base : Heap) (n : Nat) : Prop where
  fn : ∀ f fd fdat ps, p.fns[f]? = some fd → FTx K L nm f fd fdat ps → FnG P w K mg base (L2N.CX P w) (2 * n) (L.fad f) fdat ps (fnSp L p n f ps)
  ini : ∀ c k g fd fdat ps, p.cls[c]? = some k → k.ini = some g → p.fns[g]? = some fd → FTx K L nm g fd fdat ps → FnG P w K mg base (L2N.CX P w) (2 * n) (L.fad g) fdat ps (inSp L p n c ps)
theorem sx_of (T : LawTx P w K mg L p nm) {n : Nat} {base : Heap} (ih : Lev P w K mg L p nm base n) {N : List Str} {ps : List Str} {scope : Scope} (S : FnScope N ps scope) {qual : Str} {f : Addr} {cdv : Value} {A : Around} {outer : List PySem.Env} {s : Shared} {H : Hp} {E : XK} {m : List Addr} {F : Addr → Prop} {HB : Hp}
    (hr : RoomG (2 * n) (A.deeper (envOfC qual scope s.heap.objs.size f cdv))) (hr1 : RoomG (2 * n + 1) (A.deeper (envOfC qual scope s.heap.objs.size f cdv))) : Sx ⟨N, scope, nm, true, true⟩ L (O p n) ⟨m, F, HB, none⟩ (cxOf (L2N.CX P w) P w K mg base N qual scope f cdv A outer s H E) (fun cls d _ H' => E cls d H') := by
  refine ⟨⟨T.KL, (show (A.deeper (envOfC qual scope s.heap.objs.size f cdv)).units + 66 < cLine by have := hr.r.un; omega), hr.g, rfl, S.nd, rfl, fun _ => rfl, fun _ _ => rfl, ?_, T.blt, fun _ g hx => ?_, fun g x hx => T.fng g x hx, fun c k hk => T.oc n c k hk, fun c m g hg => T.mt n c m g hg, fun _ c hc => ?_, fun _ => rfl, (fun q e => by cases e), T.cl, T.xk n, T.xf n, T.fi, T.nmf, fun c g hg => T.eq n c g hg, T.con, fun h1 _ _ c x hx => T.xfm h1 n c x base _ hx (hr.mono (Nat.zero_le _))⟩, S.kind, ?_, rfl, rfl, fun _ c x hx hs hq => T.mkx n c x base _ hx hs hq (hr.mono (Nat.zero_le _)), T.ar n, T.em n⟩
  · exact L2N.takes_of (X := cxOf (L2N.CX P w) P w K mg base N qual scope f cdv A outer s H E) rfl rfl rfl rfl
  · cases h3 : p.fns[g]? with
    | none => have hx : (p.fns[g]?).isSome = true := hx; rw [h3] at hx; cases hx
    | some gd =>
      obtain ⟨h2, gdat, gps, gt⟩ := T.fns g gd h3
      exact ⟨h2, 2 * n, gdat, gps, hr1, ih.fn g gd gdat gps h3 gt, Binds.all gt.bd, fun ds st hb => by rw [callN_len h3 gt.df hb, gt.np]⟩
  · obtain ⟨k, g, fd, e1, e2, e3, M⟩ := T.mkc c hc
    obtain ⟨h2, gdat, gps, gt⟩ := T.fns g fd e3
    exact ⟨L.fad g, M, 2 * n, gdat, gps, hr1, ih.ini c k g fd gdat gps e1 e2 e3 gt, Binds.all gt.bd, fun ds st hb => by rw [callM_len e1 e2 e3 gt.df hb, gt.np]⟩
  · exact passes_of (X := cxOf (L2N.CX P w) P w K mg base N qual scope f cdv A outer s H E) rfl
theorem env_of {fd : FnD} {ps : List Str} {vs : List Val} (np : ps.length = fd.np) (df : fd.df = []) (hl : vs.length = ps.length) : envOf fd vs = some (vs.map some ++ List.replicate (fd.nv - fd.np) none) := by
  unfold envOf
  rw [if_pos (by rw [df]; simp; omega), df]
  simp
theorem fn_step (T : LawTx P w K mg L p nm) (n : Nat) (base : Heap) (ih : Lev P w K mg L p nm base n)
    (f : Nat) (fd : FnD) (fdat : FuncData) (ps : List Str) (hf : p.fns[f]? = some fd) (t : FTx K L nm f fd fdat ps) : FnG P w K mg base (L2N.CX P w) (2 * (n + 1)) (L.fad f) fdat ps (fnSp L p (n + 1) f ps) := by
  obtain ⟨name, qual, params, body, scope, dV, kV, doc, pm, cdv, ct, oc, an, od, osl, N, rfl, hlk, hcd, S, hmt, hnv⟩ := t.ex
  show FnG P w K mg base (L2N.CX P w) (2 * n + 1 + 1) (L.fad f) _ ps _
  refine fnG_of hlk hcd S (fun vs H Q E h => h.1) (fun A outer s H vs Q E hr ⟨hl, m, F, st, ds, wd, rl, hp⟩ => ?_)
  have sx := sx_of (outer := outer) (H := H) (E := E) (m := m) (F := F) (HB := H) T ih S (hr.mono (by omega)) hr
  refine ⟨_, sB fd.body _ _ _ _ _ _ sx body hmt, ?_⟩
  rw [callN, hf] at hp
  simp only at hp
  have henv := env_of (fd := fd) (ps := ps) (vs := ds.map .dat) t.np t.df (by rw [List.length_map, rl.len, hl])
  rw [henv] at hp
  have hnl : ps.length ≤ N.length := by have := congrArg List.length S.pre; rw [List.length_take] at this; omega
  have em : (ds.map Val.dat).map some = ds.map (fun d => some (Val.dat d)) := by simp [Function.comp_def]
  rw [em] at hp
  refine ⟨m, F, _, st, sim_start (k := fd.nv - fd.np) wd rl (by rw [hl, hnv]; have := t.np; omega), ?_⟩
  have hp := PostC.trim wd hp
  unfold runF at hp
  cases e : exB (O p n) fd.body (ds.map (fun d => some (Val.dat d)) ++ List.replicate (fd.nv - fd.np) none) st with
  | nx E1 st1 =>
    rw [e] at hp
    exact fun m' F' σ' H' M1 (S1 : Sim L ⟨m, F, H, none⟩ m' F' E1 st1 σ' H') => hp m' F' .non H' S1.ex S1.wd (by simp [OutRep, Rep])
  | rt v st1 =>
    rw [e] at hp
    exact fun m' F' x H' w1 X1 r => hp m' F' x H' X1 w1 r
  | ex xc E1 st1 =>
    rw [e] at hp
    exact fun m' F' σ' H' cls d M1 (S1 : Sim L ⟨m, F, H, none⟩ m' F' E1 st1 σ' H') r => hp m' F' H' cls d S1.ex S1.wd r
  | bk E1 st1 => rw [e] at hp; exact hp.elim
  | ct E1 st1 => rw [e] at hp; exact hp.elim
  | bad => rw [e] at hp; exact hp.elim
theorem ini_step (T : LawTx P w K mg L p nm) (n : Nat) (base : Heap) (ih : Lev P w K mg L p nm base n)
    (c : Nat) (k : Cls) (f : Nat) (fd : FnD) (fdat : FuncData) (ps : List Str) (hc : p.cls[c]? = some k) (hk : k.ini = some f) (hf : p.fns[f]? = some fd) (t : FTx K L nm f fd fdat ps) : FnG P w K mg base (L2N.CX P w) (2 * (n + 1)) (L.fad f) fdat ps (inSp L p (n + 1) c ps) := by
  obtain ⟨name, qual, params, body, scope, dV, kV, doc, pm, cdv, ct, oc, an, od, osl, N, rfl, hlk, hcd, S, hmt, hnv⟩ := t.ex
  show FnG P w K mg base (L2N.CX P w) (2 * n + 1 + 1) (L.fad f) _ ps _
  refine fnG_of hlk hcd S (fun vs H Q E h => h.1) (fun A outer s H vs Q E hr ⟨hl, m, F, H0, st, ds, x, dx, vs', evs, wd, rl, hx, hdx, hne, eH, hp⟩ => ?_)
  subst evs eH
  have sx := sx_of (outer := outer) (H := upd (upd H0 dx (.own x)) x (.ins (L.cad c) dx [])) (E := E) (m := m ++ [x]) (F := F) (HB := upd (upd H0 dx (.own x)) x (.ins (L.cad c) dx [])) T ih S (hr.mono (by omega)) hr
  refine ⟨_, sB fd.body _ _ _ _ _ _ sx body hmt, ?_⟩
  rw [callN, hc] at hp
  simp only [hk, hf] at hp
  have henv := env_of (fd := fd) (ps := ps) (vs := .dat (.ref st.length) :: ds.map .dat) t.np t.df (by rw [List.length_cons, List.length_map, rl.len, ← hl, List.length_cons])
  rw [henv] at hp
  have em : (Val.dat (.ref st.length) :: ds.map Val.dat).map some = (Mp.D.ref st.length :: ds).map (fun d => some (Val.dat d)) := by simp [Function.comp_def]
  rw [em] at hp
  have hp : PostM L m F (upd (upd H0 dx (.own x)) x (.ins (L.cad c) dx [])) H0 x (finI k.cel st.length (exB (O p n) fd.body ((Mp.D.ref st.length :: ds).map (fun d => some (Val.dat d)) ++ List.replicate (fd.nv - fd.np) none) (st ++ [.obj c []]))) Q E := hp
  obtain ⟨X1, w1⟩ := init_start (L := L) (c := c) (st := st) wd hx hdx hne
  have rl1 : RepL L (m ++ [x]) F (upd (upd H0 dx (.own x)) x (.ins (L.cad c) dx [])) (.ref st.length :: ds) (.ref x :: vs') := by
    simp only [RepL]
    refine ⟨?_, RepL.mono X1.mono _ _ rl⟩
    simp only [Rep]
    exact ⟨x, rfl, by rw [← wd.ln]; simp⟩
  have hnl : ps.length ≤ N.length := by have := congrArg List.length S.pre; rw [List.length_take] at this; omega
  refine ⟨m ++ [x], F, _, st ++ [.obj c []], sim_start (k := fd.nv - fd.np) w1 rl1 (by rw [hl, hnv]; have := t.np; omega), ?_⟩
  have hxm : ∀ {m' : List Addr} {F' : Addr → Prop} {H' : Hp}, Ext (m ++ [x]) F (upd (upd H0 dx (.own x)) x (.ins (L.cad c) dx [])) m' F' H' → m'[st.length]? = some x := fun X => X.mono.mp _ _ (by rw [← wd.ln]; simp)
  have tk : ∀ {m' : List Addr} {F' : Addr → Prop} {H' : Hp}, Ext m F H0 m' F' H' → Ext m F H0 (m'.take st.length) F' H' := fun X => by have z := X.trim; rw [wd.ln] at z; exact z
  cases e : exB (O p n) fd.body ((Mp.D.ref st.length :: ds).map (fun d => some (Val.dat d)) ++ List.replicate (fd.nv - fd.np) none) (st ++ [.obj c []]) with
  | nx E1 st1 =>
    rw [e] at hp
    intro m' F' σ' H' M1 (S1 : Sim L ⟨m ++ [x], F, _, none⟩ m' F' E1 st1 σ' H')
    have Xa := X1.trans S1.ex
    have hxa := hxm S1.ex
    unfold finI at hp
    simp only at hp
    cases ec : k.cel with
    | true =>
      rw [ec] at hp
      exact hp m' F' H' Xa S1.wd (by simp only [OutRep, Rep]; exact ⟨x, rfl, hxa⟩)
    | false =>
      rw [ec] at hp
      simp only [Bool.false_eq_true, if_false] at hp
      cases ed : st1[st.length]? with
      | none => rw [ed] at hp; exact hp.elim
      | some d =>
        rw [ed] at hp
        simp only at hp
        split at hp
        · rename_i q
          rw [Bool.and_eq_true] at q
          obtain ⟨a, ea, ro⟩ := S1.wd.ce _ _ ed
          rw [hxa] at ea; cases ea
          refine hp (m'.take st.length) F' H' (tk Xa) (S1.wd.trim q.2) ⟨x, rfl, ORep.trim q.1 ro, fun z => (S1.wd.ft x z).2 (List.mem_of_getElem? hxa), fun z => ?_, hx⟩
          obtain ⟨i, hi, ei⟩ := List.mem_iff_getElem.mp z
          rw [List.length_take] at hi
          rw [List.getElem_take] at ei
          have hlt : st.length < m'.length := (List.getElem?_eq_some_iff.mp hxa).1
          have e2 : m'[st.length] = x := (List.getElem?_eq_some_iff.mp hxa).2
          have := (List.getElem_inj (xs := m') (h₀ := by omega) (h₁ := hlt) S1.wd.nd).mp (ei.trans e2.symm)
          omega
        · exact hp.elim
  | rt v st1 => rw [e] at hp; exact hp.elim
  | ex xc E1 st1 =>
    rw [e] at hp
    intro m' F' σ' H' cls d M1 (S1 : Sim L ⟨m ++ [x], F, _, none⟩ m' F' E1 st1 σ' H') r
    have Xa := X1.trans S1.ex
    unfold finI at hp
    simp only at hp
    split at hp
    · rename_i q
      rw [Bool.and_eq_true] at q
      exact hp (m'.take st.length) F' H' cls d (tk Xa) (S1.wd.trim q.2) (r.trim q.1)
    · exact hp.elim
  | bk E1 st1 => rw [e] at hp; exact hp.elim
  | ct E1 st1 => rw [e] at hp; exact hp.elim
  | bad => rw [e] at hp; exact hp.elim
theorem lev0 (base : Heap) : Lev P w K mg L p nm base 0 :=
  ⟨fun f fd fdat ps hf t => ⟨fun vs H Q E h => h.1, fun A outer s H args us vs Q E _ _ _ _ ⟨_, m, F, st, ds, _, _, hp⟩ => by rw [callN] at hp; exact hp.elim⟩,
   fun c k g fd fdat ps hc hk hf t => ⟨fun vs H Q E h => h.1, fun A outer s H args us vs Q E _ _ _ _ ⟨_, m, F, H0, st, ds, x, dx, vs', _, _, _, _, _, _, _, hp⟩ => by rw [callN] at hp; exact hp.elim⟩⟩
theorem lev_all (T : LawTx P w K mg L p nm) (base : Heap) : ∀ n, Lev P w K mg L p nm base n
  | 0 => lev0 base
  | n + 1 => ⟨fun f fd fdat ps hf t => fn_step T n base (lev_all T base n) f fd fdat ps hf t, fun c k f fd fdat ps hc hk hf t => ini_step T n base (lev_all T base n) c k f fd fdat ps hc hk hf t⟩
theorem fn_all (T : LawTx P w K mg L p nm) (base : Heap) (n f : Nat) (fd : FnD) (fdat : FuncData) (ps : List Str) (hf : p.fns[f]? = some fd) (t : FTx K L nm f fd fdat ps) :
    FnG P w K mg base (L2N.CX P w) (2 * n) (L.fad f) fdat ps (fun vs H Q E => vs.length = ps.length ∧ spM L (callN p n false f) vs H Q E) := (lev_all T base n).fn f fd fdat ps hf t
end
end Mp

end
section
set_option Elab.async false
set_option linter.all false
set_option maxRecDepth 100000
set_option maxHeartbeats 4000000
/-! S25: an own exception whose __init__ says super().__init__(..) and stores its fields. -/
namespace PySem
namespace MpX
open PySem.W PySem.Calls PyProof.Rows PySem.HandSPX
def namesB : List Str → List Expr → Bool
  | [], es => match es with | [] => true | _ => false
  | n :: ns, es => match es with | .Name x _ :: r => decide (x = n) && namesB ns r | _ => false
def asgsB : List Str → List Stmt → Bool
  | [], ss => match ss with | [] => true | _ => false
  | n :: ns, ss => match ss with | .Assign [.Attribute (.Name s _) a _] (.Name x _) _ :: r => decide (s = ("self" : Str)) && decide (a = n) && decide (x = n) && asgsB ns r | _ => false
def initB (ns : List Str) : List Stmt → Bool
  | .Expr (.Call (.Attribute (.Call (.Name s _) [] [] _) i ap) args [] cp) _ :: r => decide (s = ("super" : Str)) && decide (i = ("__init__" : Str)) && !args.isEmpty && decide (ap.endLine = cp.line) && decide (args.length < 20) && namesB ns args && asgsB ns r
  | _ => false
/-- a local name of the frame -/
structure Loc (env : Env) (h : Heap) (m : Str → Option Value) (L : Addr) : Prop where
  k : env.scope.kind = .function
  e : env.locals = L
  n : h.Ns L m
section
variable {prog : Program} {w : World} {A : Around} {E : Value → Shared → Prop} {s : Shared} {env : Env} {m : Str → Option Value} {L : Addr}
theorem name_ev {x : Str} {v : Value} {p : Pos} {Q : Value → Shared → Prop} (l : Loc env s.heap m L) (hl : env.kindOf x = some .local) (hd : (x == ("__debug__" : Str)) = false) (hm : m x = some v) (h : Q v s) : wpAny (model prog w) A (eval (.Name x p) env) Q E s :=
  wpAny_Name (wpAny_loadName_local l.k hl (by rw [l.e]; exact l.n) hm h) hd
theorem names_ev {pos : Pos} : ∀ {ns : List Str} {es : List Expr} {vs : List Value} {Q : List Value → Shared → Prop}, namesB ns es = true → vs.length = ns.length → Loc env s.heap m L → (∀ n ∈ ns, env.kindOf n = some .local ∧ (n == ("__debug__" : Str)) = false) →
    (∀ (i : Nat) (n : Str) (v : Value), ns[i]? = some n → vs[i]? = some v → m n = some v) → Q vs s → wpAny (model prog w) A (spliced (backTo pos (starEach es env))) Q E s
  | [], [], [], Q, _, _, _, _, _, h => spliced_nil h
  | [], _ :: _, _, _, hb, _, _, _, _, _ => by simp [namesB] at hb
  | [], [], _ :: _, _, _, hl, _, _, _, _ => by cases hl
  | n :: ns, es, vs, Q, hb, hl, l, hk, hm, h => by
    cases es with
    | nil => simp [namesB] at hb
    | cons e es =>
      cases e <;> simp only [namesB, Bool.and_eq_true, decide_eq_true_eq] at hb <;> try contradiction
      rename_i x p
      obtain ⟨rfl, hb⟩ := hb
      cases vs with
      | nil => cases hl
      | cons v vs =>
        show wpAny _ _ (spliced ((false, eval (.Name x p) env) :: backTo pos (starEach es env))) _ _ s
        refine spliced_cons (name_ev l (hk x List.mem_cons_self).1 (hk x List.mem_cons_self).2 (hm 0 x v rfl rfl) ?_)
        exact names_ev hb (by simpa using hl) l (fun n hn => hk n (List.mem_cons_of_mem _ hn)) (fun i n v h1 h2 => hm (i + 1) n v h1 h2) h
theorem names_plain {pos : Pos} : ∀ {ns : List Str} {es : List Expr}, namesB ns es = true → (backTo pos (starEach es env)).all (!·.1) = true ∧ (backTo pos (starEach es env)).any (·.1) = false
  | [], [], _ => ⟨rfl, rfl⟩
  | [], _ :: _, h => by simp [namesB] at h
  | n :: ns, es, h => by
    cases es with
    | nil => simp [namesB] at h
    | cons e es =>
      cases e <;> simp only [namesB, Bool.and_eq_true, decide_eq_true_eq] at h <;> try contradiction
      rename_i x p
      obtain ⟨h1, h2⟩ := names_plain (pos := pos) h.2
      constructor
      · show ((!false) && (backTo pos (starEach es env)).all (!·.1)) = true
        rw [h1]; rfl
      · show (false || (backTo pos (starEach es env)).any (·.1)) = false
        rw [h2]; rfl
theorem he_super {o : Expr} {name : Str} {ap cp : Pos} {args : List Expr} {ns : List Str} (hline : ap.endLine = cp.line) (hfew : args.length < 20) (hn : namesB ns args = true) : eval (.Call (.Attribute o name ap) args [] cp) env = (do
      let ov ← attributeBase o name env (eval o env)
      standAt ap.atName
      let (f, first) ← holding [ov] (getMethod ov name (do return (← importBound o env).getD true))
      callWith cp f first (backTo cp (starEach args env)) []) := by
  have hform : methodCallForm (args.length + ([] : List Keyword).length) (backTo cp (starEach args env)) (backToKw cp (keywordEach [] env)) = true := by
    unfold methodCallForm
    rw [(names_plain hn).1]
    show (true && true && decide (args.length + 0 + 0 < 30)) = true
    simp; omega
  have hpos : methodCallPos true o env ap cp = pure cp := by unfold methodCallPos; simp [hline]
  rw [arm_eval_Call]
  unfold methodCall
  simp only [hform, hpos, calleeOf, if_true, pure_bind]
  rfl
/-- a field's value in a chain of stores -/
def putM (n : Str) (v : Value) (m0 : Str → Option Value) : Str → Option Value := fun y => if y = n then some v else m0 y
def putAll : List Str → List Value → (Str → Option Value) → Str → Option Value
  | n :: ns, v :: vs, m0 => putAll ns vs (putM n v m0)
  | _, _, m0 => m0
abbrev excD (C t : Addr) (dx : Addr) : Obj := { cls := .ref C, dict := some dx, data := .fields #[.ref t, .none, .none, .none, .bool false, .none] }
/-- the later fields -/
theorem asgs_old {K : Frag} {C x dx t1 : Addr} {cd : ClassData} (hcd : clsIn K C = some cd) (hm : refsVE cd.mro = true) (hh : cd.hasDict = true) (sa : findIn K (.ref C) "__setattr__" = some (some (.builtin "object.__setattr__"))) (hxL : x ≠ L) (hnx : K.lookup x = none) (hLd : L ≠ dx) (hxd : x ≠ dx) (hKd : ∀ o, K.lookup dx = some o → False) :
    ∀ {ns : List Str} {ss : List Stmt} {vs : List Value} {s : Shared} {m0 : Str → Option Value} {nl : List Str} {Q : Flow → Shared → Prop}, asgsB ns ss = true → vs.length = ns.length → K.In s.heap → s.heap.get? x = some (excD C t1 dx) → s.heap.Ns1 dx m0 → Within m0 nl → nl.length + ns.length ≤ 1000 → Loc env s.heap m L →
      env.kindOf ("self" : Str) = some .local → m ("self" : Str) = some (.ref x) → (∀ n ∈ ns, env.kindOf n = some .local ∧ (n == ("__debug__" : Str)) = false ∧ findIn K (.ref C) n = some none) → (∀ (i : Nat) (n : Str) (v : Value), ns[i]? = some n → vs[i]? = some v → m n = some v) →
      (∀ h' tk, (∀ b o, b ≠ dx → s.heap.get? b = some o → h'.get? b = some o) → h'.Ns1 dx (putAll ns vs m0) → Q .next { s with heap := h', toks := tk }) → wpAny (model prog w) A (execs ss env) Q E s
  | [], [], [], s, m0, nl, Q, _, _, X, hx, hn, _, _, _, _, _, _, _, h => wpAny_execs_nil (by
      have := h s.heap s.toks (fun _ _ _ e => e) hn
      exact this)
  | [], _ :: _, _, _, _, _, _, hb, _, _, _, _, _, _, _, _, _, _, _, _ => by simp [asgsB] at hb
  | [], [], _ :: _, _, _, _, _, _, hl, _, _, _, _, _, _, _, _, _, _, _ => by cases hl
  | n :: ns, ss, vs, s, m0, nl, Q, hb, hl, X, hx, hn, hw, hz, l, hs, hms, hk, hv, h => by
    cases ss with
    | nil => simp [asgsB] at hb
    | cons st ss =>
      unfold asgsB at hb
      split at hb
      · rename_i heq
        cases heq
        simp only [Bool.and_eq_true, decide_eq_true_eq] at hb
        obtain ⟨⟨⟨rfl, rfl⟩, e3⟩, hb⟩ := hb
        subst e3
        cases vs with
        | nil => cases hl
        | cons v vs =>
          obtain ⟨oD, esD, epD, hoD, hdD, _⟩ := hn.count hw
          refine wpAny_execs_cons (plainObj_wpAny_Assign_Attribute ?_)
          refine name_ev l (hk _ List.mem_cons_self).1 (hk _ List.mem_cons_self).2.1 (hv 0 _ v rfl rfl) (name_ev l hs (by decide +kernel) hms ?_)
          refine set_plain X (ox := excD C t1 dx) (od := some oD) ⟨hx, rfl, rfl, hoD⟩ sa ?_
          refine OEX.osa_old X hx hn hw (by simp at hz; omega) hcd hm hh (hk _ List.mem_cons_self).2.2 (fun h' tk' k hn' => ?_)
          show wpAny _ _ (execs _ _) _ _ _
          refine asgs_old hcd hm hh sa hxL hnx hLd hxd hKd (s := { s with heap := h', toks := tk' }) (nl := _ :: nl) hb (by simpa using hl) (fun a o e => k a o (fun z => hKd o (z ▸ e)) (X a o e)) (k _ _ hxd hx) hn' (Within.cons _ v hw) (by simp at hz ⊢; omega) ⟨l.k, l.e, l.n.at fun o q => k _ _ hLd q⟩ hs hms (fun n hn => hk n (List.mem_cons_of_mem _ hn)) (fun i n v h1 h2 => hv (i + 1) n v h1 h2) fun h2 tk2 k2 n2 => ?_
          exact h h2 tk2 (fun b o hb e => k2 b o hb (k b o hb e)) n2
      · cases hb
/-- all fields, from an exception without a dict -/
theorem asgs_new {K : Frag} {C x t1 : Addr} {cd : ClassData} (hcd : clsIn K C = some cd) (hm : refsVE cd.mro = true) (hh : cd.hasDict = true) (sa : findIn K (.ref C) "__setattr__" = some (some (.builtin "object.__setattr__"))) (hxL : x ≠ L) (hnx : K.lookup x = none)
    {ns : List Str} {ss : List Stmt} {vs : List Value} {s : Shared} {Q : Flow → Shared → Prop} (hne : ns ≠ []) (hb : asgsB ns ss = true) (hl : vs.length = ns.length) (X : K.In s.heap) (hx : s.heap.get? x = some (excO C t1)) (hz : ns.length ≤ 900) (l : Loc env s.heap m L)
    (hs : env.kindOf ("self" : Str) = some .local) (hms : m ("self" : Str) = some (.ref x)) (hk : ∀ n ∈ ns, env.kindOf n = some .local ∧ (n == ("__debug__" : Str)) = false ∧ findIn K (.ref C) n = some none) (hv : ∀ (i : Nat) (n : Str) (v : Value), ns[i]? = some n → vs[i]? = some v → m n = some v)
    (h : ∀ h' tk dx, (∀ b o, b ≠ x → s.heap.get? b = some o → h'.get? b = some o) → s.heap.objs.size ≤ dx → dx ≠ x → h'.get? x = some (excD C t1 dx) → h'.Ns1 dx (putAll ns vs fun _ => none) → Q .next { s with heap := h', toks := tk }) : wpAny (model prog w) A (execs ss env) Q E s := by
  cases ns with
  | nil => exact absurd rfl hne
  | cons n ns =>
    cases ss with
    | nil => simp [asgsB] at hb
    | cons st ss =>
      unfold asgsB at hb
      split at hb
      · rename_i heq
        cases heq
        simp only [Bool.and_eq_true, decide_eq_true_eq] at hb
        obtain ⟨⟨⟨rfl, rfl⟩, e3⟩, hb⟩ := hb
        subst e3
        cases vs with
        | nil => cases hl
        | cons v vs =>
          refine wpAny_execs_cons (plainObj_wpAny_Assign_Attribute ?_)
          refine name_ev l (hk _ List.mem_cons_self).1 (hk _ List.mem_cons_self).2.1 (hv 0 _ v rfl rfl) (name_ev l hs (by decide +kernel) hms ?_)
          refine set_plain X (ox := excO C t1) (od := none) ⟨hx, rfl, rfl, trivial⟩ sa ?_
          refine exc_osa X hx hcd hm hh (hk _ List.mem_cons_self).2.2 (fun h' tk' dx k dn dne hx' hn' => ?_)
          show wpAny _ _ (execs _ _) _ _ _
          have hsz : L < s.heap.objs.size := l.n.lt
          have hKd : ∀ o, K.lookup dx = some o → False := fun o e => absurd (Heap.lt_size (X _ _ e)) (Nat.not_lt.mpr dn)
          refine asgs_old hcd hm hh sa hxL hnx (Nat.ne_of_lt (Nat.lt_of_lt_of_le hsz dn)) (Ne.symm dne) hKd (s := { s with heap := h', toks := tk' }) (nl := [_]) hb (by simpa using hl) (fun a o e => k a o (fun z => by rw [z, hnx] at e; cases e) (X a o e)) hx' hn' (Within.cons _ v Within.nil) (by simp at hz ⊢; omega) ⟨l.k, l.e, l.n.at fun o q => k _ _ (Ne.symm hxL) q⟩ hs hms (fun n hn => hk n (List.mem_cons_of_mem _ hn)) (fun i n v h1 h2 => hv (i + 1) n v h1 h2) fun h2 tk2 k2 n2 => ?_
          exact h h2 tk2 dx (fun b o hb e => k2 b o (fun z => absurd (Heap.lt_size e) (by rw [z]; exact Nat.not_lt.mpr dn)) (k b o hb e)) dn dne (k2 _ _ (Ne.symm dne) hx') n2
      · cases hb
end
/-- arguments: by position, by names in order, by names the other way -/
def ArgsOk (ns : List Str) (x : Value) (vs : List Value) (a : Args) : Prop := a = ⟨x :: vs, []⟩ ∨ a = ⟨[x], ns.zip vs⟩ ∨ a = ⟨[x], ns.reverse.zip vs.reverse⟩
/-- what the written part says of such a class and its __init__ -/
structure SiT (P : Program) (K : Frag) (C fI : Addr) (ns : List Str) : Prop where
  cls : ∃ nm q N bs bm sn sub ab col dd k0 k1 k2 k3 k5, K.lookup C = some (excClassObj nm q C N bs bm true sn sub ab col dd k0 k1 k2 k3 k5 "ValueError.__new__") ∧ refsVE bm = true
  sa : findIn K (.ref C) "__setattr__" = some (some (.builtin "object.__setattr__"))
  iC : findIn K (.ref C) "__init__" = some (some (.ref fI))
  tC : typeIn K (.ref fI) = some (.type "function")
  kC : keepIn K (.ref C) = true
  exC : subIn K (.ref C) (.type "BaseException") = some true
  vE : subIn K (.ref C) (.type "ValueError") = some true
  sC : mroIn K C (.ref C) = some true
  tyC : typeIn K (.ref C) = some (.type "type")
  sup : ks_superIn K C C "__init__" = some (some (.builtin "ValueError.__init__"))
  op : nsIn K cStatics "thirdparty.any" = some none
  ne : ns ≠ []
  nd : (("self" : Str) :: ns).Nodup
  ln : ns.length ≤ 900
  nm : ∀ n ∈ ns, (n == ("__debug__" : Str)) = false ∧ findIn K (.ref C) n = some none
  fn : ∃ (oc : Value) (od : Option Addr) (qual : Str) (params : Arguments) (body : List Stmt) (scope : Scope) (doc pm : Value) (an : Option Addr) (cda cc : Addr) (ct : Value) (osl : Array (Option Value)) (ccl : Value) (cdd : Option Addr) (vs : Array Value) (ccs : Array (Option Value)) (file : Str) (tf : Tok) (cl : Value) (cld : Option Addr) (csl : Array (Option Value)) (ar : Arg),
    K.lookup fI = some ⟨oc, od, .func (ksFn "__init__" qual params body scope .none .none doc pm an (.ref cda) ct cc), osl⟩ ∧ codeIn K (.ref cda) qual = true ∧ initB ns body = true ∧
    (∀ us : List Value, us.length = ns.length + 1 → bindArgs (ksFn "__init__" qual params body scope .none .none doc pm an (.ref cda) ct cc) ⟨us, []⟩ = pure ((("self" : Str) :: ns).zip us)) ∧
    (∀ (x : Value) (us : List Value), us.length = ns.length → bindArgs (ksFn "__init__" qual params body scope .none .none doc pm an (.ref cda) ct cc) ⟨[x], ns.zip us⟩ = pure ((("self" : Str) :: ns).zip (x :: us)) ∧ bindArgs (ksFn "__init__" qual params body scope .none .none doc pm an (.ref cda) ct cc) ⟨[x], ns.reverse.zip us.reverse⟩ = pure ((("self" : Str) :: ns).zip (x :: us))) ∧
    (scope.kind = .function ∧ scope.isCoroutine = false ∧ scope.isGenerator = false ∧ (∀ y ∈ scope.names, y.2 ≠ .cell)) ∧ (∀ n ∈ ("self" : Str) :: ns, scope.names.lookup n = some .local) ∧ scope.names.lookup ("super" : Str) = some .globalImplicit ∧ scope.names.lookup ("__class__" : Str) = some .free ∧
    (params.posonlyargs ++ params.args).head? = some ar ∧ ar.arg = ("self" : Str) ∧ K.lookup cda = some ⟨ccl, cdd, .fields vs, ccs⟩ ∧ vs[2]? = some (.str file tf) ∧ ((P.main.file : Str) == file) = true ∧ K.lookup cc = some ⟨cl, cld, .cell (some (.ref C)), csl⟩ ∧ (P.main.scope.names.lookup ("super" : Str)).isSome = false
structure SiEnd (h h' : Heap) (x C dx t1 : Addr) (ns : List Str) (vs : List Value) : Prop where
  keep : ∀ b o, b ≠ x → h.get? b = some o → h'.get? b = some o
  obj : h'.get? x = some (excD C t1 dx)
  dbig : h.objs.size ≤ dx
  dne : dx ≠ x
  ns : h'.Ns1 dx (putAll ns vs fun _ => none)
section
variable {prog : Program} {w : World} {A : Around} {R : Result → Shared → Prop} {s : Shared} {K : Frag} {mg mb : Str → Option Value} {C fI : Addr} {ns : List Str}
theorem zip_get {ns : List Str} {vs : List Value} (hl : vs.length = ns.length) (nd : ns.Nodup) {i : Nat} {n : Str} {v : Value} (h1 : ns[i]? = some n) (h2 : vs[i]? = some v) : (ns.zip vs).reverse.lookup n = some v := by
  have key : ∀ l : List (Str × Value), (l.map (·.1)).Nodup → (n, v) ∈ l → l.lookup n = some v := fun l => by
    induction l with
    | nil => intro _ h; cases h
    | cons p l ih =>
      intro hn hm
      obtain ⟨a, b⟩ := p
      rw [List.map_cons, List.nodup_cons] at hn
      rw [List.lookup_cons]
      rcases List.mem_cons.mp hm with e | e
      · cases e; simp
      · have : n ≠ a := fun z => hn.1 (by rw [← z]; exact List.mem_map.mpr ⟨(n, v), e, rfl⟩)
        have e2 : (n == a) = false := by simpa using this
        rw [e2]
        exact ih hn.2 e
  refine key _ ?_ ?_
  · rw [List.map_reverse, List.map_fst_zip (by omega)]
    exact List.pairwise_reverse.mpr (nd.imp fun h => Ne.symm h)
  · rw [List.mem_reverse]
    exact List.mem_of_getElem? (i := i) (by rw [List.getElem?_zip_eq_some]; exact ⟨h1, h2⟩)
theorem si_init (T : SiT prog K C fI ns) {x t0 : Addr} {vs : List Value} {args : Args} (hA : ArgsOk ns (.ref x) vs args) (hl : vs.length = ns.length) (X : K.In s.heap) (hlim : s.heap.NoLimit) (hx : s.heap.get? x = some (excO C t0)) (hnx : K.lookup x = none) (hg : s.heap.Ns mainGlobals mg) (hmg : mg "super" = none) (hb : s.heap.Ns builtinsNs mb)
    (hmb : mb "super" = some (.type "super")) (hroom : A.depth < recursionLimit) (hq : ∀ h' tk dx t1, SiEnd s.heap h' x C dx t1 ns vs → R (.ok (.ret .none)) { s with heap := h', toks := tk }) :
    codeAny (model prog w) A (.call (.ref fI) args) R s := by
  obtain ⟨oc, od, qual, params, body, scope, doc, pm, an, cda, cc, ct, osl, ccl, cdd, cvs, ccs, file, tf, cl, cld, csl, ar, ho, hcd, hbody, hbind, hkb, ⟨hk, hco, hgen, hcell⟩, hloc, hsu, hcl, har, har2, hcode, hvs, hfile, hcellO, htop⟩ := T.fn
  obtain ⟨nm, q, N, bs, bm, sn, sub, ab, col, dd, k0, k1, k2, k3, k5, hC, hbm⟩ := T.cls
  have hcdC : clsIn K C = some { name := nm, bases := bs, mro := .ref C :: bm, ns := N, qualname := q, hasDict := true, slotNames := sn, subclasses := sub, abstract := ab, collection := col, hasDel := false } := by unfold clsIn; rw [hC] <;> rfl
  refine ks_codeAny_call_defAt (fd := ksFn "__init__" qual params body scope .none .none doc pm an (.ref cda) ct cc) (body := body) (binds := (("self" : Str) :: ns).zip (.ref x :: vs)) hroom (X _ _ ho) rfl hlim (codeRec_of X hcd) rfl (BindsTo.of_eq (by
    rcases hA with e | e | e <;> rw [e]
    · exact hbind _ (by simp [hl])
    · exact (hkb _ _ hl).1
    · exact (hkb _ _ hl).2)) hcell (fun y hy => hloc _ (List.of_mem_zip hy).1) (fun h₁ hns k₁ => ?_) hco hgen hk
  have X₁ : K.In h₁ := X.keeps k₁
  have hx₁ := k₁ _ _ hx
  have nd0 := T.nd
  rw [List.nodup_cons] at nd0
  have hself : (fun y => ((("self" : Str) :: ns).zip (.ref x :: vs)).reverse.lookup y) ("self" : Str) = some (.ref x) := zip_get (by simp [hl]) T.nd (i := 0) rfl rfl
  have hvar : ∀ (i : Nat) (n : Str) (v : Value), ns[i]? = some n → vs[i]? = some v → (fun y => ((("self" : Str) :: ns).zip (.ref x :: vs)).reverse.lookup y) n = some v := fun i n v h1 h2 => zip_get (by simp [hl]) T.nd (i := i + 1) h1 h2
  have hxL : x ≠ s.heap.objs.size := Nat.ne_of_lt (Heap.lt_size hx)
  generalize hm : (fun y => ((("self" : Str) :: ns).zip (.ref x :: vs)).reverse.lookup y) = m at hns hself hvar
  obtain ⟨hh, g, d, t, os⟩ := s
  dsimp only at *
  unfold initB at hbody
  split at hbody
  · rename_i sN q0 q1 iN ap args cp p0 rest
    simp only [Bool.and_eq_true, decide_eq_true_eq, Bool.not_eq_true'] at hbody
    obtain ⟨⟨⟨⟨⟨⟨rfl, rfl⟩, hae⟩, hline⟩, hfew⟩, hnb⟩, hab⟩ := hbody
    have I₁ : InstAt h₁ x (excO C t0) C none := ⟨hx₁, rfl, rfl, trivial⟩
    have hint : interactive (ksEnv qual scope hh.objs.size fI (.ref cda) cc) = false := by
      unfold interactive
      simp [hk]
    refine ks_wpAt_execs_cons (ks_wpAt_Expr_any (ks_wpAt_MethodCall (ks_wpAt_super_base (env := ksEnv qual scope hh.objs.size fI (.ref cda) cc) hsu hcl (by decide +kernel) rfl (X₁ _ _ ho) rfl har rfl (X₁ _ _ hcode) rfl hvs hfile htop ?_) (he_super hline hfew hnb)) hint rfl)
    refine ks_loadName_global hk hsu (loadGlobal_builtin (env := ksEnv qual scope hh.objs.size fI (.ref cda) cc) (hg.keeps k₁) hmg (hb.keeps k₁) hmb ⟨rfl, ?_⟩)
    refine wpAny_loadName_free hk hcl rfl ⟨_, X₁ _ _ hcellO, rfl⟩ ?_
    rw [har2]
    refine wpAny_loadName_local hk (hloc _ List.mem_cons_self) hns hself ?_
    refine ks_wpAny_isType_cls (X₁ _ _ hC) rfl ⟨rfl, ?_⟩
    refine ks_wpAny_call_super (X₁ _ _ hC) rfl hx₁ rfl (fun c z => nomatch z) (looks_mroIn X₁ T.sC) (fun h₂ e₂ k₂ => ?_)
    have X₂ : K.In h₂ := X₁.keeps k₂
    have I₂ : InstAt h₂ x (excO C t0) C none := ⟨k₂ _ _ hx₁, rfl, rfl, trivial⟩
    refine kxs_getMethod kxs_ValueError e₂ (looks_opaque X₂ T.op) (l₀ := .ref C :: bm) (fun A Q E s k q => wpAny_bind ((looks_clsIn X₂ hcdC) A _ E s k (wpAny_pure q))) rfl X₂ (by have := T.sup; unfold ks_superIn at this; rw [hcdC] at this; exact this) (I₂.type.andThen (looks_subIn X₂ T.vE)) (ks_ne X₂ I₂ hcdC) (by decide +kernel) ?_
    have k₃ : ∀ b o, h₂.get? b = some o → (h₂.push (kxs_mw "ValueError.__init__" x)).get? b = some o := fun b o e => Heap.get?_push_of_some _ e
    have u₃ : (h₂.push (kxs_mw "ValueError.__init__" x)).get? h₂.objs.size = some (kxs_mw "ValueError.__init__" x) := Heap.get?_push_at rfl rfl
    generalize h₂.push (kxs_mw "ValueError.__init__" x) = h₃ at k₃ u₃
    have X₃ : K.In h₃ := X₂.keeps k₃
    have hx₃ := k₃ _ _ (k₂ _ _ hx₁)
    have ns₃ : h₃.Ns hh.objs.size m := (hns.keeps k₂).keeps k₃
    have loc₃ : ∀ tk, Loc (ksEnv qual scope hh.objs.size fI (.ref cda) cc) (⟨h₃, g, d, tk, os⟩ : Shared).heap m hh.objs.size := fun tk => ⟨hk, rfl, ns₃⟩
    have hkv : ∀ n ∈ ns, (ksEnv qual scope hh.objs.size fI (.ref cda) cc).kindOf n = some .local ∧ (n == ("__debug__" : Str)) = false := fun n hn => ⟨hloc n (List.mem_cons_of_mem _ hn), (T.nm n hn).1⟩
    show wpAny (model prog w) _ (callWith cp (.ref h₂.objs.size) [] (backTo cp (starEach args (ksEnv qual scope hh.objs.size fI (.ref cda) cc))) []) _ _ _
    refine kxs_callWith (i := "ValueError.__init__") (x := x) (names_plain hnb).2 ?_
    have core : ∀ {Q : List Value → Shared → Prop} {E : Value → Shared → Prop} {A : Around} {tk : Nat}, Q vs ⟨h₃, g, d, tk, os⟩ → wpAny (model prog w) A (spliced (backTo cp (starEach args (ksEnv qual scope hh.objs.size fI (.ref cda) cc)))) Q E ⟨h₃, g, d, tk, os⟩ := fun {Q E A tk} q =>
      names_ev hnb hl (loc₃ tk) hkv hvar q
    cases args with
    | nil => cases hae
    | cons e es =>
      have hst : starEach (e :: es) (ksEnv qual scope hh.objs.size fI (.ref cda) cc) = (false, eval e (ksEnv qual scope hh.objs.size fI (.ref cda) cc)) :: starEach es (ksEnv qual scope hh.objs.size fI (.ref cda) cc) := by
        cases ns with
        | nil => simp [namesB] at hnb
        | cons n ns => cases e <;> simp only [namesB, Bool.and_eq_true, decide_eq_true_eq] at hnb <;> first | contradiction | rfl
      rw [hst] at core ⊢
      refine evalArgs_plain (core ⟨u₃, ?_⟩)
      show wpAny (model prog w) _ (call (.ref h₂.objs.size) vs) _ _ _
      refine wpAny_call (codeAny_of_tree ?_)
      show wpAny _ _ (callAny (.ref h₂.objs.size) ⟨vs, []⟩) _ _ _
      simp only [callAny]
      refine wpAny_bind (wpAny_load u₃ ?_)
      simp only [kxs_mw, show (Value.type "method-wrapper" == Value.type "method" || Value.type "method-wrapper" == Value.type "builtin_function_or_method" || Value.type "method-wrapper" == Value.type "method-wrapper") = true by decide, if_true]
      refine KFB.if_so (by decide) ?_
      refine wpAny_bind (check_bound_init F.excBase_ValueError.toExcCallFacts (X₃ _ _ hC) hx₃ rfl ?_)
      refine wpAny_bind (wpAny_pure (wpAny_pure ?_))
      refine ⟨plainId_quiet F.excBase_ValueError.init.plain _, codeAny_builtin F.excBase_ValueError.initEntry ?_⟩
      refine exc_init_tree (cls := .ref C) (t0 := t0) (dv := none) (c2 := .none) (c3 := .none) (b4 := .bool false) hx₃ (by rw [hl, sizeLine_eq]; have := T.ln; omega) (fun h₄ k₄ hx₄ _ => ?_)
      show wpAt (model prog w) _ _ (execs rest (ksEnv qual scope hh.objs.size fI (.ref cda) cc)) _ _ _
      have hcdh : refsVE (.ref C :: bm) = true := hbm
      have X₄ : K.In h₄ := fun a o e => k₄ a o (fun z => by rw [z, hnx] at e; cases e) (X₃ a o e)
      have ns₄ : h₄.Ns hh.objs.size m := ns₃.at fun o q => k₄ _ _ (Ne.symm hxL) q
      refine wpAt_of_wpAny (asgs_new hcdC hcdh rfl T.sa hxL hnx T.ne hab hl X₄ hx₄ T.ln ⟨hk, rfl, ns₄⟩ (hloc _ List.mem_cons_self) hself (fun n hn => ⟨hloc n (List.mem_cons_of_mem _ hn), T.nm n hn⟩) hvar fun h' tk dx k' dn dne hx' n' => ?_)
      have z1 : hh.objs.size < h₁.objs.size := hns.lt
      refine hq h' tk dx _ ⟨fun b o hb e => k' b o hb (k₄ b o hb (k₃ b o (k₂ b o (k₁ b o e)))), hx', ?_, dne, n'⟩
      have z2 : hh.objs.size < h₄.objs.size := ns₄.lt
      exact Nat.le_trans (Nat.le_of_lt z2) dn
  · cases hbody
end
end MpX
end PySem

end
section
set_option Elab.async false
set_option linter.all false
set_option maxRecDepth 100000
set_option maxHeartbeats 4000000
/-! S26: making an own exception. -/
namespace PySem
namespace MpX
open PySem.W PySem.Calls PyProof.Rows PySem.HandSPX
section
variable {M : Model} {A : Around} {E : Value → Shared → Prop} {h : Heap} {g : Array GenState} {d : Drawn} {t : Nat} {os : OsState}
variable {nm q : Str} {C N : Addr} {bs bm bmB : List Value} {hdct : Bool} {sn : List Str} {sub : List Value} {ab : Bool} {col : Option Bool} {dd : Option Addr} {k0 k1 k2 k3 k5 : Option Value} {B newId initId : String}
theorem check_new_ownK (F : ExcBaseFacts B newId initId bmB) (hT : ∀ X : String, bm.contains (.type X) = bmB.contains (.type X)) {rest : List Value} {kw : List (Str × Value)} {Q : Unit → Shared → Prop}
    (hC : h.get? C = some (excClassObj nm q C N bs bm hdct sn sub ab col dd k0 k1 k2 k3 k5 newId)) (hq : Q () ⟨h, g, d, t, os⟩) : wpAny M A (checkBuiltinCall newId ⟨.ref C :: rest, kw⟩) Q E ⟨h, g, d, t, os⟩ := by
  have hcont : (Value.ref C :: bm).contains (.type B) = true := by rw [List.contains_cons, hT, F.hasB, Bool.or_true]
  have hstar := F.noStar
  simp only [checkBuiltinCall, F.newKind, F.newSplit, F.newRow]
  repeat (first | refine wpAny_loadPart_at hC ?_ | (refine wpAny_isSubtype_exc hC ?_; rw [hcont]) | refine wpAny_staticBase_exc hC ?_ | refine wpAny_madeBy_exc hC ?_ | simp only [bne_self_eq_false, Bool.false_eq_true, if_false] | wp_step)
  exact hq
theorem check_type_call_subK {rest : List Value} {kw : List (Str × Value)} {Q : Unit → Shared → Prop} (hC : h.get? C = some (excClassObj nm q C N bs bm hdct sn sub ab col dd k0 k1 k2 k3 k5 newId))
    (hq : Q () ⟨h, g, d, t, os⟩) : wpAny M A (checkBuiltinCall "type.__call__" ⟨.ref C :: rest, kw⟩) Q E ⟨h, g, d, t, os⟩ := by
  have f3 := tc_sub
  have hT : (⟨h, g, d, t, os⟩ : Shared).TypeIs (.ref C) "type" := ⟨_, hC, rfl⟩
  simp only [checkBuiltinCall, tc_kind, tc_split]
  repeat (any_goals (first | assumption | with_reducible refine wpAny_loadPart_at hC ?_ | with_reducible refine wpAny_onRaise ?_ | with_reducible refine wpAny_map ?_ | wp_step))
end
section
variable {prog : Program} {w : World} {A : Around} {E : Value → Shared → Prop} {R : Result → Shared → Prop} {h : Heap} {g : Array GenState} {d : Drawn} {t : Nat} {os : OsState}
variable {nm q : Str} {C N : Addr} {bs bm bmB : List Value} {hdct : Bool} {sn : List Str} {sub : List Value} {ab : Bool} {col : Option Bool} {dd : Option Addr} {k0 k1 k2 k3 k5 : Option Value} {B newId initId : String}
theorem new_ownK (F : ExcBaseFacts B newId initId bmB) (hT : ∀ X : String, bm.contains (.type X) = bmB.contains (.type X)) {rest : List Value} {kw : List (Str × Value)}
    (hC : h.get? C = some (excClassObj nm q C N bs bm hdct sn sub ab col dd k0 k1 k2 k3 k5 newId))
    (hq : R (.ok (.ret (.ref (h.objs.size + 1)))) ⟨(h.push { cls := .type "tuple", data := .seq rest.toArray }).push
      { cls := .ref C, data := .fields #[.ref h.objs.size, .none, .none, .none, .bool false, .none] }, g, d, t, os⟩) (hrest : rest.length ≤ sizeLine) :
    codeAny (model prog w) A (.builtin newId ⟨.ref C :: rest, kw⟩) R ⟨h, g, d, t, os⟩ := by
  have hends := F.ends
  have hcB : (Value.ref C :: bm).contains (.type B) = true := by rw [List.contains_cons, hT, F.hasB, Bool.or_true]
  have hcA : (Value.ref C :: bm).contains (.type "AttributeError") = false := by rw [List.contains_cons, hT, F.noAttr]; rfl
  have hcN : (Value.ref C :: bm).contains (.type "NameError") = false := by rw [List.contains_cons, hT, F.noName]; rfl
  refine codeAny_builtinAt F.entry ?_
  unfold Builtin.«BaseException.__new__»
  refine wpAt_bind ?_
  show wpAt _ _ _ (stack >>= _) _ _ _
  refine wpAt_bind (wpAt_stack fun p below => wpAt_of_wpAny ?_)
  wp_walk
  refine wpAt_of_wpAny ?_
  rw [F.owner]
  repeat (first | with_reducible refine wpAny_madeHere_exc F.canon hC ?_ | with_reducible refine wpAny_loadPart_at hC ?_ | (with_reducible refine wpAny_isSubtype_exc hC ?_; first | rw [hcB] | rw [hcA] | rw [hcN]) | wp_step)
  show R _ _
  rw [Heap.size_push]
  exact hq
theorem type_call_ownK (F : ExcBaseFacts B newId initId bmB) (hT : ∀ X : String, bm.contains (.type X) = bmB.contains (.type X)) {rest : List Value} {kw : List (Str × Value)} {fI : Addr} {Q : Fin → Shared → Prop}
    (hC : h.get? C = some (excClassObj nm q C N bs bm hdct sn sub ab col dd k0 k1 k2 k3 k5 newId))
    (hi : PySem.W.Looks (model prog w) h (typeLookup (.ref C) "__init__") (some (.ref fI))) (hb : ∀ self, PySem.W.Looks (model prog w) h (bindSpecial (.ref fI) self) (.ref fI, [self])) (hrest : rest.length ≤ sizeLine)
    (hq : codeAny (model prog w) A (.call (.ref fI) ⟨.ref (h.objs.size + 1) :: rest, kw⟩)
      (fun r s' => match r with | .ok (.ret v) => v = .none ∧ Q (.done (.ret (.ref (h.objs.size + 1)))) s' | .ok _ => False | .error e => E e s')
      ⟨(h.push (kdv_tup rest)).push (excO C h.objs.size), g, d, t, os⟩) :
    wpAny (model prog w) A (Builtin.«type.__call__» ⟨.ref C :: rest, kw⟩) Q E ⟨h, g, d, t, os⟩ := by
  repeat (first | with_reducible refine wpAny_loadPart_at hC ?_ | with_reducible refine wpAny_madeBy_exc hC ?_ | wp_step)
  refine codeAny_call_builtin_code (Code.quiet_builtin _ F.quiet) (check_new_ownK F hT hC ?_)
  refine new_ownK F hT hC ?_ hrest
  show wpAny _ _ _ _ _ _
  have k : ∀ b o, h.get? b = some o → ((h.push (kdv_tup rest)).push (excO C h.objs.size)).get? b = some o := fun b o e => Heap.get?_push_of_some _ (Heap.get?_push_of_some _ e)
  have hC₁ := k _ _ hC
  have hget : ((h.push (kdv_tup rest)).push (excO C h.objs.size)).get? (h.objs.size + 1) = some (excO C h.objs.size) := by heap_get
  have hcC : (Value.ref C :: bm).contains (.ref C) = true := by simp
  have i1 := hi.keeps k
  have b1 := (hb (.ref (h.objs.size + 1))).keeps k
  unfold isInstance
  repeat (first | with_reducible refine wpAny_loadPart_at hget ?_ | (with_reducible refine wpAny_isSubtype_exc hC₁ ?_; rw [hcC]) | wp_step)
  show wpAny _ _ (typeLookup (.ref C) _) _ _ _
  refine i1.at ?_
  refine wpAny_holding (wpAny_bind (b1.at ?_))
  refine wpAny_bind (wpAny_call (codeAny_mono hq fun r s' z => ?_))
  rcases r with e | (v | _ | _ | _) <;> first | exact z | exact z.elim | skip
  obtain ⟨rfl, z⟩ := z
  first
    | exact wpAny_pure (wpAny_pure z)
    | (wp_walk; exact z)
theorem call_ownK (F : ExcBaseFacts B newId initId bmB) (hT : ∀ X : String, bm.contains (.type X) = bmB.contains (.type X)) {rest : List Value} {kw : List (Str × Value)} {fI : Addr}
    (hC : h.get? C = some (excClassObj nm q C N bs bm hdct sn sub ab col dd k0 k1 k2 k3 k5 newId))
    (hi : PySem.W.Looks (model prog w) h (typeLookup (.ref C) "__init__") (some (.ref fI))) (hb : ∀ self, PySem.W.Looks (model prog w) h (bindSpecial (.ref fI) self) (.ref fI, [self])) (hrest : rest.length ≤ sizeLine)
    (hq : codeAny (model prog w) (A.under (.builtin "type.__call__" ⟨.ref C :: rest, kw⟩)) (.call (.ref fI) ⟨.ref (h.objs.size + 1) :: rest, kw⟩) (PySem.W.InitBack (h.objs.size + 1) R)
      ⟨(h.push (kdv_tup rest)).push (excO C h.objs.size), g, d, t, os⟩) :
    codeAny (model prog w) A (.call (.ref C) ⟨rest, kw⟩) R ⟨h, g, d, t, os⟩ := by
  have f1 := tc_lookup
  have f2 := tc_bind (.ref C)
  have hTy : (⟨h, g, d, t, os⟩ : Shared).TypeIs (.ref C) "type" := ⟨_, hC, rfl⟩
  refine codeAny_of_tree ?_
  show wpAny _ _ (callAny (.ref C) _) _ _ _
  repeat (any_goals (first | assumption | with_reducible refine wpAny_loadPart_at hC ?_ | wp_step))
  refine ⟨rfl, ?_⟩
  refine codeAny_call_builtin_at (Code.quiet_builtin _ (by decide +kernel)) entry_typeCall (check_type_call_subK hC (type_call_ownK F hT hC hi hb hrest ?_))
  refine codeAny_mono hq fun r s' z => ?_
  rcases r with e | (v | _ | _ | _) <;> exact z
end
structure SiMade (h h' : Heap) (e C d : Addr) (ns : List Str) (vs : List Value) : Prop where
  keep : ∀ b o, h.get? b = some o → h'.get? b = some o
  new : h.objs.size ≤ e
  obj : ∃ t1, h'.get? e = some (excD C t1 d)
  dbig : h.objs.size ≤ d
  dne : d ≠ e
  ns : h'.Ns1 d (putAll ns vs fun _ => none)
section
variable {prog : Program} {w : World} {A : Around} {R : Result → Shared → Prop} {s : Shared} {K : Frag} {mg mb : Str → Option Value} {C fI : Addr} {ns : List Str}
theorem si_made (T : SiT prog K C fI ns) {vs rest : List Value} {kw : List (Str × Value)} (hA : ∀ e, ArgsOk ns e vs ⟨e :: rest, kw⟩) (hrl : rest.length ≤ ns.length) (hl : vs.length = ns.length) (X : K.In s.heap) (hlim : s.heap.NoLimit) (hg : s.heap.Ns mainGlobals mg) (hmg : mg "super" = none) (hb : s.heap.Ns builtinsNs mb) (hmb : mb "super" = some (.type "super")) (hroom : A.depth + 1 < recursionLimit)
    (hq : ∀ h' tk e d, SiMade s.heap h' e C d ns vs → R (.ok (.ret (.ref e))) { s with heap := h', toks := tk }) : codeAny (model prog w) A (.call (.ref C) ⟨rest, kw⟩) R s := by
  obtain ⟨nm, q, N, bs, bm, sn, sub, ab, col, dd, k0, k1, k2, k3, k5, hC, hbm⟩ := T.cls
  obtain ⟨hp, g, dr, tk, os⟩ := s
  have k : ∀ b o, hp.get? b = some o → ((hp.push (kdv_tup rest)).push (excO C hp.objs.size)).get? b = some o := fun b o e => Heap.get?_push_of_some _ (Heap.get?_push_of_some _ e)
  have hget : ((hp.push (kdv_tup rest)).push (excO C hp.objs.size)).get? (hp.objs.size + 1) = some (excO C hp.objs.size) := by heap_get
  have hnx : K.lookup (hp.objs.size + 1) = none := by
    cases e : K.lookup (hp.objs.size + 1) with
    | none => rfl
    | some o =>
      have z : hp.get? (hp.objs.size + 1) = some o := X _ _ e
      exact absurd (Nat.lt_of_succ_lt (Heap.lt_size z)) (Nat.lt_irrefl _)
  refine call_ownK F.excBase_ValueError (fun X => refsVE_contains X bm hbm) (X _ _ hC) (looks_findIn X T.iC) (fun self => bind_fn X self T.tC) (by rw [sizeLine_eq]; have := T.ln; omega) ?_
  refine si_init (s := ⟨(hp.push (kdv_tup rest)).push (excO C hp.objs.size), g, dr, tk, os⟩) T (hA _) hl (X.keeps k) (hlim.keeps k) hget hnx (hg.keeps k) hmg (hb.keeps k) hmb ?_ fun h' tk' dx t1 M => ?_
  · show A.depth + 1 < recursionLimit
    exact hroom
  · have old : ∀ b o, hp.get? b = some o → h'.get? b = some o := fun b o e => M.keep b o (Nat.ne_of_lt (Nat.lt_succ_of_lt (Heap.lt_size e))) (k b o e)
    have z : hp.objs.size + 1 + 1 ≤ dx := by
      first
        | (simpa only [Heap.size_push] using M.dbig)
        | exact M.dbig
        | (have q := M.dbig; rw [Heap.size_push, Heap.size_push] at q; exact q)
    exact ⟨rfl, hq h' tk' (hp.objs.size + 1) dx ⟨old, Nat.le_succ _, ⟨_, M.obj⟩, Nat.le_trans (Nat.le_trans (Nat.le_succ _) (Nat.le_succ _)) z, M.dne, M.ns⟩⟩
theorem putAll_out : ∀ {ns : List Str} {vs : List Value} {m0 : Str → Option Value} {f : Str}, f ∉ ns → putAll ns vs m0 f = m0 f
  | [], vs, m0, f, _ => by cases vs <;> rfl
  | n :: ns, [], m0, f, _ => rfl
  | n :: ns, v :: vs, m0, f, h => by
    rw [List.mem_cons, not_or] at h
    show putAll ns vs (putM n v m0) f = _
    rw [putAll_out h.2]
    exact if_neg h.1
theorem putAll_congr : ∀ {ns : List Str} {vs : List Value} {m0 m1 : Str → Option Value} {f : Str}, m0 f = m1 f → putAll ns vs m0 f = putAll ns vs m1 f
  | [], vs, m0, m1, f, h => by cases vs <;> exact h
  | n :: ns, [], m0, m1, f, h => h
  | n :: ns, v :: vs, m0, m1, f, h => by
    show putAll ns vs (putM n v m0) f = putAll ns vs (putM n v m1) f
    refine putAll_congr ?_
    unfold putM
    rw [h]
end
end MpX
end PySem
namespace L2
open PySem PySem.Spec PyProof.Rows
theorem putAll_rel : ∀ {ns : List Str} {xs : List V} {vs : List Value}, Vals xs vs → ns.Nodup → ∀ f, RelO ((ns.zip xs).lookup f) (PySem.MpX.putAll ns vs (fun _ => none) f)
  | [], xs, vs, _, _, f => by
    have : PySem.MpX.putAll [] vs (fun _ => none) f = none := by cases vs <;> rfl
    rw [this]
    simp [RelO]
  | n :: ns, [], vs, r, _, f => by cases r; simp [RelO, PySem.MpX.putAll]
  | n :: ns, x :: xs, vs, r, nd, f => by
    cases r with
    | cons rv rr =>
      rename_i v vs
      rw [List.nodup_cons] at nd
      show RelO (((n, x) :: ns.zip xs).lookup f) (PySem.MpX.putAll ns vs (PySem.MpX.putM n v fun _ => none) f)
      rw [List.lookup_cons]
      by_cases e : f = n
      · subst e
        rw [PySem.MpX.putAll_out nd.1]
        simp [PySem.MpX.putM, RelO]
        exact rv
      · have e2 : (f == n) = false := by simpa using e
        rw [e2, PySem.MpX.putAll_congr (m1 := fun _ => none) (by unfold PySem.MpX.putM; rw [if_neg e])]
        exact putAll_rel rr nd.2 f
section
variable {X : Cx} {C fI : Addr} {ns : List Str} {x : Str} {p pos : Pos} {e : Expr} {es : List Expr} {t : TA}
theorem pmk_si (T : PySem.MpX.SiT X.prog X.K C fI ns) (hr : RoomG 0 X.A) (hg : Gl X x) (hm : X.mg x = some (.ref C)) (hsu : X.mg "super" = none) (hdb : (x == ("__debug__" : Str)) = false) (ha : PA X (e :: es) t) (he : starEach (e :: es) X.env = (false, eval e X.env) :: starEach es X.env) (hpl : (backTo pos (starEach es X.env)).any (·.1) = false) :
    L2N.PMk X (.Call (.Name x p) (e :: es) [] pos) (fun σ H Q => t σ H fun vs H1 => vs.length = ns.length ∧ ∀ d, H1 d = none → Q (.ref C) (some d) (upd H1 d (.xd (ns.zip vs)))) := by
  intro pins s σ H Q I h
  refine wpAny_Call_Name_kw (ld_glob I hg hm ?_ hdb)
  refine PySem.W.callWith_K (h₀ := X.base) I.ok.mod.kin T.kC (thn (ha.run pos pins s σ H _ I h) fun us s1 hh => ?_) he hpl
  obtain ⟨vs, H1, I1, r1, hlen, q1⟩ := hh
  refine ⟨I1.kIn, ?_⟩
  show wpAny _ _ (call (.ref C) us) _ _ _
  have hlim := I1.nolimit
  obtain ⟨mb, hb1, hb2⟩ := I1.mod.blt
  have hgl := I1.mod.glob.keeps I1.bk
  obtain ⟨hp, g, dr, tk, os⟩ := s1
  have nd := T.nd
  rw [List.nodup_cons] at nd
  refine wpAny_call (PySem.MpX.si_made T (fun e => .inl rfl) (by rw [← r1.length, hlen]; exact Nat.le_refl _) (by rw [← r1.length]; exact hlen) I1.kIn hlim hgl hsu (hb1.keeps I1.bk) ((hb2 _ (by decide +kernel)).trans (by first | rfl | kernel_rfl | with_unfolding_all rfl)) (by have := hr.r.dp; omega) fun h' tk' a d M => ?_)
  show L2N.MkP X pins σ Q (.ref a) ⟨h', g, dr, tk', os⟩
  obtain ⟨t1, hoe⟩ := M.obj
  have hns := M.ns
  obtain ⟨G', g1, g2⟩ := restrict h' fun b => decide (b ≠ a)
  have gk : ∀ b, b ≠ a → G'.get? b = h'.get? b := fun b hb => g1 b (decide_eq_true hb)
  have ge : G'.get? a = none := g2 a (by simp)
  have old : ∀ b o, hp.get? b = some o → G'.get? b = some o := fun b o q => (gk b (Nat.ne_of_lt (Nat.lt_of_lt_of_le (Heap.lt_size q) M.new))).trans (M.keep b o q)
  have ob : ObjOk X.prog X.w (upd H1 d (.xd (ns.zip vs))) G' d (.xd (ns.zip vs)) :=
    ⟨_, hns.at (fun o q => (gk d M.dne).trans q), fun f => putAll_rel r1 nd.2 f⟩
  have J : Inv X pins σ (upd H1 d (.xd (ns.zip vs))) ⟨G', g, dr, tk', os⟩ := I1.laid (t' := tk') old M.dbig ob
  refine ⟨a, _, _, ⟨G', g, dr, tk', os⟩, _, .ref C, some d, rfl, J, fun b o q => ?_, ge, hoe, ⟨rfl, rfl, fun vs e => by cases e; rfl⟩, rfl, rfl, ?_, rfl, I1.bare, raises_own T.exC T.tyC, q1 d (I1.hok.fresh M.dbig)⟩
  · by_cases hb : b = a
    · have q' : G'.get? b = some o := q
      rw [hb, ge] at q'; cases q'
    · exact (gk b hb).symm.trans q
  · rw [upd_ne (Ne.symm M.dne)]
    exact I1.hok.fresh M.new
end
end L2
namespace L2
open PySem PySem.Spec PyProof.Rows
theorem lk_mem {α : Type} : ∀ {l : List (Str × α)}, (l.map (·.1)).Nodup → ∀ (f : Str) (v : α), l.lookup f = some v ↔ (f, v) ∈ l
  | [], _, f, v => by simp
  | (a, b) :: l, h, f, v => by
    rw [List.map_cons, List.nodup_cons] at h
    rw [List.lookup_cons, List.mem_cons]
    by_cases e : f = a
    · subst e
      simp only [beq_self_eq_true]
      constructor
      · intro z; cases z; exact .inl rfl
      · rintro (z | z)
        · cases z; rfl
        · exact absurd (List.mem_map.mpr ⟨_, z, rfl⟩) h.1
    · have e2 : (f == a) = false := by simpa using e
      rw [e2]
      simp only
      rw [lk_mem h.2]
      constructor
      · exact .inr
      · rintro (z | z)
        · cases z; exact absurd rfl e
        · exact z
theorem lk_rev {α : Type} {l : List (Str × α)} (h : (l.map (·.1)).Nodup) (f : Str) : l.reverse.lookup f = l.lookup f := by
  have h2 : (l.reverse.map (·.1)).Nodup := by rw [List.map_reverse]; exact List.pairwise_reverse.mpr (h.imp fun h => Ne.symm h)
  refine Option.ext fun v => ?_
  rw [lk_mem h2, lk_mem h, List.mem_reverse]
theorem zip_rev {α β : Type} : ∀ {a : List α} {b : List β}, a.length = b.length → (a.zip b).reverse = a.reverse.zip b.reverse
  | [], [], _ => rfl
  | x :: a, y :: b, h => by
    rw [List.zip_cons_cons, List.reverse_cons, zip_rev (by simpa using h), List.reverse_cons, List.reverse_cons, List.zip_append (by simpa using h)]
    rfl
  | [], _ :: _, h => by cases h
  | _ :: _, [], h => by cases h
theorem kw_names {env : PySem.Env} {pos : Pos} : ∀ {kws : List Keyword} {ks : List Str}, kws.map (·.arg) = ks.map some → (backToKw pos (keywordEach kws env)).all (·.1.isSome) = true ∧ (backToKw pos (keywordEach kws env)).filterMap (·.1) = ks ∧ (backToKw pos (keywordEach kws env)).any (·.1.isNone) = false
  | [], [], _ => ⟨rfl, rfl, rfl⟩
  | [], _ :: _, h => by cases h
  | _ :: _, [], h => by cases h
  | ⟨nm, e, kp⟩ :: kws, k :: ks, h => by
    simp only [List.map_cons, List.cons.injEq] at h
    obtain ⟨rfl, h⟩ := h
    obtain ⟨h1, h2, h3⟩ := kw_names (env := env) (pos := pos) h
    refine ⟨?_, ?_, ?_⟩
    · show (true && _) = true
      rw [Bool.true_and]; exact h1
    · show k :: _ = k :: ks
      exact congrArg _ h2
    · show (false || _) = false
      rw [Bool.false_or]; exact h3
section
variable {X : Cx} {C fI : Addr} {ns ks : List Str} {x f : Str} {p pos ap : Pos} {kws : List Keyword} {tk : TA}
/-- C(k = v, ..).f -/
theorem pe_xfk (T : PySem.MpX.SiT X.prog X.K C fI ns) (xf : XfC X.K C) (hno : f ∈ ns → PySem.W.findIn X.K (.ref C) f = some none) (hr : RoomG 0 X.A) (hg : Gl X x) (hm : X.mg x = some (.ref C)) (hsu : X.mg "super" = none) (hdb : (x == ("__debug__" : Str)) = false)
    (hk : PK X kws tk) (hnm : kws.map (·.arg) = ks.map some) (hks : ks = ns ∨ ks = ns.reverse) (hne : kws ≠ []) :
    PE X (.Attribute (.Call (.Name x p) [] kws pos) f ap) (fun σ H Q => tk σ H fun vs H1 => vs.length = ks.length ∧ ∃ v, (ks.zip vs).lookup f = some v ∧ Q v H1) := by
  refine ⟨fun pins s σ H Q I h => ?_⟩
  obtain ⟨n1, n2, n3⟩ := kw_names (env := X.env) (pos := pos) hnm
  refine attr_of (by cases kws with | nil => exact absurd rfl hne | cons a b => rfl) ?_
  refine wpAny_Call_Name_kw (ld_glob I hg hm ?_ hdb)
  refine PySem.W.callWith_KW0 (h₀ := X.base) I.ok.mod.kin T.kC n1 (thn (hk.run pos pins s σ H _ I h) fun ws s2 hh => ?_) (by rw [n3]; rfl)
  obtain ⟨zs, H2, I2, rz, l, v, lv, q⟩ := hh
  refine ⟨I2.kIn, ?_⟩
  rw [n2]
  show wpAny _ _ (call (.ref C) [] (ks.zip ws)) _ _ _
  have nd := T.nd
  rw [List.nodup_cons] at nd
  have hlen : ks.length = ns.length := by rcases hks with e | e <;> rw [e]; simp
  -- the values in the fields' order
  obtain ⟨us, ys, ru, lu, hA, hl2⟩ : ∃ (us : List Value) (ys : List V), Vals ys us ∧ us.length = ns.length ∧ (∀ e, PySem.MpX.ArgsOk ns e us ⟨e :: [], ks.zip ws⟩) ∧ (ns.zip ys).lookup f = some v := by
    rcases hks with e | e
    · exact ⟨ws, zs, rz, by rw [← rz.length, l, hlen], fun e' => .inr (.inl (by rw [e])), by rw [← e]; exact lv⟩
    · refine ⟨ws.reverse, zs.reverse, ?_, by rw [List.length_reverse, ← rz.length, l, hlen], fun e' => .inr (.inr (by rw [e, List.reverse_reverse])), ?_⟩
      · clear lv l n2 q I2
        induction rz with
        | nil => exact .nil
        | cons a r ih =>
          rw [List.reverse_cons, List.reverse_cons]
          exact Vals.append ih (.cons a .nil)
      · have hz : ns.length = zs.reverse.length := by rw [List.length_reverse, l, hlen]
        have : (ns.zip zs.reverse).reverse = ks.zip zs := by rw [zip_rev hz, List.reverse_reverse, e]
        rw [← lk_rev (by rw [List.map_fst_zip (Nat.le_of_eq hz)]; exact nd.2), this]
        exact lv
  have hlim := I2.nolimit
  obtain ⟨mb, hb1, hb2⟩ := I2.mod.blt
  have hgl := I2.mod.glob.keeps I2.bk
  obtain ⟨hp, g, dr, tk2, os⟩ := s2
  refine wpAny_call (PySem.MpX.si_made T hA (Nat.zero_le _) lu I2.kIn hlim hgl hsu (hb1.keeps I2.bk) ((hb2 _ (by decide +kernel)).trans (by first | rfl | kernel_rfl | with_unfolding_all rfl)) (by have := hr.r.dp; omega) fun h' tk' a d M => ?_)
  show wpAny _ _ (getAttr (.ref a) f true) _ _ _
  obtain ⟨t1, hoe⟩ := M.obj
  obtain ⟨od, ho, hl⟩ := lookIn_ns M.ns
  obtain ⟨u, hu, rv⟩ := RelO.some_of (v := v) (o := PySem.MpX.putAll ns us (fun _ => none) f) (by rw [← hl2]; exact putAll_rel ru nd.2 f)
  have hf : f ∈ ns := by
    have := (lk_mem (by rw [List.map_fst_zip (by rw [ru.length, lu]; exact Nat.le_refl _)]; exact nd.2) f v).mp hl2
    exact (List.of_mem_zip this).1
  have J : PySem.W.InstAt h' a (PySem.MpX.excD C t1 d) C (some od) := ⟨hoe, rfl, rfl, ho⟩
  have I3 : Inv X pins σ H2 ⟨h', g, dr, tk', os⟩ := I2.kept M.keep
  exact HandSPX.exc_get I3.kIn J xf.ga xf.gg xf.exC (PySem.W.findObj_own xf.hdC (hno hf) rfl (by rw [hl, hu])) (handed_of rv) ⟨v, H2, I3.tok _, rv, q⟩
/-- X(), an own exception class without own __init__ -/
theorem pmk_own0 {bmB : List Value} {B newId initId : String} (F : ExcBaseFacts B newId initId bmB) (q : PySem.W.excIn X.K C bmB newId = true) (gC : X.mg x = some (.ref C))
    (kC : PySem.W.keepIn X.K (.ref C) = true) (r : Raises X (.ref C)) (hg : Gl X x) (hdb : (x == ("__debug__" : Str)) = false) :
    L2N.PMk X (.Call (.Name x p) [] [] pos) (fun σ H Q => Q (.ref C) none H) := by
  intro pins s σ H Q I h
  refine wpAny_Call_Name_kw (ld_glob I hg gC ?_ hdb)
  refine PySem.W.callWith_K0 I.kIn kC ?_
  show wpAny _ _ (call (.ref C) []) _ _ _
  obtain ⟨bm, N, nm, qn, bs, hdct, sn, sub, ab, col, dd, k0, k1, k2, k3, k5, mN, hC, hN, hni, T⟩ := exc_obj I.kIn q
  refine wpAny_call_exc_subT F T hC hN hni (fun h' e hm => ?_) (Nat.zero_le _)
  exact L2N.mk_of I hm r h (I.hok.gone hm.new)
end
end L2

end
section
set_option Elab.async false
set_option linter.all false
set_option maxRecDepth 100000
set_option maxHeartbeats 4000000
/-! S27: the end of a law. -/
namespace Mp
open PySem PySem.Spec PyProof.Rows L2
theorem walk_G {l : PySem.W.OpenLaw} {n k : Nat} {q : Program} {loose : List Str} {XP : (Str → Option Value) → Heap → Prop} {YP : World → Heap → Prop} {d : DefRec} {K : Params → PySem.W.Frag} {x : Str}
    (hn : l.most = some n) (hn2 : n ≤ sizeLine) (hdf : d.params.defaults = []) (hr : RoomG k callerA)
    (hY : ∀ (w : World) (h : Heap), YP w h → (K w.params).In h)
    (F : ∀ (w : World) (mg : Str → Option Value) (fa : Addr) (h : Heap), (K w.params).In h → h.Ns mainGlobals mg → mg d.name = some (.ref fa) →
      ∃ (fd : FuncData) (sp : Sp), (∀ (s : Shared) (u : Value), BindsTo s fd ⟨[u], []⟩ [(x, u)]) ∧
        (∀ base : Heap, (K w.params).In base → base.Ns mainGlobals mg → FnG l.prog w (K w.params) mg base (L2N.CX l.prog w) k fa fd [x] sp) ∧
        ∀ (H : Hp) (a : Addr) (ns : List Int), ns.length ≤ n → Only H → SqL (K w.params) H a (ns.map V.int) → sp [.ref a] H (fun v _ => v = .bl true) fun _ _ _ => False) :
    PySem.W.WalkO q loose XP YP l.row.toRowW d [] (fun f vs => PySem.call f vs) := by
  refine Att.attach_call hn hdf fun w s₀ s₁ mg mb fa o pm cd doc a vs ns G Y ho hd hcd hmg hobj hints hlen hg => ?_
  have KX := hY w _ Y
  obtain ⟨fd, sp, hb, hF, hsp⟩ := F w mg fa _ KX G.T.g hmg
  exact law_callG KX G.T.g G.T.b G.T.builtins G.T.nolimit hg hobj hints (Nat.le_trans hlen hn2) hr hF hb (fun H hO hS => hsp H a ns hlen hO hS) fun H e s' ⟨_, _, _, _, _, _, _, _, _, _, _, _, z⟩ => z
/-- the script, as data -/
theorem law_sp {L : Lk} {K : PySem.W.Frag} {p : Prog} {N f n : Nat} (eK : L.K = K) (hn : n ≤ szMax) (hp : ∀ ns : List Int, ns.length ≤ n → ∃ st, callN p N false f [.scr ns] [] = .ok (.dat (.bl true)) st)
    (H : Hp) (a : Addr) (ns : List Int) (hl : ns.length ≤ n) (hS : SqL K H a (ns.map V.int)) : spM L (callN p N false f) [.ref a] H (fun v _ => v = .bl true) fun _ _ _ => False := by
  obtain ⟨st, hc⟩ := hp ns hl
  refine ⟨[], fun b => b = a ∧ H a ≠ none, [], [.scr ns], ⟨fun n d e => by simp at e, rfl, List.nodup_nil, fun b hb => ⟨by rw [hb.1]; exact hb.2, by simp⟩⟩, ?_, ?_⟩
  · simp only [RepL, Rep]
    refine ⟨⟨a, rfl, ?_, Nat.le_trans hl hn⟩, trivial⟩
    rw [eK]
    rcases hS with h | h
    · refine .inl ⟨⟨rfl, ?_⟩, h⟩
      rcases h with h | ⟨ob, h⟩ <;> (rw [h]; exact fun z => nomatch z)
    · exact .inr h
  · rw [hc]
    exact fun m' F' x H' _ _ r => r
/-- names of fields: told apart, those beyond the row too -/
def nmOf (l : List Str) (k : Nat) : Str := match l[k]? with | some x => x | none => ⟨(List.replicate (k + 1) 0).toArray⟩
theorem nmOf_inj {l : List Str} (h1 : l.Nodup) (h2 : ∀ x ∈ l, 0 ∉ x.cps.toList ∧ x.cps.toList ≠ []) : ∀ j k, nmOf l j = nmOf l k → j = k := by
  have rep : ∀ (x : Str) (k : Nat), x ∈ l → x = (⟨(List.replicate (k + 1) 0).toArray⟩ : Str) → False := fun x k hx e => by
    have := (h2 x hx).1
    rw [e] at this
    exact this (by simp [List.replicate_succ])
  intro j k e
  unfold nmOf at e
  cases e1 : l[j]? with
  | some x =>
    cases e2 : l[k]? with
    | some y =>
      rw [e1, e2] at e
      cases e
      exact (List.getElem?_inj (List.getElem?_eq_some_iff.mp e1).1 h1).mp (e1.trans e2.symm)
    | none => rw [e1, e2] at e; exact (rep x k (List.mem_of_getElem? e1) e).elim
  | none =>
    cases e2 : l[k]? with
    | some y => rw [e1, e2] at e; exact (rep y j (List.mem_of_getElem? e2) e.symm).elim
    | none =>
      rw [e1, e2] at e
      have := congrArg (fun s : Str => s.cps.toList.length) e
      simpa using this
theorem nmOf_get {l : List Str} {k : Nat} {y : Str} (h : l[k]? = some y) : nmOf l k = y := by unfold nmOf; rw [h]
/-- a def's text from its facts -/
theorem ftx_mk {K : PySem.W.Frag} {L : Lk} {nm : NmT} {f : Nat} {fd : FnD} {a : Addr} {name qual : Str} {st : Stmt} {od an : Option Addr} {sl : Array (Option Value)} {oc kV dc pm cd ct : Value} {N ps : List Str} (ha : L.fad f = a)
    (l : K.lookup a = some ⟨oc, od, .func (PySem.W.fnOf name qual (defArgs st) (defBody st) (defScope st) .none kV dc pm an cd ct), sl⟩) (c : PySem.W.codeIn K cd qual = true) (S : FnScope N ps (defScope st)) (m : mtB ⟨N, defScope st, nm, true, true⟩ fd.body (defBody st) = true)
    (h1 : N.length = fd.nv) (h2 : ps.length = fd.np) (h3 : fd.df = []) (h5 : ∀ us : List Value, us.length = ps.length → bindArgs (PySem.W.fnOf name qual (defArgs st) (defBody st) (defScope st) .none kV dc pm an cd ct) ⟨us, []⟩ = pure (ps.zip us)) :
    FTx K L nm f fd (PySem.W.fnOf name qual (defArgs st) (defBody st) (defScope st) .none kV dc pm an cd ct) ps :=
  ⟨⟨name, qual, _, _, _, .none, kV, dc, pm, cd, ct, oc, an, od, sl, N, rfl, by rw [ha]; exact l, c, S, m, h1⟩, h2, h3, h5⟩
/-- an exception class with an own `__init__`: how it is made -/
theorem xcm_si {P : Program} {w : World} {K : PySem.W.Frag} {mg : Str → Option Value} {base : Heap} {A : Around} {L : Lk} {o : Orc} {c : Nat} {x : Str} {C fI : Addr} {ns : List Str} (T : PySem.MpX.SiT P K C fI ns) (hr : RoomG 0 A) (hm : mg x = some (.ref C)) (hsu : mg "super" = none)
    (hC : L.cad c = C) (hf : (o.flds c).map L.nm = ns) (hne : o.flds c ≠ []) : XcM P w K mg base A L o c x := by
  intro X e1 e2 e3 e4 e5 e6 l p p2 t ha hnil hl hlen hg hdb
  subst e1 e3 e4 e6
  cases l with
  | nil => exact absurd (List.eq_nil_of_length_eq_zero hlen.symm) hne
  | cons e es =>
    rw [List.all_cons, Bool.and_eq_true] at hl
    intro pins s σ H Q I h
    subst hf hC
    refine L2.pmk_si (p := p) (pos := p2) T hr hg hm hsu hdb ha (okE_star hl.1 es X.env) (allOk_any hl.2) pins s σ H Q I ?_
    have q : (fun (vs : List V) (H1 : Hp) => vs.length = ((o.flds c).map L.nm).length ∧ ∀ d, H1 d = none → Q (.ref (L.cad c)) (some d) (upd H1 d (.xd (((o.flds c).map L.nm).zip vs)))) = (fun vs H1 => (o.flds c = [] → Q (.ref (L.cad c)) none H1) ∧ (o.flds c ≠ [] → vs.length = (o.flds c).length ∧ ∀ d, H1 d = none → Q (.ref (L.cad c)) (some d) (upd H1 d (.xd (((o.flds c).map L.nm).zip vs))))) := by
      funext vs H1
      refine propext ⟨fun z => ⟨fun y => absurd y hne, fun _ => ⟨by rw [z.1, List.length_map], z.2⟩⟩, fun z => ?_⟩
      have := z.2 hne
      exact ⟨by rw [this.1, List.length_map], this.2⟩
    show t σ H _
    rw [q]
    exact h
/-- an exception class without an own `__init__` and without fields -/
theorem xcm_0 {P : Program} {w : World} {K : PySem.W.Frag} {mg : Str → Option Value} {base : Heap} {A : Around} {L : Lk} {o : Orc} {c : Nat} {x : Str} {C : Addr} {bmB : List Value} {B newId initId : String} (F : PySem.ExcBaseFacts B newId initId bmB) (q : PySem.W.excIn K C bmB newId = true) (kC : PySem.W.keepIn K (.ref C) = true)
    (exC : PySem.W.subIn K (.ref C) (.type "BaseException") = some true) (tyC : PySem.W.typeIn K (.ref C) = some (.type "type")) (hm : mg x = some (.ref C)) (hC : L.cad c = C) (hf : o.flds c = []) : XcM P w K mg base A L o c x := by
  intro X e1 e2 e3 e4 e5 e6 l p p2 t ha hnil hl hlen hg hdb
  subst e1 e3 e4 e6
  subst hC
  rw [hf] at hlen
  obtain rfl := List.eq_nil_of_length_eq_zero hlen
  intro pins s σ H Q I h
  refine pmk_own0 F q hm kC (raises_own exC tyC) hg hdb pins s σ H Q I ?_
  exact (hnil rfl _ _ _ h).1 hf
/-- an exception made by names, its field read -/
theorem xfm_si {P : Program} {w : World} {K : PySem.W.Frag} {mg : Str → Option Value} {base : Heap} {A : Around} {L : Lk} {o : Orc} {c : Nat} {x : Str} {C fI : Addr} {ns : List Str} (T : PySem.MpX.SiT P K C fI ns) (xf : XfC K C) (no : ∀ f ∈ ns, PySem.W.findIn K (.ref C) f = some none) (hr : RoomG 0 A) (hm : mg x = some (.ref C)) (hsu : mg "super" = none)
    (hf : (o.flds c).map L.nm = ns) : XfM P w K mg base A L o c x := by
  intro X e1 e2 e3 e4 e5 e6 kws ks k p p2 p3 tk hg hdb hk hn hne hq
  subst e1 e3 e4 e6
  have e0 : kws.map (·.arg) = (ks.map L.nm).map some := by rw [hn, List.map_map]; rfl
  have e7 : ks.map L.nm = ns ∨ ks.map L.nm = ns.reverse := by
    unfold kwOk at hq
    rw [Bool.or_eq_true, beq_iff_eq, beq_iff_eq] at hq
    rcases hq with e | e
    · exact .inl (by rw [e, hf])
    · exact .inr (by rw [e, List.map_reverse, hf])
  refine (pe_xfk T xf (fun h => no _ h) hr hg hm hsu hdb hk e0 e7 (fun z => by rw [z] at hn; cases ks with | nil => exact hne rfl | cons a b => cases hn)).imp fun σ H Q h => ?_
  rw [List.length_map]
  exact h
theorem xfm_0 {P : Program} {w : World} {K : PySem.W.Frag} {mg : Str → Option Value} {base : Heap} {A : Around} {L : Lk} {o : Orc} {c : Nat} {x : Str} (hf : o.flds c = []) : XfM P w K mg base A L o c x := by
  intro X e1 e2 e3 e4 e5 e6 kws ks k p p2 p3 tk hg hdb hk hn hne hq
  rw [hf] at hq
  cases ks with
  | nil => exact absurd rfl hne
  | cons a b => simp [kwOk] at hq
end Mp

end
section
set_option Elab.async false
set_option maxRecDepth 100000
set_option maxRecDepth 100000
namespace Pk09
open Mp
/-- 0 _law_taken: 0=row 1=many 2=cell 3=found -/
def b__law_taken : List MS :=
  [(.ite (.cmp .gt (.sub (.var 0) (.int 3)) (.int 0))
   [(.asg (.v 3) (.bin .mod (.bi .int [(.sub (.var 0) (.int 3))]) (.var 1))),
    (.asg (.sub (.var 0) (.int 3)) (.bin .fdiv (.sub (.var 0) (.int 3)) (.var 1))),
    (.ret (.var 3))]
   []),
  (.asg (.sub (.var 0) (.int 1)) (.bin .add (.sub (.var 0) (.int 1)) (.int 1))),
  (.ite (.cmp .gt (.sub (.var 0) (.int 1)) (.bi .len [(.sub (.var 0) (.int 0))]))
   [(.asg (.sub (.var 0) (.int 2)) (.bin .mod (.bi .int [(.bin .add (.bin .mul (.sub (.var 0) (.int 2)) (.int 48271)) (.int 11))]) (.int 2147483647))),
    (.ret (.bin .mod (.bi .int [(.bin .fdiv (.sub (.var 0) (.int 2)) (.int 7))]) (.var 1)))]
   []),
  (.asg (.v 2) (.sub (.sub (.var 0) (.int 0)) (.bin .sub (.sub (.var 0) (.int 1)) (.int 1)))),
  (.asg (.sub (.var 0) (.int 2)) (.bin .mod (.bi .int [(.bin .add (.bin .add (.bin .mul (.sub (.var 0) (.int 2)) (.int 48271)) (.var 2)) (.int 11))]) (.int 2147483647))),
  (.ite (.cmp .ge (.var 2) (.bin .pow (.int 10) (.int 18)))
   [(.asg (.sub (.var 0) (.int 3)) (.bin .fdiv (.var 2) (.var 1)))]
   []),
  (.ret (.bin .mod (.bi .int [(.var 2)]) (.var 1)))]
/-- 1 _law_pick: 0=row 1=kinds -/
def b__law_pick : List MS :=
  [(.ret (.sub (.var 1) (.call 0 [(.var 0), (.bi .len [(.var 1)])])))]
/-- 2 _law_alike: 0=found 1=due 2=k -/
def b__law_alike : List MS :=
  [(.ite (.isi (.var 1) [.tuple, .list])
   [(.ite (.or [(.not (.isi (.var 0) [.tuple, .list])), (.cmp .ne (.isi (.var 0) [.list]) (.isi (.var 1) [.list]))])
     [(.ret (.bl false))]
     []),
    (.ite (.cmp .ne (.bi .len [(.var 0)]) (.bi .len [(.var 1)]))
     [(.ret (.bl false))]
     []),
    (.ret (.cmp .eq (.lcf (.var 2) (.v 2) (.rg1 (.bi .len [(.var 1)])) (.not (.call 2 [(.sub (.var 0) (.var 2)), (.sub (.var 1) (.var 2))]))) (.lst [])))]
   []),
  (.ite (.or [(.isN (.var 1)), (.isi (.var 1) [.str])])
   [(.ret (.and [(.cmp .eq (.var 0) (.var 1)), (.cmp .eq (.isi (.var 0) [.str]) (.isi (.var 1) [.str]))]))]
   []),
  (.ret (.and [(.isi (.var 0) [.int]), (.cmp .eq (.isi (.var 0) [.bool]) (.isi (.var 1) [.bool])), (.cmp .eq (.var 0) (.var 1))]))]
/-- 3 _law_raised: 0=number 1=value 2=named 3=e 4=kinds 5=field -/
def b__law_raised : List MS :=
  [(.tr [(.ite (.cmp .eq (.var 0) (.int 0))
     [(.rais 1 [(.var 1)])]
     []),
    (.ite (.cmp .eq (.var 0) (.int 1))
     [(.rais 2 [(.var 1)])]
     []),
    (.ite (.cmp .eq (.var 0) (.int 2))
     [(.rais 3 [(.var 1)])]
     []),
    (.ite (.cmp .eq (.var 0) (.int 3))
     [(.rais 4 [(.var 1)])]
     []),
    (.ite (.cmp .eq (.var 0) (.int 4))
     [(.rais 5 [(.var 1)])]
     []),
    (.ite (.cmp .eq (.var 0) (.int 5))
     [(.rais 6 [(.var 1)])]
     []),
    (.ite (.cmp .eq (.var 0) (.int 6))
     [(.rais 7 [(.var 1)])]
     []),
    (.ite (.cmp .eq (.var 0) (.int 7))
     [(.rais 8 [(.var 1)])]
     []),
    (.ite (.cmp .eq (.var 0) (.int 8))
     [(.rais 9 [(.var 1), (.var 2)])]
     []),
    (.rais 10 [])]
   [(0, some 3, [(.asg (.v 4) (.lst [(.isi (.var 3) [(.cls 1)]), (.isi (.var 3) [(.cls 2)]), (.isi (.var 3) [(.cls 3)]), (.isi (.var 3) [(.cls 4)]), (.isi (.var 3) [(.cls 5)])])),
    (.asg (.v 4) (.bin .add (.var 4) (.lst [(.isi (.var 3) [(.cls 6)]), (.isi (.var 3) [(.cls 7)]), (.isi (.var 3) [(.cls 8)]), (.isi (.var 3) [(.cls 9)]), (.isi (.var 3) [(.cls 10)])]))),
    (.ite (.or [(.not (.isi (.var 3) [.verr])), (.isi (.var 3) [.lerr]), (.isi (.var 3) [.rerr])])
     [(.ret .non)]
     []),
    (.asg (.v 5) .non),
    (.ite (.cmp .isin (.var 0) (.lst [(.int 0), (.int 1), (.int 3), (.int 6), (.int 7)]))
     [(.asg (.v 5) (.fld (.var 3) 0))]
     []),
    (.ite (.cmp .eq (.var 0) (.int 2))
     [(.asg (.v 5) (.fld (.var 3) 1))]
     []),
    (.ite (.cmp .eq (.var 0) (.int 4))
     [(.asg (.v 5) (.fld (.var 3) 2))]
     []),
    (.ite (.cmp .eq (.var 0) (.int 5))
     [(.asg (.v 5) (.fld (.var 3) 3))]
     []),
    (.ite (.cmp .eq (.var 0) (.int 8))
     [(.asg (.v 5) (.tup [(.fld (.var 3) 4), (.fld (.var 3) 5)]))]
     []),
    (.frz 4),
    (.ret (.tup [(.var 4), (.var 5)]))])])]
/-- 4 law: 0=script 1=row 2=number 3=made 4=value 5=named 6=told 7=due 8=k -/
def b_law : List MS :=
  [(.asg (.v 1) (.cell (.lst [(.var 0), (.int 0), (.int 53), (.int 0)]))),
  (.fr (.v 2) (.rg1 (.int 10))
   [(.asg (.v 4) (.call 1 [(.var 1), (.lst [.non, (.int 7), (.str [120]), (.tup [(.int 1), (.int 2)]), (.bl true), (.call 0 [(.var 1), (.bin .pow (.int 10) (.int 9))])])])),
    (.asg (.v 5) (.call 1 [(.var 1), (.lst [(.tup []), (.tup [(.str [97])])])])),
    (.asg (.v 6) (.call 3 [(.var 2), (.var 4), (.var 5)])),
    (.ite (.or [(.isN (.var 6)), (.cmp .ne (.sub (.var 6) (.int 0)) (.lc (.cmp .eq (.var 8) (.var 2)) (.v 8) (.rg1 (.int 10))))])
     [(.ret (.bl false))]
     []),
    (.asg (.v 7) (.var 4)),
    (.ite (.cmp .eq (.var 2) (.int 8))
     [(.asg (.v 7) (.tup [(.var 4), (.var 5)]))]
     []),
    (.ite (.and [(.cmp .lt (.var 2) (.int 9)), (.or [(.cmp .ne (.sub (.var 6) (.int 1)) (.var 7)), (.cmp .ne (.isi (.sub (.var 6) (.int 1)) [.bool]) (.isi (.var 7) [.bool]))])])
     [(.ret (.bl false))]
     [])]),
  (.asg (.v 3) (.lst [(.xfl 1 [0] [(.int 1)] 0), (.xfl 2 [0] [(.str [97])] 0), (.xfl 3 [1] [(.int 4)] 1), (.xfl 4 [0] [(.int 5)] 0), (.xfl 5 [2] [(.int 6)] 2)])),
  (.asg (.v 3) (.bin .add (.var 3) (.lst [(.xfl 6 [3] [(.int 7)] 3), (.xfl 7 [0] [(.int 8)] 0), (.xfl 8 [0] [(.int 9)] 0), (.xfl 9 [4, 5] [(.str [114]), (.int 11)] 5), (.xfl 9 [5, 4] [(.int 1), (.str [115])] 4)]))),
  (.frz 3),
  (.ret (.call 2 [(.var 3), (.lst [(.int 1), (.str [97]), (.int 4), (.int 5), (.int 6), (.int 7), (.int 8), (.int 9), (.int 11), (.str [115])])]))]
def fns : List FnD := [
  { np := 2, nv := 4, df := [], tmp := false, body := b__law_taken },
  { np := 2, nv := 2, df := [], tmp := false, body := b__law_pick },
  { np := 2, nv := 3, df := [], tmp := false, body := b__law_alike },
  { np := 3, nv := 6, df := [], tmp := false, body := b__law_raised },
  { np := 1, nv := 9, df := [], tmp := false, body := b_law }]
def clss : List Cls := [
  { ini := none, mth := [], eqm := none, lenm := none, sup := [0], flds := [], cf := [], cel := false },
  { ini := none, mth := [], eqm := none, lenm := none, sup := [1, 0], flds := [0], cf := [], cel := false },
  { ini := none, mth := [], eqm := none, lenm := none, sup := [2, 0], flds := [0], cf := [], cel := false },
  { ini := none, mth := [], eqm := none, lenm := none, sup := [3, 0], flds := [1], cf := [], cel := false },
  { ini := none, mth := [], eqm := none, lenm := none, sup := [4, 0], flds := [0], cf := [], cel := false },
  { ini := none, mth := [], eqm := none, lenm := none, sup := [5, 0], flds := [2], cf := [], cel := false },
  { ini := none, mth := [], eqm := none, lenm := none, sup := [6, 0], flds := [3], cf := [], cel := false },
  { ini := none, mth := [], eqm := none, lenm := none, sup := [7, 0], flds := [0], cf := [], cel := false },
  { ini := none, mth := [], eqm := none, lenm := none, sup := [8, 0], flds := [0], cf := [], cel := false },
  { ini := none, mth := [], eqm := none, lenm := none, sup := [9, 0], flds := [4, 5], cf := [], cel := false },
  { ini := none, mth := [], eqm := none, lenm := none, sup := [10, 0], flds := [], cf := [], cel := false }]
def cons : List D := [
  ]
def prog : Prog := ⟨fns, clss, cons⟩
/- names: 0=value 1=index 2=line 3=limit 4=reason 5=names -/
def lawId : Nat := 4
end Pk09

end
section
set_option Elab.async false
set_option maxRecDepth 100000
namespace Pk09
open PySem Mp
def top (i : Nat) : Stmt := PySem.Challenge.pw_wheelrace_k09_errors.main.body.getD i (.Pass ⟨0, 0, 0, 0⟩)
def nms : NmT := { fns := [some "_law_taken", some "_law_pick", some "_law_alike", some "_law_raised", some "law"], cls := ["RaceError", "BadNumber", "BadName", "BadItem", "BadEvent", "BadNote", "TooMany", "Unknown", "Taken", "Refused", "NothingToUndo"], flds := ["value", "index", "line", "limit", "reason", "names"], mths := [], con := [], ar := [99999, 1, 1, 1, 1, 1, 1, 1, 1, 2, 0], mks := [], kwx := true }
abbrev s__law_taken : Stmt := top 13
def N__law_taken : List Str := ["row", "many", "cell", "found"]
theorem ck__law_taken : mtB ⟨N__law_taken, L2.defScope s__law_taken, nms, true, true⟩ b__law_taken (L2.defBody s__law_taken) = true := by decide +kernel
theorem sc__law_taken : L2.FnScope N__law_taken ["row", "many"] (L2.defScope s__law_taken) := ⟨rfl, rfl, rfl, by decide +kernel, rfl, by decide +kernel, by decide +kernel⟩
abbrev s__law_pick : Stmt := top 14
def N__law_pick : List Str := ["row", "kinds"]
theorem ck__law_pick : mtB ⟨N__law_pick, L2.defScope s__law_pick, nms, true, true⟩ b__law_pick (L2.defBody s__law_pick) = true := by decide +kernel
theorem sc__law_pick : L2.FnScope N__law_pick ["row", "kinds"] (L2.defScope s__law_pick) := ⟨rfl, rfl, rfl, by decide +kernel, rfl, by decide +kernel, by decide +kernel⟩
abbrev s__law_alike : Stmt := top 15
def N__law_alike : List Str := ["found", "due", "k"]
theorem ck__law_alike : mtB ⟨N__law_alike, L2.defScope s__law_alike, nms, true, true⟩ b__law_alike (L2.defBody s__law_alike) = true := by decide +kernel
theorem sc__law_alike : L2.FnScope N__law_alike ["found", "due"] (L2.defScope s__law_alike) := ⟨rfl, rfl, rfl, by decide +kernel, rfl, by decide +kernel, by decide +kernel⟩
abbrev s__law_raised : Stmt := top 16
def N__law_raised : List Str := ["number", "value", "named", "e", "kinds", "field"]
theorem ck__law_raised : mtB ⟨N__law_raised, L2.defScope s__law_raised, nms, true, true⟩ b__law_raised (L2.defBody s__law_raised) = true := by decide +kernel
theorem sc__law_raised : L2.FnScope N__law_raised ["number", "value", "named"] (L2.defScope s__law_raised) := ⟨rfl, rfl, rfl, by decide +kernel, rfl, by decide +kernel, by decide +kernel⟩
abbrev s_law : Stmt := top 17
def N_law : List Str := ["script", "row", "number", "made", "value", "named", "told", "due", "k"]
theorem ck_law : mtB ⟨N_law, L2.defScope s_law, nms, true, true⟩ b_law (L2.defBody s_law) = true := by decide +kernel
theorem sc_law : L2.FnScope N_law ["script"] (L2.defScope s_law) := ⟨rfl, rfl, rfl, by decide +kernel, rfl, by decide +kernel, by decide +kernel⟩
abbrev t_1 : Stmt := L2.inClass (top 2) 0
abbrev t_2 : Stmt := L2.inClass (top 3) 0
abbrev t_3 : Stmt := L2.inClass (top 4) 0
abbrev t_4 : Stmt := L2.inClass (top 5) 0
abbrev t_5 : Stmt := L2.inClass (top 6) 0
abbrev t_6 : Stmt := L2.inClass (top 7) 0
abbrev t_7 : Stmt := L2.inClass (top 8) 0
abbrev t_8 : Stmt := L2.inClass (top 9) 0
abbrev t_9 : Stmt := L2.inClass (top 10) 0
end Pk09

end
section
set_option Elab.async false
set_option maxRecDepth 100000
set_option linter.all false
set_option backward.isDefEq.respectTransparency.types false
set_option maxRecDepth 100000
set_option exponentiation.threshold 5000
namespace Mp
/-! V0: lemmas of the evaluator, for plain proofs. -/
theorem bind_ok {α β : Type} (a : α) (st : Sto) (f : α → Sto → ER β) : ER.bind (.ok a st) f = f a st := by rfl
theorem bind_ex {α β : Type} (x : Exc) (st : Sto) (f : α → Sto → ER β) : ER.bind (.ex x st) f = .ex x st := by rfl
theorem sr_ok {α : Type} (a : α) (st : Sto) (E : Env) (f : α → Sto → SR) : ER.sr (.ok a st) E f = f a st := by rfl
theorem sr_ex {α : Type} (x : Exc) (st : Sto) (E : Env) (f : α → Sto → SR) : ER.sr (.ex x st) E f = .ex x E st := by rfl
theorem opt_some {α : Type} (a : α) (st : Sto) : ER.opt (some a) st = .ok a st := by rfl
theorem seq_nx (E : Env) (st : Sto) (k : Env → Sto → SR) : SR.seq (.nx E st) k = k E st := by rfl
theorem seq_rt (v : Val) (st : Sto) (k : Env → Sto → SR) : SR.seq (.rt v st) k = .rt v st := by rfl
theorem seq_ex (x : Exc) (E : Env) (st : Sto) (k : Env → Sto → SR) : SR.seq (.ex x E st) k = .ex x E st := by rfl
theorem seq_bk (E : Env) (st : Sto) (k : Env → Sto → SR) : SR.seq (.bk E st) k = .bk E st := by rfl
theorem seq_ct (E : Env) (st : Sto) (k : Env → Sto → SR) : SR.seq (.ct E st) k = .ct E st := by rfl
theorem lp_nx (E : Env) (st : Sto) (k : Env → Sto → SR) : SR.lp (.nx E st) k = k E st := by rfl
theorem lp_ct (E : Env) (st : Sto) (k : Env → Sto → SR) : SR.lp (.ct E st) k = k E st := by rfl
theorem lp_bk (E : Env) (st : Sto) (k : Env → Sto → SR) : SR.lp (.bk E st) k = .nx E st := by rfl
theorem lp_rt (v : Val) (st : Sto) (k : Env → Sto → SR) : SR.lp (.rt v st) k = .rt v st := by rfl
theorem lp_ex (x : Exc) (E : Env) (st : Sto) (k : Env → Sto → SR) : SR.lp (.ex x E st) k = .ex x E st := by rfl
theorem try_nx (E : Env) (st : Sto) (k : Exc → Env → Sto → SR) : SR.try (.nx E st) k = .nx E st := by rfl
theorem try_rt (v : Val) (st : Sto) (k : Exc → Env → Sto → SR) : SR.try (.rt v st) k = .rt v st := by rfl
theorem try_ex (x : Exc) (E : Env) (st : Sto) (k : Exc → Env → Sto → SR) : SR.try (.ex x E st) k = k x E st := by rfl
theorem nox_ok {α : Type} (a : α) (st : Sto) : ER.nox (.ok a st) = .ok a st := by rfl
theorem snox_nx (E : Env) (st : Sto) : SR.nox (.nx E st) = .nx E st := by rfl
theorem snox_rt (v : Val) (st : Sto) : SR.nox (.rt v st) = .rt v st := by rfl
theorem snox_ct (E : Env) (st : Sto) : SR.nox (.ct E st) = .ct E st := by rfl
theorem snox_bk (E : Env) (st : Sto) : SR.nox (.bk E st) = .bk E st := by rfl
theorem del_nx (i : Nat) (E : Env) (st : Sto) : SR.del (.nx E st) i = .nx (E.set i none) st := by rfl
theorem del_rt (i : Nat) (v : Val) (st : Sto) : SR.del (.rt v st) i = .rt v st := by rfl
theorem rer_nx (x : Exc) (E : Env) (st : Sto) : SR.rer (.nx E st) x = .ex x E st := by rfl
theorem ifV_bl {α : Type} (b : Bool) (x y z : α) : ifV (.dat (.bl b)) x y z = if b = true then x else y := by rfl
theorem vd_dat (d : D) : Val.d (.dat d) = d := by rfl
theorem vd_new (d : D) : Val.d (.new d) = d := by rfl
theorem vd_bor (d : D) : Val.d (.bor d) = d := by rfl
theorem kp_dat (d : D) : Val.kp (.dat d) = some d := by rfl
theorem kp_lst (l : List D) : Val.kp (.new (.lst l)) = some (.lst l) := by rfl
theorem kp_dct (l : List (D × D)) : Val.kp (.new (.dct l)) = some (.dct l) := by rfl
theorem kp_obj (c : Nat) (l : List (Nat × D)) : Val.kp (.new (.obj c l)) = some (.obj c l) := by rfl
theorem out_dat (d : D) : Val.out (.dat d) = .dat d := by rfl
theorem out_new (d : D) : Val.out (.new d) = .new d := by rfl
theorem out_bor (d : D) : Val.out (.bor d) = .new d := by rfl
theorem it_dat (k : Bool) (d : D) : Val.it k (.dat d) = some d := by cases k <;> rfl
theorem it_bor (d : D) : Val.it false (.bor d) = some d := by rfl
theorem it_newF (d : D) : Val.it false (.new d) = some d := by rfl
theorem it_newT (d : List D) : Val.it true (.new (.lst d)) = some (.lst d) := by rfl
theorem kpL_nil : kpL [] = some [] := by rfl
def kpC (a : Option D) (b : Option (List D)) : Option (List D) := match a, b with | some d, some ds => some (d :: ds) | _, _ => none
theorem kpC_some (d : D) (ds : List D) : kpC (some d) (some ds) = some (d :: ds) := by rfl
theorem kpL_cons (v : Val) (r : List Val) : kpL (v :: r) = kpC v.kp (kpL r) := by rfl
theorem drf_int (st : Sto) (i : Int) : drf st (.int i) = some (.int i) := by rfl
theorem drf_bl (st : Sto) (i : Bool) : drf st (.bl i) = some (.bl i) := by rfl
theorem drf_non (st : Sto) : drf st .non = some .non := by rfl
theorem drf_str (st : Sto) (i : List Nat) : drf st (.str i) = some (.str i) := by rfl
theorem drf_tup (st : Sto) (i : List D) : drf st (.tup i) = some (.tup i) := by rfl
theorem drf_lst (st : Sto) (i : List D) : drf st (.lst i) = some (.lst i) := by rfl
theorem drf_dct (st : Sto) (i : List (D × D)) : drf st (.dct i) = some (.dct i) := by rfl
theorem drf_obj (st : Sto) (c : Nat) (i : List (Nat × D)) : drf st (.obj c i) = some (.obj c i) := by rfl
theorem drf_scr (st : Sto) (i : List Int) : drf st (.scr i) = some (.scr i) := by rfl
theorem drf_ref (st : Sto) (n : Nat) : drf st (.ref n) = st[n]? := by rfl
theorem biV_cons (st : Sto) (v : Val) (r : List Val) : biV st (v :: r) = kpC (drf st v.d) (kpL r) := by rfl
theorem notV_bl (b : Bool) (st : Sto) : notV (.dat (.bl b)) st = .ok (.dat (.bl (!b))) st := by rfl
/-- small: of so many bits -/
class Bd (x : Int) (k : outParam Nat) : Prop where p : x.natAbs < 2 ^ k
theorem big_of {x : Int} {k : Nat} [h : Bd x k] (hk : k ≤ 4000) : big x = true := by
  unfold big
  exact decide_eq_true (Nat.lt_of_lt_of_le h.p (Nat.pow_le_pow_right (by decide) hk))
instance Bd.mul {x y : Int} {k j : Nat} [a : Bd x k] [b : Bd y j] : Bd (x * y) (k + j) := ⟨by
  rw [Int.natAbs_mul, Nat.pow_add]; exact Nat.mul_lt_mul_of_lt_of_le a.p (Nat.le_of_lt b.p) (Nat.pos_of_ne_zero (by simp [Nat.pow_eq_zero]))⟩
theorem pow_lt_s (k : Nat) : 2 ^ k < 2 ^ (k + 1) := Nat.pow_lt_pow_right (by decide) (Nat.lt_succ_self k)
theorem pow_le_a (k j : Nat) : 2 ^ k + 2 ^ j ≤ 2 ^ (k + j + 1) := by
  have h1 : 2 ^ k ≤ 2 ^ (k + j) := Nat.pow_le_pow_right (by decide) (Nat.le_add_right k j)
  have h2 : 2 ^ j ≤ 2 ^ (k + j) := Nat.pow_le_pow_right (by decide) (Nat.le_add_left j k)
  rw [Nat.pow_succ]; omega
instance Bd.add {x y : Int} {k j : Nat} [a : Bd x k] [b : Bd y j] : Bd (x + y) (k + j + 1) := ⟨by
  have := a.p; have := b.p; have := pow_le_a k j; have := Int.natAbs_add_le x y; omega⟩
instance Bd.sub {x y : Int} {k j : Nat} [a : Bd x k] [b : Bd y j] : Bd (x - y) (k + j + 1) := ⟨by
  have := a.p; have := b.p; have := pow_le_a k j; have := Int.natAbs_sub_le x y; omega⟩
instance Bd.neg {x : Int} {k : Nat} [a : Bd x k] : Bd (-x) k := ⟨by rw [Int.natAbs_neg]; exact a.p⟩
def bl (n : Nat) : Nat := if n < 16 then 4 else if n < 65536 then 16 else if n < 1267650600228229401496703205376 then 100 else n
instance Bd.lit {n : Nat} : Bd (no_index (@OfNat.ofNat Int n instOfNat)) (bl n) := ⟨by
  have : (@OfNat.ofNat Int n instOfNat).natAbs = n := by rfl
  rw [this]; unfold bl
  split
  · assumption
  · split
    · assumption
    · split
      · assumption
      · exact Nat.lt_two_pow_self⟩
theorem big_nat {x : Int} (h : x.natAbs < 10 ^ 30) : big x = true := by
  unfold big
  exact decide_eq_true (Nat.lt_of_lt_of_le h (by decide +kernel))
theorem big_int {x : Int} (h1 : -10 ^ 30 < x) (h2 : x < 10 ^ 30) : big x = true := big_nat (by omega)
theorem Bd.mono {x : Int} {k j : Nat} (h : Bd x k) (hk : k ≤ j) : Bd x j := ⟨Nat.lt_of_lt_of_le h.p (Nat.pow_le_pow_right (by decide) hk)⟩
theorem Bd.of {x : Int} (k : Nat) (h : x.natAbs < 2 ^ k) : Bd x k := ⟨h⟩
theorem Bd.of100 {x : Int} (h1 : -10 ^ 30 < x) (h2 : x < 10 ^ 30) : Bd x 100 := ⟨Nat.lt_of_lt_of_le (show x.natAbs < 10 ^ 30 by omega) (by decide +kernel)⟩

/-! frames -/
def vget (v : Option (Option Val)) (st : Sto) : ER Val := match v with
    | some (some (.dat d)) => .ok (.dat d) st
    | some (some (.new d)) => .ok (.bor d) st
    | some (some (.xv c fs)) => .ok (.xv c fs) st
    | _ => .bad
theorem vget_dat (d : D) (st : Sto) : vget (some (some (.dat d))) st = .ok (.dat d) st := by rfl
theorem vget_new (d : D) (st : Sto) : vget (some (some (.new d))) st = .ok (.bor d) st := by rfl
theorem vget_xv (c : Nat) (fs : List (Nat × D)) (st : Sto) : vget (some (some (.xv c fs))) st = .ok (.xv c fs) st := by rfl
theorem fE_non (o : Orc)  (E : Env) (st : Sto) : evE o .non E st = .ok (.dat .non) st := by first | (rw [evE]; done) | (rw [evE]; rfl)
theorem fE_bl (o : Orc) (b : Bool) (E : Env) (st : Sto) : evE o (.bl b) E st = .ok (.dat (.bl b)) st := by first | (rw [evE]; done) | (rw [evE]; rfl)
theorem fE_int (o : Orc) (b : Int) (E : Env) (st : Sto) : evE o (.int b) E st = .ok (.dat (.int b)) st := by first | (rw [evE]; done) | (rw [evE]; rfl)
theorem fE_str (o : Orc) (b : List Nat) (E : Env) (st : Sto) : evE o (.str b) E st = .ok (.dat (.str b)) st := by first | (rw [evE]; done) | (rw [evE]; rfl)
theorem fE_fnv (o : Orc) (f : Nat) (E : Env) (st : Sto) : evE o (.fnv f) E st = .ok (.dat (.fn f)) st := by first | (rw [evE]; done) | (rw [evE]; rfl)
theorem fE_con (o : Orc) (c : Nat) (E : Env) (st : Sto) : evE o (.con c) E st = ER.opt ((o.con c).map .dat) st := by first | (rw [evE]; done) | (rw [evE]; rfl)
theorem fE_var (o : Orc) (i : Nat) (E : Env) (st : Sto) : evE o (.var i) E st = vget E[i]? st := by first | (rw [evE]; done) | (rw [evE]; rfl)
def kBin2 (r : ER Val) (op : Op) (y : Val) : ER Val := r.bind fun x st1 => ER.opt (binF op y.d x.d) st1
theorem kBin2_ok (x : Val) (st1 : Sto) (op : Op) (y : Val) : kBin2 (.ok x st1) op y = ER.opt (binF op y.d x.d) st1 := by rfl
theorem kBin2_ex (x : Exc) (st1 : Sto) (op : Op) (y : Val) : kBin2 (.ex x st1) op y = .ex x st1 := by rfl
def kBin1 (r : ER Val) (o : Orc) (op : Op) (b : ME) (E : Env) : ER Val := r.bind fun x st1 => (evE o b E st1).bind fun y st2 => ER.opt (binF op x.d y.d) st2
theorem kBin1_ok (x : Val) (st1 : Sto) (o : Orc) (op : Op) (b : ME) (E : Env) : kBin1 (.ok x st1) o op b E = kBin2 (evE o b E st1) op x := by rfl
theorem kBin1_ex (x : Exc) (st1 : Sto) (o : Orc) (op : Op) (b : ME) (E : Env) : kBin1 (.ex x st1) o op b E = .ex x st1 := by rfl
theorem fE_bin (o : Orc) (op : Op) (a b : ME) (E : Env) (st : Sto) : evE o (.bin op a b) E st = kBin1 (evE o a E st) o op b E := by first | (rw [evE]; done) | (rw [evE]; rfl)
def kNeg (r : ER Val) : ER Val := r.bind fun x st1 => match x.d with | .int i => .ok (.dat (.int (-i))) st1 | _ => .bad
theorem kNeg_ok (i : Int) (st : Sto) : kNeg (.ok (.dat (.int i)) st) = .ok (.dat (.int (-i))) st := by rfl
theorem fE_neg (o : Orc) (a : ME) (E : Env) (st : Sto) : evE o (.neg a) E st = kNeg (evE o a E st) := by first | (rw [evE]; done) | (rw [evE]; rfl)
def cmpV (o : Orc) (op : Cp) (x y : Val) (st2 : Sto) : ER Val := match op with
    | .eq => eqC o x.d y.d st2
    | .ne => (eqC o x.d y.d st2).bind fun t st3 => notV t st3
    | _ => ER.opt ((drf st2 y.d).bind fun z => (cmpF op x.d z).map fun t => .dat (.bl t)) st2
def kNot (r : ER Val)  : ER Val := r.bind fun x st1 => notV x st1
theorem kNot_ok (x : Val) (st1 : Sto)  : kNot (.ok x st1)  = notV x st1 := by rfl
theorem kNot_ex (x : Exc) (st1 : Sto)  : kNot (.ex x st1)  = .ex x st1 := by rfl
theorem cmpV_eq (o : Orc) (x y : Val) (st : Sto) : cmpV o .eq x y st = eqC o x.d y.d st := by rfl
theorem cmpV_ne (o : Orc) (x y : Val) (st : Sto) : cmpV o .ne x y st = kNot (eqC o x.d y.d st) := by rfl
theorem cmpV_lt (o : Orc) (x y : Val) (st : Sto) : cmpV o .lt x y st = ER.opt ((drf st y.d).bind fun z => (cmpF .lt x.d z).map fun t => .dat (.bl t)) st := by rfl
theorem cmpV_le (o : Orc) (x y : Val) (st : Sto) : cmpV o .le x y st = ER.opt ((drf st y.d).bind fun z => (cmpF .le x.d z).map fun t => .dat (.bl t)) st := by rfl
theorem cmpV_gt (o : Orc) (x y : Val) (st : Sto) : cmpV o .gt x y st = ER.opt ((drf st y.d).bind fun z => (cmpF .gt x.d z).map fun t => .dat (.bl t)) st := by rfl
theorem cmpV_ge (o : Orc) (x y : Val) (st : Sto) : cmpV o .ge x y st = ER.opt ((drf st y.d).bind fun z => (cmpF .ge x.d z).map fun t => .dat (.bl t)) st := by rfl
theorem cmpV_isin (o : Orc) (x y : Val) (st : Sto) : cmpV o .isin x y st = ER.opt ((drf st y.d).bind fun z => (cmpF .isin x.d z).map fun t => .dat (.bl t)) st := by rfl
theorem cmpV_notin (o : Orc) (x y : Val) (st : Sto) : cmpV o .notin x y st = ER.opt ((drf st y.d).bind fun z => (cmpF .notin x.d z).map fun t => .dat (.bl t)) st := by rfl
def kCmp2 (r : ER Val) (o : Orc) (op : Cp) (y : Val) : ER Val := r.bind fun x st1 => cmpV o op y x st1
theorem kCmp2_ok (x : Val) (st1 : Sto) (o : Orc) (op : Cp) (y : Val) : kCmp2 (.ok x st1) o op y = cmpV o op y x st1 := by rfl
theorem kCmp2_ex (x : Exc) (st1 : Sto) (o : Orc) (op : Cp) (y : Val) : kCmp2 (.ex x st1) o op y = .ex x st1 := by rfl
def kCmp1 (r : ER Val) (o : Orc) (op : Cp) (b : ME) (E : Env) : ER Val := r.bind fun x st1 => (evE o b E st1).bind fun y st2 => cmpV o op x y st2
theorem kCmp1_ok (x : Val) (st1 : Sto) (o : Orc) (op : Cp) (b : ME) (E : Env) : kCmp1 (.ok x st1) o op b E = kCmp2 (evE o b E st1) o op x := by rfl
theorem kCmp1_ex (x : Exc) (st1 : Sto) (o : Orc) (op : Cp) (b : ME) (E : Env) : kCmp1 (.ex x st1) o op b E = .ex x st1 := by rfl
theorem fE_cmp (o : Orc) (op : Cp) (a b : ME) (E : Env) (st : Sto) : evE o (.cmp op a b) E st = kCmp1 (evE o a E st) o op b E := by rw [evE]; cases op <;> rfl
def chnB (r : Option Bool) (o : Orc) (o2 : Cp) (y : Val) (c : ME) (E : Env) (st : Sto) : ER Val := (ER.opt r st).bind fun r st3 => if r then (evE o c E st3).bind fun z st4 => ER.opt ((cmpF o2 y.d z.d).map fun t => .dat (.bl t)) st4 else .ok (.dat (.bl false)) st3
def kChn3 (r : ER Val) (o2 : Cp) (y : Val) : ER Val := r.bind fun x st1 => ER.opt ((cmpF o2 y.d x.d).map fun t => .dat (.bl t)) st1
theorem kChn3_ok (x : Val) (st1 : Sto) (o2 : Cp) (y : Val) : kChn3 (.ok x st1) o2 y = ER.opt ((cmpF o2 y.d x.d).map fun t => .dat (.bl t)) st1 := by rfl
theorem kChn3_ex (x : Exc) (st1 : Sto) (o2 : Cp) (y : Val) : kChn3 (.ex x st1) o2 y = .ex x st1 := by rfl
theorem chnB_b (r : Bool) (o : Orc) (o2 : Cp) (y : Val) (c : ME) (E : Env) (st : Sto) : chnB (some r) o o2 y c E st = if r = true then kChn3 (evE o c E st) o2 y else .ok (.dat (.bl false)) st := by rfl
def kChn2 (r : ER Val) (o : Orc) (o1 o2 : Cp) (y : Val) (c : ME) (E : Env) : ER Val := r.bind fun x st1 => chnB (cmpF o1 y.d x.d) o o2 x c E st1
theorem kChn2_ok (x : Val) (st1 : Sto) (o : Orc) (o1 o2 : Cp) (y : Val) (c : ME) (E : Env) : kChn2 (.ok x st1) o o1 o2 y c E = chnB (cmpF o1 y.d x.d) o o2 x c E st1 := by rfl
theorem kChn2_ex (x : Exc) (st1 : Sto) (o : Orc) (o1 o2 : Cp) (y : Val) (c : ME) (E : Env) : kChn2 (.ex x st1) o o1 o2 y c E = .ex x st1 := by rfl
def kChn1 (r : ER Val) (o : Orc) (o1 o2 : Cp) (b c : ME) (E : Env) : ER Val := r.bind fun x st1 => (evE o b E st1).bind fun y st2 => chnB (cmpF o1 x.d y.d) o o2 y c E st2
theorem kChn1_ok (x : Val) (st1 : Sto) (o : Orc) (o1 o2 : Cp) (b c : ME) (E : Env) : kChn1 (.ok x st1) o o1 o2 b c E = kChn2 (evE o b E st1) o o1 o2 x c E := by rfl
theorem kChn1_ex (x : Exc) (st1 : Sto) (o : Orc) (o1 o2 : Cp) (b c : ME) (E : Env) : kChn1 (.ex x st1) o o1 o2 b c E = .ex x st1 := by rfl
theorem fE_chn (o : Orc) (o1 o2 : Cp) (a b c : ME) (E : Env) (st : Sto) : evE o (.chn o1 o2 a b c) E st = kChn1 (evE o a E st) o o1 o2 b c E := by first | (rw [evE]; done) | (rw [evE]; rfl)
def kIsN (r : ER Val)  : ER Val := r.bind fun x st1 => ER.opt (x.d.isNon.map fun t => .dat (.bl t)) st1
theorem kIsN_ok (x : Val) (st1 : Sto)  : kIsN (.ok x st1)  = ER.opt (x.d.isNon.map fun t => .dat (.bl t)) st1 := by rfl
theorem kIsN_ex (x : Exc) (st1 : Sto)  : kIsN (.ex x st1)  = .ex x st1 := by rfl
def kNotN (r : ER Val)  : ER Val := r.bind fun x st1 => ER.opt (x.d.isNon.map fun t => .dat (.bl (!t))) st1
theorem kNotN_ok (x : Val) (st1 : Sto)  : kNotN (.ok x st1)  = ER.opt (x.d.isNon.map fun t => .dat (.bl (!t))) st1 := by rfl
theorem kNotN_ex (x : Exc) (st1 : Sto)  : kNotN (.ex x st1)  = .ex x st1 := by rfl
theorem fE_isN (o : Orc) (a : ME) (E : Env) (st : Sto) : evE o (.isN a) E st = kIsN (evE o a E st) := by first | (rw [evE]; done) | (rw [evE]; rfl)
theorem fE_notN (o : Orc) (a : ME) (E : Env) (st : Sto) : evE o (.notN a) E st = kNotN (evE o a E st) := by first | (rw [evE]; done) | (rw [evE]; rfl)
def kNeR2 (r : ER Val) (y : Val) : ER Val := r.bind fun x st1 => if repOk x.d && same y.d x.d then .ok (.dat (.bl false)) st1 else .bad
theorem kNeR2_ok (x : Val) (st1 : Sto) (y : Val) : kNeR2 (.ok x st1) y = if (repOk x.d && same y.d x.d) = true then .ok (.dat (.bl false)) st1 else .bad := by rfl
theorem kNeR2_ex (x : Exc) (st1 : Sto) (y : Val) : kNeR2 (.ex x st1) y = .ex x st1 := by rfl
def kNeR1 (r : ER Val) (o : Orc) (b : ME) (E : Env) : ER Val := r.bind fun x st1 => if repOk x.d then (evE o b E st1).bind fun y st2 => if repOk y.d && same x.d y.d then .ok (.dat (.bl false)) st2 else .bad else .bad
theorem kNeR1_ok (x : Val) (st1 : Sto) (o : Orc) (b : ME) (E : Env) : kNeR1 (.ok x st1) o b E = if repOk x.d = true then kNeR2 (evE o b E st1) x else .bad := by rfl
theorem kNeR1_ex (x : Exc) (st1 : Sto) (o : Orc) (b : ME) (E : Env) : kNeR1 (.ex x st1) o b E = .ex x st1 := by rfl
theorem fE_neR (o : Orc) (a b : ME) (E : Env) (st : Sto) : evE o (.neR a b) E st = kNeR1 (evE o a E st) o b E := by first | (rw [evE]; done) | (rw [evE]; rfl)
def kAnd (r : ER Val) (o : Orc) (es : List ME) (E : Env) : ER Val := r.bind fun v st1 => ifV v (evAnd o es E st1) ((.ok (.dat (.bl false)) st1)) .bad
theorem kAnd_b (b : Bool) (st1 : Sto) (o : Orc) (es : List ME) (E : Env) : kAnd (.ok (.dat (.bl b)) st1) o es E = if b = true then evAnd o es E st1 else (.ok (.dat (.bl false)) st1) := by rfl
theorem kAnd_ex (x : Exc) (st1 : Sto) (o : Orc) (es : List ME) (E : Env) : kAnd (.ex x st1) o es E = .ex x st1 := by rfl
theorem fAnd_1 (o : Orc) (e : ME) (E : Env) (st : Sto) : evAnd o [e] E st = evE o e E st := by rw [evAnd]
theorem fAnd_2 (o : Orc) (e f : ME) (es : List ME) (E : Env) (st : Sto) : evAnd o (e :: f :: es) E st = kAnd (evE o e E st) o (f :: es) E := by rw [evAnd]; rfl
def kOr (r : ER Val) (o : Orc) (es : List ME) (E : Env) : ER Val := r.bind fun v st1 => ifV v ((.ok (.dat (.bl true)) st1)) (evOr o es E st1) .bad
theorem kOr_b (b : Bool) (st1 : Sto) (o : Orc) (es : List ME) (E : Env) : kOr (.ok (.dat (.bl b)) st1) o es E = if b = true then (.ok (.dat (.bl true)) st1) else evOr o es E st1 := by rfl
theorem kOr_ex (x : Exc) (st1 : Sto) (o : Orc) (es : List ME) (E : Env) : kOr (.ex x st1) o es E = .ex x st1 := by rfl
theorem fOr_1 (o : Orc) (e : ME) (E : Env) (st : Sto) : evOr o [e] E st = evE o e E st := by rw [evOr]
theorem fOr_2 (o : Orc) (e f : ME) (es : List ME) (E : Env) (st : Sto) : evOr o (e :: f :: es) E st = kOr (evE o e E st) o (f :: es) E := by rw [evOr]; rfl
theorem fE_and (o : Orc) (es : List ME) (E : Env) (st : Sto) : evE o (.and es) E st = evAnd o es E st := by first | (rw [evE]; done) | (rw [evE]; rfl)
theorem fE_or (o : Orc) (es : List ME) (E : Env) (st : Sto) : evE o (.or es) E st = evOr o es E st := by first | (rw [evE]; done) | (rw [evE]; rfl)
theorem fE_not (o : Orc) (a : ME) (E : Env) (st : Sto) : evE o (.not a) E st = kNot (evE o a E st) := by first | (rw [evE]; done) | (rw [evE]; rfl)
def kIfe (r : ER Val) (o : Orc) (a b : ME) (E : Env) : ER Val := r.bind fun v st1 => ifV v (evE o a E st1) (evE o b E st1) .bad
theorem kIfe_b (t : Bool) (st1 : Sto) (o : Orc) (a b : ME) (E : Env) : kIfe (.ok (.dat (.bl t)) st1) o a b E = if t = true then evE o a E st1 else evE o b E st1 := by rfl
theorem kIfe_ex (x : Exc) (st1 : Sto) (o : Orc) (a b : ME) (E : Env) : kIfe (.ex x st1) o a b E = .ex x st1 := by rfl
theorem fE_ife (o : Orc) (c a b : ME) (E : Env) (st : Sto) : evE o (.ife c a b) E st = kIfe (evE o c E st) o a b E := by first | (rw [evE]; done) | (rw [evE]; rfl)
def kL2 (r : ER (List Val)) (v : Val) : ER (List Val) := r.bind fun x st1 => .ok (v :: x) st1
theorem kL2_ok (x : (List Val)) (st1 : Sto) (v : Val) : kL2 (.ok x st1) v = .ok (v :: x) st1 := by rfl
theorem kL2_ex (x : Exc) (st1 : Sto) (v : Val) : kL2 (.ex x st1) v = .ex x st1 := by rfl
def kL1 (r : ER Val) (o : Orc) (es : List ME) (E : Env) : ER (List Val) := r.bind fun x st1 => (evL o es E st1).bind fun vs st2 => .ok (x :: vs) st2
theorem kL1_ok (x : Val) (st1 : Sto) (o : Orc) (es : List ME) (E : Env) : kL1 (.ok x st1) o es E = kL2 (evL o es E st1) x := by rfl
theorem kL1_ex (x : Exc) (st1 : Sto) (o : Orc) (es : List ME) (E : Env) : kL1 (.ex x st1) o es E = .ex x st1 := by rfl
theorem fL_nil (o : Orc) (E : Env) (st : Sto) : evL o [] E st = .ok [] st := by rw [evL]
theorem fL_cons (o : Orc) (e : ME) (es : List ME) (E : Env) (st : Sto) : evL o (e :: es) E st = kL1 (evE o e E st) o es E := by rw [evL]; rfl
def kTup (r : ER (List Val))  : ER Val := r.bind fun x st1 => ER.opt ((kpL x).map fun ds => .dat (.tup ds)) st1
theorem kTup_ok (x : (List Val)) (st1 : Sto)  : kTup (.ok x st1)  = ER.opt ((kpL x).map fun ds => .dat (.tup ds)) st1 := by rfl
theorem kTup_ex (x : Exc) (st1 : Sto)  : kTup (.ex x st1)  = .ex x st1 := by rfl
def kLst (r : ER (List Val))  : ER Val := r.bind fun x st1 => ER.opt ((kpL x).map fun ds => .new (.lst ds)) st1
theorem kLst_ok (x : (List Val)) (st1 : Sto)  : kLst (.ok x st1)  = ER.opt ((kpL x).map fun ds => .new (.lst ds)) st1 := by rfl
theorem kLst_ex (x : Exc) (st1 : Sto)  : kLst (.ex x st1)  = .ex x st1 := by rfl
theorem fE_tup (o : Orc) (es : List ME) (E : Env) (st : Sto) : evE o (.tup es) E st = kTup (evL o es E st) := by first | (rw [evE]; done) | (rw [evE]; rfl)
theorem fE_lst (o : Orc) (es : List ME) (E : Env) (st : Sto) : evE o (.lst es) E st = kLst (evL o es E st) := by first | (rw [evE]; done) | (rw [evE]; rfl)
def dctV (a b : Option (List D)) (st : Sto) : ER Val := match a, b with
    | some ks, some vs => ER.opt ((dOfL ((ks.zip vs).map fun p => .tup [p.1, p.2]) []).map fun l => .new (.dct l)) st
    | _, _ => .bad
theorem dctV_some (ks vs : List D) (st : Sto) : dctV (some ks) (some vs) st = ER.opt ((dOfL ((ks.zip vs).map fun p => .tup [p.1, p.2]) []).map fun l => .new (.dct l)) st := by rfl
def kDct2 (r : ER (List Val)) (a : List Val) : ER Val := r.bind fun x st1 => dctV (kpL a) (kpL x) st1
theorem kDct2_ok (x : (List Val)) (st1 : Sto) (a : List Val) : kDct2 (.ok x st1) a = dctV (kpL a) (kpL x) st1 := by rfl
theorem kDct2_ex (x : Exc) (st1 : Sto) (a : List Val) : kDct2 (.ex x st1) a = .ex x st1 := by rfl
def kDct1 (r : ER (List Val)) (o : Orc) (vs : List ME) (E : Env) : ER Val := r.bind fun x st1 => (evL o vs E st1).bind fun b st2 => dctV (kpL x) (kpL b) st2
theorem kDct1_ok (x : (List Val)) (st1 : Sto) (o : Orc) (vs : List ME) (E : Env) : kDct1 (.ok x st1) o vs E = kDct2 (evL o vs E st1) x := by rfl
theorem kDct1_ex (x : Exc) (st1 : Sto) (o : Orc) (vs : List ME) (E : Env) : kDct1 (.ex x st1) o vs E = .ex x st1 := by rfl
theorem fE_dct (o : Orc) (ks vs : List ME) (E : Env) (st : Sto) : evE o (.dct ks vs) E st = kDct1 (evL o ks E st) o vs E := by first | (rw [evE]; done) | (rw [evE]; rfl)
def kFld (r : ER Val) (o : Orc) (k : Nat) : ER Val := r.bind fun x st1 => ER.opt ((fldV o.flds o.cf st1 x k).map .dat) st1
theorem kFld_ok (x : Val) (st1 : Sto) (o : Orc) (k : Nat) : kFld (.ok x st1) o k = ER.opt ((fldV o.flds o.cf st1 x k).map .dat) st1 := by rfl
theorem kFld_ex (x : Exc) (st1 : Sto) (o : Orc) (k : Nat) : kFld (.ex x st1) o k = .ex x st1 := by rfl
theorem fE_fld (o : Orc) (a : ME) (k : Nat) (E : Env) (st : Sto) : evE o (.fld a k) E st = kFld (evE o a E st) o k := by first | (rw [evE]; done) | (rw [evE]; rfl)
def kSub2 (r : ER Val) (y : Val) : ER Val := r.bind fun x st1 => ER.opt (((drf st1 y.d).bind fun d => getF d x.d).map .dat) st1
theorem kSub2_ok (x : Val) (st1 : Sto) (y : Val) : kSub2 (.ok x st1) y = ER.opt (((drf st1 y.d).bind fun d => getF d x.d).map .dat) st1 := by rfl
theorem kSub2_ex (x : Exc) (st1 : Sto) (y : Val) : kSub2 (.ex x st1) y = .ex x st1 := by rfl
def kSub1 (r : ER Val) (o : Orc) (i : ME) (E : Env) : ER Val := r.bind fun x st1 => (evE o i E st1).bind fun y st2 => ER.opt (((drf st2 x.d).bind fun d => getF d y.d).map .dat) st2
theorem kSub1_ok (x : Val) (st1 : Sto) (o : Orc) (i : ME) (E : Env) : kSub1 (.ok x st1) o i E = kSub2 (evE o i E st1) x := by rfl
theorem kSub1_ex (x : Exc) (st1 : Sto) (o : Orc) (i : ME) (E : Env) : kSub1 (.ex x st1) o i E = .ex x st1 := by rfl
theorem fE_sub (o : Orc) (a i : ME) (E : Env) (st : Sto) : evE o (.sub a i) E st = kSub1 (evE o a E st) o i E := by first | (rw [evE]; done) | (rw [evE]; rfl)
def kslU2 (r : ER Val) (x : Val) : ER Val := r.bind fun y st2 => match y.d with | .int j => ER.opt ((drf st2 x.d).bind fun d => slcF d none (some j)) st2 | _ => .bad
theorem kslU2_ok (j : Int) (st2 : Sto) (x : Val) : kslU2 (.ok (.dat (.int j)) st2) x = ER.opt ((drf st2 x.d).bind fun d => slcF d none (some j)) st2 := by rfl
def kslU1 (r : ER Val) (o : Orc) (i : ME) (E : Env) : ER Val := r.bind fun x st1 => kslU2 (evE o i E st1) x
theorem kslU1_ok (x : Val) (st1 : Sto) (o : Orc) (i : ME) (E : Env) : kslU1 (.ok x st1) o i E = kslU2 (evE o i E st1) x := by rfl
theorem kslU1_ex (x : Exc) (st1 : Sto) (o : Orc) (i : ME) (E : Env) : kslU1 (.ex x st1) o i E = .ex x st1 := by rfl
theorem fE_slU (o : Orc) (a i : ME) (E : Env) (st : Sto) : evE o (.slU a i) E st = kslU1 (evE o a E st) o i E := by first | (rw [evE]; done) | (rw [evE]; rfl)
def kslL2 (r : ER Val) (x : Val) : ER Val := r.bind fun y st2 => match y.d with | .int j => ER.opt ((drf st2 x.d).bind fun d => slcF d (some j) none) st2 | _ => .bad
theorem kslL2_ok (j : Int) (st2 : Sto) (x : Val) : kslL2 (.ok (.dat (.int j)) st2) x = ER.opt ((drf st2 x.d).bind fun d => slcF d (some j) none) st2 := by rfl
def kslL1 (r : ER Val) (o : Orc) (i : ME) (E : Env) : ER Val := r.bind fun x st1 => kslL2 (evE o i E st1) x
theorem kslL1_ok (x : Val) (st1 : Sto) (o : Orc) (i : ME) (E : Env) : kslL1 (.ok x st1) o i E = kslL2 (evE o i E st1) x := by rfl
theorem kslL1_ex (x : Exc) (st1 : Sto) (o : Orc) (i : ME) (E : Env) : kslL1 (.ex x st1) o i E = .ex x st1 := by rfl
theorem fE_slL (o : Orc) (a i : ME) (E : Env) (st : Sto) : evE o (.slL a i) E st = kslL1 (evE o a E st) o i E := by first | (rw [evE]; done) | (rw [evE]; rfl)
def kslB3 (r : ER Val) (x : Val) (i : Int) : ER Val := r.bind fun z st3 => match z.d with | .int j => ER.opt ((drf st3 x.d).bind fun d => slcF d (some i) (some j)) st3 | _ => .bad
theorem kslB3_ok (j : Int) (st3 : Sto) (x : Val) (i : Int) : kslB3 (.ok (.dat (.int j)) st3) x i = ER.opt ((drf st3 x.d).bind fun d => slcF d (some i) (some j)) st3 := by rfl
def kslB2 (r : ER Val) (x : Val) (o : Orc) (hi : ME) (E : Env) : ER Val := r.bind fun y st2 => match y.d with | .int i => kslB3 (evE o hi E st2) x i | _ => .bad
theorem kslB2_ok (i : Int) (st2 : Sto) (x : Val) (o : Orc) (hi : ME) (E : Env) : kslB2 (.ok (.dat (.int i)) st2) x o hi E = kslB3 (evE o hi E st2) x i := by rfl
def kslB1 (r : ER Val) (o : Orc) (lo hi : ME) (E : Env) : ER Val := r.bind fun x st1 => kslB2 (evE o lo E st1) x o hi E
theorem kslB1_ok (x : Val) (st1 : Sto) (o : Orc) (lo hi : ME) (E : Env) : kslB1 (.ok x st1) o lo hi E = kslB2 (evE o lo E st1) x o hi E := by rfl
theorem kslB1_ex (x : Exc) (st1 : Sto) (o : Orc) (lo hi : ME) (E : Env) : kslB1 (.ex x st1) o lo hi E = .ex x st1 := by rfl
theorem fE_slB (o : Orc) (a lo hi : ME) (E : Env) (st : Sto) : evE o (.slB a lo hi) E st = kslB1 (evE o a E st) o lo hi E := by first | (rw [evE]; done) | (rw [evE]; rfl)
def kRev (r : ER Val)  : ER Val := r.bind fun x st1 => ER.opt ((drf st1 x.d).bind revF) st1
theorem kRev_ok (x : Val) (st1 : Sto)  : kRev (.ok x st1)  = ER.opt ((drf st1 x.d).bind revF) st1 := by rfl
theorem kRev_ex (x : Exc) (st1 : Sto)  : kRev (.ex x st1)  = .ex x st1 := by rfl
theorem fE_rev (o : Orc) (a : ME) (E : Env) (st : Sto) : evE o (.rev a) E st = kRev (evE o a E st) := by first | (rw [evE]; done) | (rw [evE]; rfl)
def callV (o : Orc) (f : Nat) (ds : Option (List D)) (st : Sto) : ER Val := match ds with | some ds => o.call f ds st | none => .bad
theorem callV_some (o : Orc) (f : Nat) (ds : List D) (st : Sto) : callV o f (some ds) st = o.call f ds st := by rfl
def kCall (r : ER (List Val)) (o : Orc) (f : Nat) : ER Val := r.bind fun x st1 => callV o f (kpL x) st1
theorem kCall_ok (x : (List Val)) (st1 : Sto) (o : Orc) (f : Nat) : kCall (.ok x st1) o f = callV o f (kpL x) st1 := by rfl
theorem kCall_ex (x : Exc) (st1 : Sto) (o : Orc) (f : Nat) : kCall (.ex x st1) o f = .ex x st1 := by rfl
theorem fE_call (o : Orc) (f : Nat) (es : List ME) (E : Env) (st : Sto) : evE o (.call f es) E st = kCall (evL o es E st) o f := by first | (rw [evE]; done) | (rw [evE]; rfl)
def calvG (o : Orc) (v : Option (Option Val)) (es : List ME) (E : Env) (st : Sto) : ER Val := match v with | some (some (.dat (.fn f))) => if o.fnk f then kCall (evL o es E st) o f else .bad | _ => .bad
theorem calvG_fn (o : Orc) (f : Nat) (es : List ME) (E : Env) (st : Sto) : calvG o (some (some (.dat (.fn f)))) es E st = if o.fnk f then kCall (evL o es E st) o f else .bad := by rfl
theorem fE_calv (o : Orc) (i : Nat) (es : List ME) (E : Env) (st : Sto) : evE o (.calv i es) E st = calvG o E[i]? es E st := by first | (rw [evE]; done) | (rw [evE]; rfl)
def methV (o : Orc) (f : Nat) (x : Option D) (ds : Option (List D)) (st : Sto) : ER Val := match x, ds with
    | some d, some ds => o.call f (d :: ds) st
    | _, _ => .bad
theorem methV_some (o : Orc) (f : Nat) (d : D) (ds : List D) (st : Sto) : methV o f (some d) (some ds) st = o.call f (d :: ds) st := by rfl
def kMeth2 (r : ER (List Val)) (o : Orc) (f : Nat) (y : Val) : ER Val := r.bind fun x st1 => methV o f y.kp (kpL x) st1
theorem kMeth2_ok (x : (List Val)) (st1 : Sto) (o : Orc) (f : Nat) (y : Val) : kMeth2 (.ok x st1) o f y = methV o f y.kp (kpL x) st1 := by rfl
theorem kMeth2_ex (x : Exc) (st1 : Sto) (o : Orc) (f : Nat) (y : Val) : kMeth2 (.ex x st1) o f y = .ex x st1 := by rfl
def methG (f : Option Nat) (o : Orc) (y : Val) (es : List ME) (E : Env) (st : Sto) : ER Val := (ER.opt f st).bind fun f st1 => kMeth2 (evL o es E st1) o f y
theorem methG_some (f : Nat) (o : Orc) (y : Val) (es : List ME) (E : Env) (st : Sto) : methG (some f) o y es E st = kMeth2 (evL o es E st) o f y := by rfl
def kMeth1 (r : ER Val) (o : Orc) (m : Nat) (es : List ME) (E : Env) : ER Val := r.bind fun x st1 => methG (mthO o.mth (drf st1 x.d) m) o x es E st1
theorem kMeth1_ok (x : Val) (st1 : Sto) (o : Orc) (m : Nat) (es : List ME) (E : Env) : kMeth1 (.ok x st1) o m es E = methG (mthO o.mth (drf st1 x.d) m) o x es E st1 := by rfl
theorem kMeth1_ex (x : Exc) (st1 : Sto) (o : Orc) (m : Nat) (es : List ME) (E : Env) : kMeth1 (.ex x st1) o m es E = .ex x st1 := by rfl
theorem fE_meth (o : Orc) (a : ME) (m : Nat) (es : List ME) (E : Env) (st : Sto) : evE o (.meth a m es) E st = kMeth1 (evE o a E st) o m es E := by first | (rw [evE]; done) | (rw [evE]; rfl)
def kEqo2 (r : ER Val) (o : Orc) (ng : Bool) (y : Val) : ER Val := r.bind fun x st1 => eqO o ng y x st1
theorem kEqo2_ok (x : Val) (st1 : Sto) (o : Orc) (ng : Bool) (y : Val) : kEqo2 (.ok x st1) o ng y = eqO o ng y x st1 := by rfl
theorem kEqo2_ex (x : Exc) (st1 : Sto) (o : Orc) (ng : Bool) (y : Val) : kEqo2 (.ex x st1) o ng y = .ex x st1 := by rfl
def kEqo1 (r : ER Val) (o : Orc) (ng : Bool) (b : ME) (E : Env) : ER Val := r.bind fun x st1 => kEqo2 (evE o b E st1) o ng x
theorem kEqo1_ok (x : Val) (st1 : Sto) (o : Orc) (ng : Bool) (b : ME) (E : Env) : kEqo1 (.ok x st1) o ng b E = kEqo2 (evE o b E st1) o ng x := by rfl
theorem kEqo1_ex (x : Exc) (st1 : Sto) (o : Orc) (ng : Bool) (b : ME) (E : Env) : kEqo1 (.ex x st1) o ng b E = .ex x st1 := by rfl
theorem fE_eqo (o : Orc) (ng : Bool) (a b : ME) (E : Env) (st : Sto) : evE o (.eqo ng a b) E st = kEqo1 (evE o a E st) o ng b E := by first | (rw [evE]; done) | (rw [evE]; rfl)
def kBm2 (r : ER (List Val)) (b : BI) (y : Val) : ER Val := r.bind fun x st1 => ER.opt ((kpL x).bind fun ds => biF b (y.d :: ds)) st1
theorem kBm2_ok (x : (List Val)) (st1 : Sto) (b : BI) (y : Val) : kBm2 (.ok x st1) b y = ER.opt ((kpL x).bind fun ds => biF b (y.d :: ds)) st1 := by rfl
theorem kBm2_ex (x : Exc) (st1 : Sto) (b : BI) (y : Val) : kBm2 (.ex x st1) b y = .ex x st1 := by rfl
def kBm1 (r : ER Val) (o : Orc) (b : BI) (es : List ME) (E : Env) : ER Val := r.bind fun x st1 => if rcv b x.d then kBm2 (evL o es E st1) b x else .bad
theorem kBm1_ok (x : Val) (st1 : Sto) (o : Orc) (b : BI) (es : List ME) (E : Env) : kBm1 (.ok x st1) o b es E = if rcv b x.d then kBm2 (evL o es E st1) b x else .bad := by rfl
theorem kBm1_ex (x : Exc) (st1 : Sto) (o : Orc) (b : BI) (es : List ME) (E : Env) : kBm1 (.ex x st1) o b es E = .ex x st1 := by rfl
theorem fE_bm (o : Orc) (b : BI) (a : ME) (es : List ME) (E : Env) (st : Sto) : evE o (.bm b a es) E st = kBm1 (evE o a E st) o b es E := by first | (rw [evE]; done) | (rw [evE]; rfl)
def makeV (o : Orc) (f : Nat) (ds : Option (List D)) (st : Sto) : ER Val := match ds with | some ds => o.make f ds st | none => .bad
theorem makeV_some (o : Orc) (f : Nat) (ds : List D) (st : Sto) : makeV o f (some ds) st = o.make f ds st := by rfl
def kMake (r : ER (List Val)) (o : Orc) (f : Nat) : ER Val := r.bind fun x st1 => makeV o f (kpL x) st1
theorem kMake_ok (x : (List Val)) (st1 : Sto) (o : Orc) (f : Nat) : kMake (.ok x st1) o f = makeV o f (kpL x) st1 := by rfl
theorem kMake_ex (x : Exc) (st1 : Sto) (o : Orc) (f : Nat) : kMake (.ex x st1) o f = .ex x st1 := by rfl
theorem fE_make (o : Orc) (f : Nat) (es : List ME) (E : Env) (st : Sto) : evE o (.make f es) E st = kMake (evL o es E st) o f := by first | (rw [evE]; done) | (rw [evE]; rfl)
def kXfl (r : ER (List Val)) (ks : List Nat) (k : Nat) : ER Val := r.bind fun x st1 => ER.opt ((kpL x).bind fun ds => ((ks.zip ds).lookup k).map .dat) st1
theorem kXfl_ok (x : (List Val)) (st1 : Sto) (ks : List Nat) (k : Nat) : kXfl (.ok x st1) ks k = ER.opt ((kpL x).bind fun ds => ((ks.zip ds).lookup k).map .dat) st1 := by rfl
theorem kXfl_ex (x : Exc) (st1 : Sto) (ks : List Nat) (k : Nat) : kXfl (.ex x st1) ks k = .ex x st1 := by rfl
theorem fE_xfl (o : Orc) (c : Nat) (ks : List Nat) (es : List ME) (k : Nat) (E : Env) (st : Sto) : evE o (.xfl c ks es k) E st = if kwOk (o.flds c) ks = true then kXfl (evL o es E st) ks k else .bad := by first | (rw [evE]; done) | (rw [evE]; rfl)
def kBi (r : ER (List Val)) (b : BI) : ER Val := r.bind fun x st1 => ER.opt ((biV st1 x).bind (biF b)) st1
theorem kBi_ok (x : (List Val)) (st1 : Sto) (b : BI) : kBi (.ok x st1) b = ER.opt ((biV st1 x).bind (biF b)) st1 := by rfl
theorem kBi_ex (x : Exc) (st1 : Sto) (b : BI) : kBi (.ex x st1) b = .ex x st1 := by rfl
theorem fE_bi (o : Orc) (b : BI) (es : List ME) (E : Env) (st : Sto) : evE o (.bi b es) E st = kBi (evL o es E st) b := by first | (rw [evE]; done) | (rw [evE]; rfl)
def lenV2 (o : Orc) (f : Option Nat) (d : D) (st : Sto) : ER Val := match f with | some f => o.call f [d] st | none => .bad
def lenV (o : Orc) (x : Option D) (st : Sto) : ER Val := (ER.opt x st).bind fun d st2 => lenV2 o ((clsOf st2 d).bind o.lenm) d st2
theorem lenV2_some (o : Orc) (f : Nat) (d : D) (st : Sto) : lenV2 o (some f) d st = o.call f [d] st := by rfl
theorem lenV_some (o : Orc) (d : D) (st : Sto) : lenV o (some d) st = lenV2 o ((clsOf st d).bind o.lenm) d st := by rfl
def kLenO (r : ER Val) (o : Orc) : ER Val := r.bind fun x st1 => lenV o x.kp st1
theorem kLenO_ok (x : Val) (st1 : Sto) (o : Orc) : kLenO (.ok x st1) o = lenV o x.kp st1 := by rfl
theorem kLenO_ex (x : Exc) (st1 : Sto) (o : Orc) : kLenO (.ex x st1) o = .ex x st1 := by rfl
theorem fE_lenO (o : Orc) (e : ME) (E : Env) (st : Sto) : evE o (.lenO e) E st = kLenO (evE o e E st) o := by first | (rw [evE]; done) | (rw [evE]; rfl)
def kIsi (r : ER Val) (o : Orc) (ts : List Ty) : ER Val := r.bind fun x st1 => ER.opt ((isiV o.sup ts st1 x).map fun t => .dat (.bl t)) st1
theorem kIsi_ok (x : Val) (st1 : Sto) (o : Orc) (ts : List Ty) : kIsi (.ok x st1) o ts = ER.opt ((isiV o.sup ts st1 x).map fun t => .dat (.bl t)) st1 := by rfl
theorem kIsi_ex (x : Exc) (st1 : Sto) (o : Orc) (ts : List Ty) : kIsi (.ex x st1) o ts = .ex x st1 := by rfl
theorem fE_isi (o : Orc) (a : ME) (ts : List Ty) (E : Env) (st : Sto) : evE o (.isi a ts) E st = kIsi (evE o a E st) o ts := by first | (rw [evE]; done) | (rw [evE]; rfl)
def kLsI (r : ER (List D))  : ER Val := r.bind fun x st1 => .ok (.new (.lst x)) st1
theorem kLsI_ok (x : (List D)) (st1 : Sto)  : kLsI (.ok x st1)  = .ok (.new (.lst x)) st1 := by rfl
theorem kLsI_ex (x : Exc) (st1 : Sto)  : kLsI (.ex x st1)  = .ex x st1 := by rfl
theorem fE_lsI (o : Orc) (it : MI) (E : Env) (st : Sto) : evE o (.lsI it) E st = kLsI (evI o false it E st) := by first | (rw [evE]; done) | (rw [evE]; rfl)
def compE (o : Orc) (e : ME) (p : Pat) (ds : List D) (E : Env) (st : Sto) : ER (List D) := compL (fun E' st' => evE o e E' st') (fun _ st' => .ok (.dat (.bl true)) st') p E ds st []
def compC (o : Orc) (e : ME) (p : Pat) (c : ME) (ds : List D) (E : Env) (st : Sto) : ER (List D) := compL (fun E' st' => evE o e E' st') (fun E' st' => evE o c E' st') p E ds st []
def kLc (r : ER (List D)) (o : Orc) (e : ME) (p : Pat) (E : Env) : ER Val := r.bind fun x st1 => (compE o e p x E st1).bind fun l st2 => .ok (.new (.lst l)) st2
theorem kLc_ok (x : (List D)) (st1 : Sto) (o : Orc) (e : ME) (p : Pat) (E : Env) : kLc (.ok x st1) o e p E = kLsI (compE o e p x E st1) := by rfl
theorem kLc_ex (x : Exc) (st1 : Sto) (o : Orc) (e : ME) (p : Pat) (E : Env) : kLc (.ex x st1) o e p E = .ex x st1 := by rfl
def kLcf (r : ER (List D)) (o : Orc) (e : ME) (p : Pat) (c : ME) (E : Env) : ER Val := r.bind fun x st1 => (compC o e p c x E st1).bind fun l st2 => .ok (.new (.lst l)) st2
theorem kLcf_ok (x : (List D)) (st1 : Sto) (o : Orc) (e : ME) (p : Pat) (c : ME) (E : Env) : kLcf (.ok x st1) o e p c E = kLsI (compC o e p c x E st1) := by rfl
theorem kLcf_ex (x : Exc) (st1 : Sto) (o : Orc) (e : ME) (p : Pat) (c : ME) (E : Env) : kLcf (.ex x st1) o e p c E = .ex x st1 := by rfl
theorem fE_lc (o : Orc) (e : ME) (p : Pat) (it : MI) (E : Env) (st : Sto) : evE o (.lc e p it) E st = kLc (evI o false it E st) o e p E := by first | (rw [evE]; done) | (rw [evE]; rfl)
theorem fE_lcf (o : Orc) (e : ME) (p : Pat) (it : MI) (c : ME) (E : Env) (st : Sto) : evE o (.lcf e p it c) E st = kLcf (evI o false it E st) o e p c E := by first | (rw [evE]; done) | (rw [evE]; rfl)
def kFs (r : ER (List Val))  : ER Val := r.bind fun x st1 => ER.opt ((kpL x).bind fun ds => (fsL ds).map fun s => .dat (.str s)) st1
theorem kFs_ok (x : (List Val)) (st1 : Sto)  : kFs (.ok x st1)  = ER.opt ((kpL x).bind fun ds => (fsL ds).map fun s => .dat (.str s)) st1 := by rfl
theorem kFs_ex (x : Exc) (st1 : Sto)  : kFs (.ex x st1)  = .ex x st1 := by rfl
theorem fE_fs (o : Orc) (es : List ME) (E : Env) (st : Sto) : evE o (.fs es) E st = kFs (evL o es E st) := by first | (rw [evE]; done) | (rw [evE]; rfl)
def kCell (r : ER Val) : ER Val := r.bind fun v st1 => match v with | .new d => .ok (.dat (.ref st1.length)) (st1 ++ [d]) | _ => .bad
theorem kCell_ok (d : D) (st1 : Sto) : kCell (.ok (.new d) st1) = .ok (.dat (.ref st1.length)) (st1 ++ [d]) := by rfl
theorem fE_cell (o : Orc) (e : ME) (E : Env) (st : Sto) : evE o (.cell e) E st = kCell (evE o e E st) := by first | (rw [evE]; done) | (rw [evE]; rfl)
def srtV (l : List D) (ks : List (D × D)) (st2 : Sto) : ER Val := if cmpOk (ks.map (·.1)) then .ok (.new (.lst ((srt (fun a b => ltB a.1 b.1) ks).map (·.2)))) st2 else .bad
def kSrt2 (r : ER (List (D × D))) : ER Val := r.bind fun ks st2 => if cmpOk (ks.map (·.1)) then .ok (.new (.lst ((srt (fun a b => ltB a.1 b.1) ks).map (·.2)))) st2 else .bad
def srt1V (xs : Option (List D)) (o : Orc) (f : Nat) (st : Sto) : ER Val := match xs with | some xs => kSrt2 (keysL o f xs st []) | none => .bad
theorem srt1V_some (xs : List D) (o : Orc) (f : Nat) (st : Sto) : srt1V (some xs) o f st = kSrt2 (keysL o f xs st []) := by rfl
theorem kSrt2_ok (ks : List (D × D)) (st : Sto) : kSrt2 (.ok ks st) = if cmpOk (ks.map (·.1)) = true then .ok (.new (.lst ((srt (fun a b => ltB a.1 b.1) ks).map (·.2)))) st else .bad := by rfl
def kSrt1 (r : ER Val) (o : Orc) (f : Nat) : ER Val := r.bind fun x st1 => srt1V (seqOf x.d) o f st1
theorem kSrt1_ok (x : Val) (st1 : Sto) (o : Orc) (f : Nat) : kSrt1 (.ok x st1) o f = srt1V (seqOf x.d) o f st1 := by rfl
theorem kSrt1_ex (x : Exc) (st1 : Sto) (o : Orc) (f : Nat) : kSrt1 (.ex x st1) o f = .ex x st1 := by rfl
theorem fE_srtk (o : Orc) (a : ME) (f : Nat) (E : Env) (st : Sto) : evE o (.srtk a f) E st = kSrt1 (evE o a E st) o f := by rw [evE]; rfl
def kIx (r : ER Val) (k : Bool) : ER (List D) := r.bind fun x st1 => ER.opt ((x.it k).bind itemsOf) st1
theorem kIx_ok (x : Val) (st1 : Sto) (k : Bool) : kIx (.ok x st1) k = ER.opt ((x.it k).bind itemsOf) st1 := by rfl
theorem kIx_ex (x : Exc) (st1 : Sto) (k : Bool) : kIx (.ex x st1) k = .ex x st1 := by rfl
theorem fI_ex (o : Orc) (k : Bool) (e : ME) (E : Env) (st : Sto) : evI o k (.ex e) E st = kIx (evE o e E st) k := by rw [evI]; rfl
def kRg1 (r : ER Val) : ER (List D) := r.bind fun v st1 => match v.d with | .int n => ER.opt (rangeL 0 n) st1 | _ => .bad
theorem kRg1_ok (n : Int) (st : Sto) : kRg1 (.ok (.dat (.int n)) st) = ER.opt (rangeL 0 n) st := by rfl
theorem fI_rg1 (o : Orc) (k : Bool) (a : ME) (E : Env) (st : Sto) : evI o k (.rg1 a) E st = kRg1 (evE o a E st) := by rw [evI]; rfl
def krg2b (r : ER Val) (v : Val) : ER (List D) := r.bind fun w st2 => match v.d, w.d with | .int m, .int n => ER.opt (rangeL m n) st2 | _, _ => .bad
theorem krg2b_ok (n : Int) (st : Sto) (m : Int) : krg2b (.ok (.dat (.int n)) st) (.dat (.int m)) = ER.opt (rangeL m n) st := by rfl
def krg2a (r : ER Val) (o : Orc) (b : ME) (E : Env) : ER (List D) := r.bind fun x st1 => krg2b (evE o b E st1) x
theorem krg2a_ok (x : Val) (st1 : Sto) (o : Orc) (b : ME) (E : Env) : krg2a (.ok x st1) o b E = krg2b (evE o b E st1) x := by rfl
theorem krg2a_ex (x : Exc) (st1 : Sto) (o : Orc) (b : ME) (E : Env) : krg2a (.ex x st1) o b E = .ex x st1 := by rfl
theorem fI_rg2 (o : Orc) (k : Bool) (a b : ME) (E : Env) (st : Sto) : evI o k (.rg2 a b) E st = krg2a (evE o a E st) o b E := by rw [evI]; rfl
def krgdb (r : ER Val) (v : Val) : ER (List D) := r.bind fun w st2 => match v.d, w.d with | .int m, .int n => ER.opt (rangeD m n) st2 | _, _ => .bad
theorem krgdb_ok (n : Int) (st : Sto) (m : Int) : krgdb (.ok (.dat (.int n)) st) (.dat (.int m)) = ER.opt (rangeD m n) st := by rfl
def krgda (r : ER Val) (o : Orc) (b : ME) (E : Env) : ER (List D) := r.bind fun x st1 => krgdb (evE o b E st1) x
theorem krgda_ok (x : Val) (st1 : Sto) (o : Orc) (b : ME) (E : Env) : krgda (.ok x st1) o b E = krgdb (evE o b E st1) x := by rfl
theorem krgda_ex (x : Exc) (st1 : Sto) (o : Orc) (b : ME) (E : Env) : krgda (.ex x st1) o b E = .ex x st1 := by rfl
theorem fI_rgd (o : Orc) (k : Bool) (a b : ME) (E : Env) (st : Sto) : evI o k (.rgd a b) E st = krgda (evE o a E st) o b E := by rw [evI]; rfl
def kEnum (r : ER Val) (k : Bool) : ER (List D) := r.bind fun x st1 => ER.opt (((x.it k).bind seqOf).map enumL) st1
theorem kEnum_ok (x : Val) (st1 : Sto) (k : Bool) : kEnum (.ok x st1) k = ER.opt (((x.it k).bind seqOf).map enumL) st1 := by rfl
theorem kEnum_ex (x : Exc) (st1 : Sto) (k : Bool) : kEnum (.ex x st1) k = .ex x st1 := by rfl
theorem fI_enum (o : Orc) (k : Bool) (e : ME) (E : Env) (st : Sto) : evI o k (.enum e) E st = kEnum (evE o e E st) k := by rw [evI]; rfl
def zipV (a b : Option (List D)) (st : Sto) : ER (List D) := match a, b with | some xs, some ys => .ok ((xs.zip ys).map fun p => .tup [p.1, p.2]) st | _, _ => .bad
theorem zipV_some (xs ys : List D) (st : Sto) : zipV (some xs) (some ys) st = .ok ((xs.zip ys).map fun p => .tup [p.1, p.2]) st := by rfl
def kZip2 (r : ER Val) (k : Bool) (y : Val) : ER (List D) := r.bind fun x st1 => zipV ((y.it k).bind seqOf) ((x.it k).bind seqOf) st1
theorem kZip2_ok (x : Val) (st1 : Sto) (k : Bool) (y : Val) : kZip2 (.ok x st1) k y = zipV ((y.it k).bind seqOf) ((x.it k).bind seqOf) st1 := by rfl
theorem kZip2_ex (x : Exc) (st1 : Sto) (k : Bool) (y : Val) : kZip2 (.ex x st1) k y = .ex x st1 := by rfl
def kZip1 (r : ER Val) (k : Bool) (o : Orc) (b : ME) (E : Env) : ER (List D) := r.bind fun x st1 => kZip2 (evE o b E st1) k x
theorem kZip1_ok (x : Val) (st1 : Sto) (k : Bool) (o : Orc) (b : ME) (E : Env) : kZip1 (.ok x st1) k o b E = kZip2 (evE o b E st1) k x := by rfl
theorem kZip1_ex (x : Exc) (st1 : Sto) (k : Bool) (o : Orc) (b : ME) (E : Env) : kZip1 (.ex x st1) k o b E = .ex x st1 := by rfl
theorem fI_zip (o : Orc) (k : Bool) (a b : ME) (E : Env) (st : Sto) : evI o k (.zip a b) E st = kZip1 (evE o a E st) k o b E := by rw [evI]; rfl
def itemsV (x : Option D) (st : Sto) : ER (List D) := match x with | some (.dct kvs) => .ok (kvs.map fun p => .tup [p.1, p.2]) st | _ => .bad
theorem itemsV_some (kvs : List (D × D)) (st : Sto) : itemsV (some (.dct kvs)) st = .ok (kvs.map fun p => .tup [p.1, p.2]) st := by rfl
def kitems (r : ER Val) (k : Bool) : ER (List D) := r.bind fun x st1 => itemsV x.kp st1
theorem kitems_ok (x : Val) (st1 : Sto) (k : Bool) : kitems (.ok x st1) k = itemsV x.kp st1 := by rfl
theorem kitems_ex (x : Exc) (st1 : Sto) (k : Bool) : kitems (.ex x st1) k = .ex x st1 := by rfl
theorem fI_items (o : Orc) (k : Bool) (e : ME) (E : Env) (st : Sto) : evI o k (.items e) E st = kitems (evE o e E st) k := by rw [evI]; rfl
def valsV (x : Option D) (st : Sto) : ER (List D) := match x with | some (.dct kvs) => .ok (kvs.map (·.2)) st | _ => .bad
theorem valsV_some (kvs : List (D × D)) (st : Sto) : valsV (some (.dct kvs)) st = .ok (kvs.map (·.2)) st := by rfl
def kvals (r : ER Val) (k : Bool) : ER (List D) := r.bind fun x st1 => valsV x.kp st1
theorem kvals_ok (x : Val) (st1 : Sto) (k : Bool) : kvals (.ok x st1) k = valsV x.kp st1 := by rfl
theorem kvals_ex (x : Exc) (st1 : Sto) (k : Bool) : kvals (.ex x st1) k = .ex x st1 := by rfl
theorem fI_vals (o : Orc) (k : Bool) (e : ME) (E : Env) (st : Sto) : evI o k (.vals e) E st = kvals (evE o e E st) k := by rw [evI]; rfl
def putV (v : Val) (i : Nat) (E : Env) (st : Sto) : ER Env := match v with | .bor _ => .bad | .xv _ _ => .bad | v => if i < E.length then .ok (E.set i (some v)) st else .bad
theorem putV_dat (d : D) (i : Nat) (E : Env) (st : Sto) : putV (.dat d) i E st = if i < E.length then .ok (E.set i (some (.dat d))) st else .bad := by rfl
theorem putV_new (d : D) (i : Nat) (E : Env) (st : Sto) : putV (.new d) i E st = if i < E.length then .ok (E.set i (some (.new d))) st else .bad := by rfl
theorem fT_v (o : Orc) (i : Nat) (v : Val) (E : Env) (st : Sto) : tgF o (.v i) v E st = putV v i E st := by cases v <;> simp [tgF, putV]
def chgK (o : Orc) (b : ME) (f : Option (D → Option D)) (E : Env) (st : Sto) : ER Env := match f with | some f => chgE o b f E st | none => .bad
def chgV2 (d : Option D) (i : Nat) (E : Env) (st : Sto) : ER Env := (ER.opt d st).bind fun d' st1 => .ok (E.set i (some (.new d'))) st1
def chgR2 (d : Option D) (n : Nat) (E : Env) (st : Sto) : ER Env := (ER.opt d st).bind fun d' st1 => .ok E (st1.set n d')
def chgV (x : Option (Option Val)) (f : D → Option D) (i : Nat) (E : Env) (st : Sto) : ER Env := match x with
    | some (some (.new d)) => chgV2 (f d) i E st
    | some (some (.dat (.ref n))) => chgR2 ((st[n]?).bind f) n E st
    | _ => .bad
theorem chgV_new (d : D) (f : D → Option D) (i : Nat) (E : Env) (st : Sto) : chgV (some (some (.new d))) f i E st = chgV2 (f d) i E st := by rfl
theorem chgV_ref (n : Nat) (f : D → Option D) (i : Nat) (E : Env) (st : Sto) : chgV (some (some (.dat (.ref n)))) f i E st = chgR2 ((st[n]?).bind f) n E st := by rfl
theorem chgV2_some (d : D) (i : Nat) (E : Env) (st : Sto) : chgV2 (some d) i E st = .ok (E.set i (some (.new d))) st := by rfl
theorem chgR2_some (d : D) (n : Nat) (E : Env) (st : Sto) : chgR2 (some d) n E st = .ok E (st.set n d) := by rfl
theorem chgE_var (o : Orc) (i : Nat) (f : D → Option D) (E : Env) (st : Sto) : chgE o (.var i) f E st = chgV E[i]? f i E st := by unfold chgE chgV; rfl
def kChg (r : ER Val) (f : D → Option D) (E : Env) : ER Env := r.bind fun v st1 => match v with | .dat (.ref n) => chgR2 ((st1[n]?).bind f) n E st1 | _ => .bad
theorem kChg_ok (n : Nat) (st1 : Sto) (f : D → Option D) (E : Env) : kChg (.ok (.dat (.ref n)) st1) f E = chgR2 ((st1[n]?).bind f) n E st1 := by rfl
theorem chgE_fld (o : Orc) (a : ME) (k : Nat) (f : D → Option D) (E : Env) (st : Sto) : chgE o (.fld a k) f E st = kChg (evE o (.fld a k) E st) f E := by rfl
theorem chgE_sub (o : Orc) (a i : ME) (f : D → Option D) (E : Env) (st : Sto) : chgE o (.sub a i) f E st = kChg (evE o (.sub a i) E st) f E := by rfl
def tgFld (o : Orc) (b : ME) (k : Nat) (d : Option D) (E : Env) (st : Sto) : ER Env := match d with | some d => chgE o b (fun c => setFld o.cf c k d) E st | none => .bad
theorem tgFld_some (o : Orc) (b : ME) (k : Nat) (d : D) (E : Env) (st : Sto) : tgFld o b k (some d) E st = chgE o b (fun c => setFld o.cf c k d) E st := by rfl
theorem fT_fld (o : Orc) (b : ME) (k : Nat) (v : Val) (E : Env) (st : Sto) : tgF o (.fld b k) v E st = tgFld o b k v.kp E st := by rw [tgF]; rfl
def tgS3 (o : Orc) (b : ME) (d : D) (j : Option D) (E : Env) (st : Sto) : ER Env := (ER.opt j st).bind fun j st2 => chgE o b (fun c => setSub c j d) E st2
theorem tgS3_some (o : Orc) (b : ME) (d j : D) (E : Env) (st : Sto) : tgS3 o b d (some j) E st = chgE o b (fun c => setSub c j d) E st := by rfl
def kTgS (r : ER Val) (o : Orc) (b : ME) (d : D) (E : Env) : ER Env := r.bind fun x st1 => tgS3 o b d x.kp E st1
theorem kTgS_ok (x : Val) (st1 : Sto) (o : Orc) (b : ME) (d : D) (E : Env) : kTgS (.ok x st1) o b d E = tgS3 o b d x.kp E st1 := by rfl
theorem kTgS_ex (x : Exc) (st1 : Sto) (o : Orc) (b : ME) (d : D) (E : Env) : kTgS (.ex x st1) o b d E = .ex x st1 := by rfl
def tgS1 (o : Orc) (b i : ME) (d : Option D) (E : Env) (st : Sto) : ER Env := (ER.opt d st).bind fun d st0 => kTgS (evE o i E st0) o b d E
theorem tgS1_some (o : Orc) (b i : ME) (d : D) (E : Env) (st : Sto) : tgS1 o b i (some d) E st = kTgS (evE o i E st) o b d E := by rfl
theorem fT_sub (o : Orc) (b i : ME) (v : Val) (E : Env) (st : Sto) : tgF o (.sub b i) v E st = if plcB b E = true then tgS1 o b i v.kp E st else .bad := by rw [tgF]; rfl
def tgTV (ps : Option (List Pat)) (v : Val) (E : Env) (st : Sto) : ER Env := match ps, v with | some ps, .dat d => ER.opt (patF (.t ps) d E) st | _, _ => .bad
theorem tgTV_some (ps : List Pat) (d : D) (E : Env) (st : Sto) : tgTV (some ps) (.dat d) E st = ER.opt (patF (.t ps) d E) st := by rfl
theorem fT_t (o : Orc) (ts : List Tg) (v : Val) (E : Env) (st : Sto) : tgF o (.t ts) v E st = tgTV (tgPatL ts) v E st := by cases h : tgPatL ts <;> cases v <;> simp [tgF, tgTV, h]
def kTgL (r : ER Env) (o : Orc) (ts : List Tg) (vs : List Val) : ER Env := r.bind fun x st1 => tgL o ts vs x st1
theorem kTgL_ok (x : Env) (st1 : Sto) (o : Orc) (ts : List Tg) (vs : List Val) : kTgL (.ok x st1) o ts vs = tgL o ts vs x st1 := by rfl
theorem kTgL_ex (x : Exc) (st1 : Sto) (o : Orc) (ts : List Tg) (vs : List Val) : kTgL (.ex x st1) o ts vs = .ex x st1 := by rfl
theorem fTL_nil (o : Orc) (E : Env) (st : Sto) : tgL o [] [] E st = .ok E st := by rw [tgL]
theorem fTL_cons (o : Orc) (t : Tg) (ts : List Tg) (v : Val) (vs : List Val) (E : Env) (st : Sto) : tgL o (t :: ts) (v :: vs) E st = kTgL (tgF o t v E st) o ts vs := by rw [tgL]; rfl
def kNx (r : ER Env) (E : Env) : SR := r.sr E fun x st1 => .nx x st1
theorem kNx_ok (x : Env) (st1 : Sto) (E : Env) : kNx (.ok x st1) E = .nx x st1 := by rfl
theorem kNx_ex (x : Exc) (st1 : Sto) (E : Env) : kNx (.ex x st1) E = .ex x E st1 := by rfl
def kAsg (r : ER Val) (o : Orc) (t : Tg) (E : Env) : SR := r.sr E fun x st1 => kNx (tgF o t x E st1) E
theorem kAsg_ok (x : Val) (st1 : Sto) (o : Orc) (t : Tg) (E : Env) : kAsg (.ok x st1) o t E = kNx (tgF o t x E st1) E := by rfl
theorem kAsg_ex (x : Exc) (st1 : Sto) (o : Orc) (t : Tg) (E : Env) : kAsg (.ex x st1) o t E = .ex x E st1 := by rfl
theorem fS_asg (o : Orc) (t : Tg) (e : ME) (E : Env) (st : Sto) : exS o (.asg t e) E st = kAsg (evE o e E st) o t E := by rw [exS]; rfl
def kPar (r : ER (List Val)) (o : Orc) (ts : List Tg) (E : Env) : SR := r.sr E fun x st1 => kNx (tgL o ts x E st1) E
theorem kPar_ok (x : (List Val)) (st1 : Sto) (o : Orc) (ts : List Tg) (E : Env) : kPar (.ok x st1) o ts E = kNx (tgL o ts x E st1) E := by rfl
theorem kPar_ex (x : Exc) (st1 : Sto) (o : Orc) (ts : List Tg) (E : Env) : kPar (.ex x st1) o ts E = .ex x E st1 := by rfl
theorem fS_par (o : Orc) (ts : List Tg) (es : List ME) (E : Env) (st : Sto) : exS o (.par ts es) E st = kPar (evL o es E st) o ts E := by rw [exS]; rfl
def augV (z : Option D) (i : Nat) (E : Env) (st : Sto) : SR := match z with | some z => .nx (E.set i (some (.dat z))) st | none => .bad
theorem augV_some (z : D) (i : Nat) (E : Env) (st : Sto) : augV (some z) i E st = .nx (E.set i (some (.dat z))) st := by rfl
def kAugV (r : ER Val) (op : Op) (y : D) (i : Nat) (E : Env) : SR := r.sr E fun x st1 => augV (Mp.augF op y x.d) i E st1
theorem kAugV_ok (x : Val) (st1 : Sto) (op : Op) (y : D) (i : Nat) (E : Env) : kAugV (.ok x st1) op y i E = augV (Mp.augF op y x.d) i E st1 := by rfl
theorem kAugV_ex (x : Exc) (st1 : Sto) (op : Op) (y : D) (i : Nat) (E : Env) : kAugV (.ex x st1) op y i E = .ex x E st1 := by rfl
def augG (x : Option (Option Val)) (op : Op) (e : ME) (o : Orc) (i : Nat) (E : Env) (st : Sto) : SR := match x with | some (some (.dat x)) => kAugV (evE o e E st) op x i E | _ => .bad
theorem augG_dat (x : D) (op : Op) (e : ME) (o : Orc) (i : Nat) (E : Env) (st : Sto) : augG (some (some (.dat x))) op e o i E st = kAugV (evE o e E st) op x i E := by rfl
theorem fS_augv (o : Orc) (i : Nat) (op : Op) (e : ME) (E : Env) (st : Sto) : exS o (.aug (.v i) op e) E st = augG E[i]? op e o i E st := by rw [exS]; rfl
def augFl (z : Option Val) (o : Orc) (b : ME) (k : Nat) (E : Env) (st : Sto) : SR := match z with | some (.dat z) => kNx (chgE o b (fun c => setFld o.cf c k z) E st) E | _ => .bad
theorem augF_some (z : D) (o : Orc) (b : ME) (k : Nat) (E : Env) (st : Sto) : augFl (some (.dat z)) o b k E st = kNx (chgE o b (fun c => setFld o.cf c k z) E st) E := by rfl
def kAugF2 (r : ER Val) (op : Op) (y : Val) (o : Orc) (b : ME) (k : Nat) (E : Env) : SR := r.sr E fun x st1 => augFl (binF op y.d x.d) o b k E st1
theorem kAugF2_ok (x : Val) (st1 : Sto) (op : Op) (y : Val) (o : Orc) (b : ME) (k : Nat) (E : Env) : kAugF2 (.ok x st1) op y o b k E = augFl (binF op y.d x.d) o b k E st1 := by rfl
theorem kAugF2_ex (x : Exc) (st1 : Sto) (op : Op) (y : Val) (o : Orc) (b : ME) (k : Nat) (E : Env) : kAugF2 (.ex x st1) op y o b k E = .ex x E st1 := by rfl
def kAugF1 (r : ER Val) (op : Op) (e : ME) (o : Orc) (b : ME) (k : Nat) (E : Env) : SR := r.sr E fun x st1 => kAugF2 (evE o e E st1) op x o b k E
theorem kAugF1_ok (x : Val) (st1 : Sto) (op : Op) (e : ME) (o : Orc) (b : ME) (k : Nat) (E : Env) : kAugF1 (.ok x st1) op e o b k E = kAugF2 (evE o e E st1) op x o b k E := by rfl
theorem kAugF1_ex (x : Exc) (st1 : Sto) (op : Op) (e : ME) (o : Orc) (b : ME) (k : Nat) (E : Env) : kAugF1 (.ex x st1) op e o b k E = .ex x E st1 := by rfl
theorem fS_augf (o : Orc) (b : ME) (k : Nat) (op : Op) (e : ME) (E : Env) (st : Sto) : exS o (.aug (.fld b k) op e) E st = kAugF1 (evE o (.fld b k) E st) op e o b k E := by rw [exS]; rfl
def augS (z : Option Val) (o : Orc) (b : ME) (j : D) (E : Env) (st : Sto) : SR := match z with | some (.dat z) => kNx (chgE o b (fun c => setSub c j z) E st) E | _ => .bad
theorem augS_some (z : D) (o : Orc) (b : ME) (j : D) (E : Env) (st : Sto) : augS (some (.dat z)) o b j E st = kNx (chgE o b (fun c => setSub c j z) E st) E := by rfl
def kAugS3 (r : ER Val) (op : Op) (y : D) (o : Orc) (b : ME) (j : D) (E : Env) : SR := r.sr E fun x st1 => augS (binF op y x.d) o b j E st1
theorem kAugS3_ok (x : Val) (st1 : Sto) (op : Op) (y : D) (o : Orc) (b : ME) (j : D) (E : Env) : kAugS3 (.ok x st1) op y o b j E = augS (binF op y x.d) o b j E st1 := by rfl
theorem kAugS3_ex (x : Exc) (st1 : Sto) (op : Op) (y : D) (o : Orc) (b : ME) (j : D) (E : Env) : kAugS3 (.ex x st1) op y o b j E = .ex x E st1 := by rfl
def augS2 (j x : Option D) (op : Op) (e : ME) (o : Orc) (b : ME) (E : Env) (st : Sto) : SR := match j, x with | some jd, some x => kAugS3 (evE o e E st) op x o b jd E | _, _ => .bad
theorem augS2_some (j x : D) (op : Op) (e : ME) (o : Orc) (b : ME) (E : Env) (st : Sto) : augS2 (some j) (some x) op e o b E st = kAugS3 (evE o e E st) op x o b j E := by rfl
def kAugS2 (r : ER Val) (j : Val) (op : Op) (e : ME) (o : Orc) (b : ME) (E : Env) : SR := r.sr E fun x st1 => augS2 j.kp ((drf st1 x.d).bind (fun d => getF d j.d)) op e o b E st1
theorem kAugS2_ok (x : Val) (st1 : Sto) (j : Val) (op : Op) (e : ME) (o : Orc) (b : ME) (E : Env) : kAugS2 (.ok x st1) j op e o b E = augS2 j.kp ((drf st1 x.d).bind (fun d => getF d j.d)) op e o b E st1 := by rfl
theorem kAugS2_ex (x : Exc) (st1 : Sto) (j : Val) (op : Op) (e : ME) (o : Orc) (b : ME) (E : Env) : kAugS2 (.ex x st1) j op e o b E = .ex x E st1 := by rfl
def kAugS1 (r : ER Val) (op : Op) (e : ME) (o : Orc) (b : ME) (E : Env) : SR := r.sr E fun x st1 => kAugS2 (evE o b E st1) x op e o b E
theorem kAugS1_ok (x : Val) (st1 : Sto) (op : Op) (e : ME) (o : Orc) (b : ME) (E : Env) : kAugS1 (.ok x st1) op e o b E = kAugS2 (evE o b E st1) x op e o b E := by rfl
theorem kAugS1_ex (x : Exc) (st1 : Sto) (op : Op) (e : ME) (o : Orc) (b : ME) (E : Env) : kAugS1 (.ex x st1) op e o b E = .ex x E st1 := by rfl
theorem fS_augs (o : Orc) (b i : ME) (op : Op) (e : ME) (E : Env) (st : Sto) : exS o (.aug (.sub b i) op e) E st = kAugS1 (evE o i E st) op e o b E := by rw [exS]; rfl
def kExpr (r : ER Val) (E : Env) : SR := r.sr E fun x st1 => .nx E st1
theorem kExpr_ok (x : Val) (st1 : Sto) (E : Env) : kExpr (.ok x st1) E = .nx E st1 := by rfl
theorem kExpr_ex (x : Exc) (st1 : Sto) (E : Env) : kExpr (.ex x st1) E = .ex x E st1 := by rfl
theorem fS_expr (o : Orc) (e : ME) (E : Env) (st : Sto) : exS o (.expr e) E st = kExpr (evE o e E st) E := by rw [exS]; rfl
def apF (d : D) (c : D) : Option D := match c with | .lst xs => if xs.length < szMax then some (.lst (xs ++ [d])) else none | _ => none
def exF' (ds : List D) (c : D) : Option D := match c with | .lst xs => if xs.length + ds.length ≤ szMax then some (.lst (xs ++ ds)) else none | _ => none
def inF' (k : Int) (d : D) (c : D) : Option D := match c with | .lst xs => if xs.length < szMax ∧ 0 ≤ k ∧ k < 2 ^ 62 then some (.lst (xs.take (clampI xs.length k) ++ d :: xs.drop (clampI xs.length k))) else none | _ => none
theorem apF_l (d : D) (xs : List D) : apF d (.lst xs) = if xs.length < szMax then some (.lst (xs ++ [d])) else none := by rfl
theorem exF'_l (ds xs : List D) : exF' ds (.lst xs) = if xs.length + ds.length ≤ szMax then some (.lst (xs ++ ds)) else none := by rfl
theorem inF'_l (k : Int) (d : D) (xs : List D) : inF' k d (.lst xs) = if xs.length < szMax ∧ 0 ≤ k ∧ k < 2 ^ 62 then some (.lst (xs.take (clampI xs.length k) ++ d :: xs.drop (clampI xs.length k))) else none := by rfl
def appV (d : Option D) (o : Orc) (b : ME) (E : Env) (st : Sto) : SR := match d with | some d => kNx (chgE o b (apF d) E st) E | none => .bad
theorem appV_some (d : D) (o : Orc) (b : ME) (E : Env) (st : Sto) : appV (some d) o b E st = kNx (chgE o b (apF d) E st) E := by rfl
def kApp (r : ER Val) (o : Orc) (b : ME) (E : Env) : SR := r.sr E fun x st1 => appV x.kp o b E st1
theorem kApp_ok (x : Val) (st1 : Sto) (o : Orc) (b : ME) (E : Env) : kApp (.ok x st1) o b E = appV x.kp o b E st1 := by rfl
theorem kApp_ex (x : Exc) (st1 : Sto) (o : Orc) (b : ME) (E : Env) : kApp (.ex x st1) o b E = .ex x E st1 := by rfl
theorem fS_app (o : Orc) (b e : ME) (E : Env) (st : Sto) : exS o (.app b e) E st = if (!plcL b E st) = true then .bad else kApp (evE o e E st) o b E := by rw [exS]; rfl
def extV (d : Option (List D)) (o : Orc) (b : ME) (E : Env) (st : Sto) : SR := match d with | some d => kNx (chgE o b (exF' d) E st) E | none => .bad
theorem extV_some (d : List D) (o : Orc) (b : ME) (E : Env) (st : Sto) : extV (some d) o b E st = kNx (chgE o b (exF' d) E st) E := by rfl
def kExt (r : ER Val) (o : Orc) (b : ME) (E : Env) : SR := r.sr E fun x st1 => extV ((drf st1 x.d).bind seqOf) o b E st1
theorem kExt_ok (x : Val) (st1 : Sto) (o : Orc) (b : ME) (E : Env) : kExt (.ok x st1) o b E = extV ((drf st1 x.d).bind seqOf) o b E st1 := by rfl
theorem kExt_ex (x : Exc) (st1 : Sto) (o : Orc) (b : ME) (E : Env) : kExt (.ex x st1) o b E = .ex x E st1 := by rfl
theorem fS_ext (o : Orc) (b e : ME) (E : Env) (st : Sto) : exS o (.ext b e) E st = if (!plcL b E st) = true then .bad else kExt (evE o e E st) o b E := by rw [exS]; rfl
def insV (j : D) (d : Option D) (o : Orc) (b : ME) (E : Env) (st : Sto) : SR := match j, d with | .int k, some d => kNx (chgE o b (inF' k d) E st) E | _, _ => .bad
theorem insV_some (k : Int) (d : D) (o : Orc) (b : ME) (E : Env) (st : Sto) : insV (.int k) (some d) o b E st = kNx (chgE o b (inF' k d) E st) E := by rfl
def kIns2 (r : ER Val) (j : Val) (o : Orc) (b : ME) (E : Env) : SR := r.sr E fun x st1 => insV j.d x.kp o b E st1
theorem kIns2_ok (x : Val) (st1 : Sto) (j : Val) (o : Orc) (b : ME) (E : Env) : kIns2 (.ok x st1) j o b E = insV j.d x.kp o b E st1 := by rfl
theorem kIns2_ex (x : Exc) (st1 : Sto) (j : Val) (o : Orc) (b : ME) (E : Env) : kIns2 (.ex x st1) j o b E = .ex x E st1 := by rfl
def kIns1 (r : ER Val) (e : ME) (o : Orc) (b : ME) (E : Env) : SR := r.sr E fun x st1 => kIns2 (evE o e E st1) x o b E
theorem kIns1_ok (x : Val) (st1 : Sto) (e : ME) (o : Orc) (b : ME) (E : Env) : kIns1 (.ok x st1) e o b E = kIns2 (evE o e E st1) x o b E := by rfl
theorem kIns1_ex (x : Exc) (st1 : Sto) (e : ME) (o : Orc) (b : ME) (E : Env) : kIns1 (.ex x st1) e o b E = .ex x E st1 := by rfl
theorem fS_ins (o : Orc) (b i e : ME) (E : Env) (st : Sto) : exS o (.ins b i e) E st = if (!plcL b E st) = true then .bad else kIns1 (evE o i E st) e o b E := by rw [exS]; rfl
def kIte (r : ER Val) (o : Orc) (a b : List MS) (E : Env) : SR := r.sr E fun v st1 => ifV v (exB o a E st1) (exB o b E st1) .bad
theorem kIte_b (t : Bool) (st1 : Sto) (o : Orc) (a b : List MS) (E : Env) : kIte (.ok (.dat (.bl t)) st1) o a b E = if t = true then exB o a E st1 else exB o b E st1 := by rfl
theorem kIte_ex (x : Exc) (st1 : Sto) (o : Orc) (a b : List MS) (E : Env) : kIte (.ex x st1) o a b E = .ex x E st1 := by rfl
theorem fS_ite (o : Orc) (c : ME) (a b : List MS) (E : Env) (st : Sto) : exS o (.ite c a b) E st = kIte (evE o c E st) o a b E := by rw [exS]; rfl
def whlE (o : Orc) (c : ME) (b : List MS) (n : Nat) (E : Env) (st : Sto) : SR := whlL (fun E' st' => evE o c E' st') (fun E' st' => exB o b E' st') n E st
theorem fS_whl (o : Orc) (c : ME) (b : List MS) (E : Env) (st : Sto) : exS o (.whl c b) E st = whlE o c b whlMax E st := by rw [exS]; rfl
def forE (o : Orc) (p : Pat) (b : List MS) (ds : List D) (E : Env) (st : Sto) : SR := forL p (fun E' st' => exB o b E' st') ds E st
def kFr (r : ER (List D)) (o : Orc) (p : Pat) (b : List MS) (E : Env) : SR := r.sr E fun x st1 => forE o p b x E st1
theorem kFr_ok (x : (List D)) (st1 : Sto) (o : Orc) (p : Pat) (b : List MS) (E : Env) : kFr (.ok x st1) o p b E = forE o p b x E st1 := by rfl
theorem kFr_ex (x : Exc) (st1 : Sto) (o : Orc) (p : Pat) (b : List MS) (E : Env) : kFr (.ex x st1) o p b E = .ex x E st1 := by rfl
theorem fS_fr (o : Orc) (p : Pat) (it : MI) (b : List MS) (E : Env) (st : Sto) : exS o (.fr p it b) E st = kFr (evI o true it E st) o p b E := by rw [exS]; rfl
def retV (v : Val) (st : Sto) : SR := match v with | .xv _ _ => .bad | v => .rt v.out st
theorem retV_dat (d : D) (st : Sto) : retV (.dat d) st = .rt (.dat d) st := by rfl
theorem retV_new (d : D) (st : Sto) : retV (.new d) st = .rt (.new d) st := by rfl
theorem retV_bor (d : D) (st : Sto) : retV (.bor d) st = .rt (.new d) st := by rfl
def kRet (r : ER Val) (E : Env) : SR := r.sr E fun x st1 => retV x st1
theorem kRet_ok (x : Val) (st1 : Sto) (E : Env) : kRet (.ok x st1) E = retV x st1 := by rfl
theorem kRet_ex (x : Exc) (st1 : Sto) (E : Env) : kRet (.ex x st1) E = .ex x E st1 := by rfl
theorem fS_ret (o : Orc) (e : ME) (E : Env) (st : Sto) : exS o (.ret e) E st = kRet (evE o e E st) E := by rw [exS]; rfl
theorem fS_retN (o : Orc) (E : Env) (st : Sto) : exS o .retN E st = .rt (.dat .non) st := by rw [exS]
def raisV (fs : Option (List (Nat × D))) (c : Nat) (E : Env) (st : Sto) : SR := match fs with | some fs => .ex ⟨c, fs⟩ E st | none => .bad
theorem raisV_some (fs : List (Nat × D)) (c : Nat) (E : Env) (st : Sto) : raisV (some fs) c E st = .ex ⟨c, fs⟩ E st := by rfl
def kRais (r : ER (List Val)) (o : Orc) (c : Nat) (E : Env) : SR := r.sr E fun x st1 => raisV ((kpL x).bind (excF o c)) c E st1
theorem kRais_ok (x : (List Val)) (st1 : Sto) (o : Orc) (c : Nat) (E : Env) : kRais (.ok x st1) o c E = raisV ((kpL x).bind (excF o c)) c E st1 := by rfl
theorem kRais_ex (x : Exc) (st1 : Sto) (o : Orc) (c : Nat) (E : Env) : kRais (.ex x st1) o c E = .ex x E st1 := by rfl
theorem fS_rais (o : Orc) (c : Nat) (es : List ME) (E : Env) (st : Sto) : exS o (.rais c es) E st = if (!(o.sup c).contains c) = true then .bad else kRais (evL o es E st) o c E := by rw [exS]; rfl
def kTry (r : SR) (o : Orc) (hs : List (Nat × Option Nat × List MS)) : SR := r.try fun x E1 st1 => if (o.sup x.c).contains x.c then exH o x hs E1 st1 else .bad
theorem kTry_nx (E : Env) (st : Sto) (o : Orc) (hs : List (Nat × Option Nat × List MS)) : kTry (.nx E st) o hs = .nx E st := by rfl
theorem kTry_rt (v : Val) (st : Sto) (o : Orc) (hs : List (Nat × Option Nat × List MS)) : kTry (.rt v st) o hs = .rt v st := by rfl
theorem kTry_ex (c : Nat) (fs : List (Nat × D)) (E : Env) (st : Sto) (o : Orc) (hs : List (Nat × Option Nat × List MS)) : kTry (.ex ⟨c, fs⟩ E st) o hs = if (o.sup c).contains c = true then exH o ⟨c, fs⟩ hs E st else .bad := by rfl
theorem fS_tr (o : Orc) (b : List MS) (hs : List (Nat × Option Nat × List MS)) (E : Env) (st : Sto) : exS o (.tr b hs) E st = kTry (exB o b E st) o hs := by rw [exS]; rfl
theorem fH_nil (o : Orc) (x : Exc) (E : Env) (st : Sto) : exH o x [] E st = .ex x E st := by rw [exH]
theorem fH_n (o : Orc) (c : Nat) (fs : List (Nat × D)) (k : Nat) (h : List MS) (r : List (Nat × Option Nat × List MS)) (E : Env) (st : Sto) : exH o ⟨c, fs⟩ ((k, none, h) :: r) E st = if (o.sup c).contains k = true then (exB o h E st).nox else exH o ⟨c, fs⟩ r E st := by rw [exH]
theorem fH_s (o : Orc) (c : Nat) (fs : List (Nat × D)) (k i : Nat) (h : List MS) (r : List (Nat × Option Nat × List MS)) (E : Env) (st : Sto) : exH o ⟨c, fs⟩ ((k, some i, h) :: r) E st = if (o.sup c).contains k = true then (if i < E.length then (exB o h (E.set i (some (.xv c fs))) st).nox.del i else .bad) else exH o ⟨c, fs⟩ r E st := by rw [exH]
def kTryR (r : SR) (o : Orc) (c : Nat) (h : List MS) : SR := r.try fun x E1 st1 => if (o.sup x.c).contains c then (exB o h E1 st1).rer x else .ex x E1 st1
theorem kTryR_nx (E : Env) (st : Sto) (o : Orc) (c : Nat) (h : List MS) : kTryR (.nx E st) o c h = .nx E st := by rfl
theorem kTryR_rt (v : Val) (st : Sto) (o : Orc) (c : Nat) (h : List MS) : kTryR (.rt v st) o c h = .rt v st := by rfl
theorem kTryR_ex (k : Nat) (fs : List (Nat × D)) (E : Env) (st : Sto) (o : Orc) (c : Nat) (h : List MS) : kTryR (.ex ⟨k, fs⟩ E st) o c h = if (o.sup k).contains c = true then (exB o h E st).rer ⟨k, fs⟩ else .ex ⟨k, fs⟩ E st := by rfl
theorem fS_trR (o : Orc) (b : List MS) (c : Nat) (h : List MS) (E : Env) (st : Sto) : exS o (.trR b c h) E st = kTryR (exB o b E st) o c h := by rw [exS]; rfl
theorem fS_pass (o : Orc) (E : Env) (st : Sto) : exS o .pass E st = .nx E st := by rw [exS]
theorem fS_brk (o : Orc) (E : Env) (st : Sto) : exS o .brk E st = .bk E st := by rw [exS]
theorem fS_cont (o : Orc) (E : Env) (st : Sto) : exS o .cont E st = .ct E st := by rw [exS]
def frzV (x : Option (Option Val)) (i : Nat) (E : Env) (st : Sto) : SR := match x with | some (some (.new d)) => if d.isSet then .bad else .nx (E.set i (some (.dat d))) st | _ => .nx E st
theorem frzV_new (d : D) (i : Nat) (E : Env) (st : Sto) : frzV (some (some (.new d))) i E st = if d.isSet = true then .bad else .nx (E.set i (some (.dat d))) st := by rfl
theorem frzV_dat (d : D) (i : Nat) (E : Env) (st : Sto) : frzV (some (some (.dat d))) i E st = .nx E st := by rfl
theorem frzV_non (i : Nat) (E : Env) (st : Sto) : frzV (some none) i E st = .nx E st := by rfl
theorem fS_frz (o : Orc) (i : Nat) (E : Env) (st : Sto) : exS o (.frz i) E st = frzV E[i]? i E st := by rw [exS]; rfl
def popV2 (x : Option D) (xs : List D) (t i : Nat) (E : Env) (st : Sto) : SR := match x with
    | some (.lst ds) => if t < E.length then .nx ((E.set i (some (.new (.lst xs.dropLast)))).set t (some (.dat (.tup ds)))) st else .bad
    | _ => .bad
def popV1 (l : Option D) (xs : List D) (t i : Nat) (E : Env) (st : Sto) : SR := match l with | some (.ref n) => popV2 st[n]? xs t i E st | _ => .bad
def popV (x : Option (Option Val)) (t i : Nat) (E : Env) (st : Sto) : SR := match x with | some (some (.new (.lst xs))) => popV1 xs.getLast? xs t i E st | _ => .bad
theorem popV_new (xs : List D) (t i : Nat) (E : Env) (st : Sto) : popV (some (some (.new (.lst xs)))) t i E st = popV1 xs.getLast? xs t i E st := by rfl
theorem popV1_ref (n : Nat) (xs : List D) (t i : Nat) (E : Env) (st : Sto) : popV1 (some (.ref n)) xs t i E st = popV2 st[n]? xs t i E st := by rfl
theorem popV2_lst (ds xs : List D) (t i : Nat) (E : Env) (st : Sto) : popV2 (some (.lst ds)) xs t i E st = if t < E.length then .nx ((E.set i (some (.new (.lst xs.dropLast)))).set t (some (.dat (.tup ds)))) st else .bad := by rfl
theorem fS_popT (o : Orc) (t i : Nat) (E : Env) (st : Sto) : exS o (.popT t i) E st = popV E[i]? t i E st := by rw [exS]; rfl
def kB (r : SR) (o : Orc) (ss : List MS) : SR := r.seq fun E1 st1 => exB o ss E1 st1
theorem kB_nx (E : Env) (st : Sto) (o : Orc) (ss : List MS) : kB (.nx E st) o ss = exB o ss E st := by rfl
theorem kB_bk (E : Env) (st : Sto) (o : Orc) (ss : List MS) : kB (.bk E st) o ss = .bk E st := by rfl
theorem kB_ct (E : Env) (st : Sto) (o : Orc) (ss : List MS) : kB (.ct E st) o ss = .ct E st := by rfl
theorem kB_rt (v : Val) (st : Sto) (o : Orc) (ss : List MS) : kB (.rt v st) o ss = .rt v st := by rfl
theorem kB_ex (x : Exc) (E : Env) (st : Sto) (o : Orc) (ss : List MS) : kB (.ex x E st) o ss = .ex x E st := by rfl
theorem fB_nil (o : Orc) (E : Env) (st : Sto) : exB o [] E st = .nx E st := by rw [exB]
theorem fB_cons (o : Orc) (s : MS) (ss : List MS) (E : Env) (st : Sto) : exB o (s :: ss) E st = kB (exS o s E st) o ss := by rw [exB]; rfl
def plcV (x : Option (Option Val)) : Bool := match x with | some (some _) => true | _ => false
def plcW2 (x : Option D) : Bool := match x with | some (.lst _) => true | _ => false
def plcW (x : Option (Option Val)) (st : Sto) : Bool := match x with | some (some (.new (.lst _))) => true | some (some (.dat (.ref n))) => plcW2 st[n]? | _ => false
theorem plcV_some (v : Val) : plcV (some (some v)) = true := by rfl
theorem plcB_var (k : Nat) (E : Env) : plcB (.var k) E = plcV E[k]? := by rfl
theorem plcB_fld (a : ME) (k : Nat) (E : Env) : plcB (.fld a k) E = true := by rfl
theorem plcB_sub (a i : ME) (E : Env) : plcB (.sub a i) E = true := by rfl
theorem plcW_new (l : List D) (st : Sto) : plcW (some (some (.new (.lst l)))) st = true := by rfl
theorem plcW_ref (n : Nat) (st : Sto) : plcW (some (some (.dat (.ref n)))) st = plcW2 st[n]? := by rfl
theorem plcW2_lst (l : List D) : plcW2 (some (.lst l)) = true := by rfl
theorem plcL_var (k : Nat) (E : Env) (st : Sto) : plcL (.var k) E st = plcW E[k]? st := by rfl
theorem plcL_fld (a : ME) (k : Nat) (E : Env) (st : Sto) : plcL (.fld a k) E st = true := by rfl
theorem plcL_sub (a i : ME) (E : Env) (st : Sto) : plcL (.sub a i) E st = true := by rfl

theorem binF_add (a b : Int) : binF .add (.int a) (.int b) = some (.dat (.int (a + b))) := by rfl
theorem binF_sub (a b : Int) : binF .sub (.int a) (.int b) = some (.dat (.int (a - b))) := by rfl
theorem binF_mul {a b : Int} (h1 : big a = true) (h2 : big b = true) : binF .mul (.int a) (.int b) = some (.dat (.int (a * b))) := by
  show (if big a && big b then _ else none) = _
  rw [h1, h2]; rfl
theorem binF_fdiv {a b : Int} (h1 : 0 < b) (h2 : big b = true) : binF .fdiv (.int a) (.int b) = some (.dat (.int (a / b))) := by
  show (if 0 < b ∧ big b = true then _ else none) = _
  rw [if_pos ⟨h1, h2⟩]
theorem binF_mod {a b : Int} (h1 : 0 < b) : binF .mod (.int a) (.int b) = some (.dat (.int (a % b))) := by
  show (if 0 < b then _ else none) = _
  rw [if_pos h1]
theorem binF_pow {a b : Int} (h1 : 0 ≤ b ∧ b ≤ 1000 ∧ a.natAbs < 2 ^ 64) : binF .pow (.int a) (.int b) = some (.dat (.int (a ^ b.toNat))) := by
  show (if 0 ≤ b ∧ b ≤ 1000 ∧ a.natAbs < 2 ^ 64 then _ else none) = _
  rw [if_pos h1]
theorem binF_p18 : binF .pow (.int 10) (.int 18) = some (.dat (.int 1000000000000000000)) := by rfl
theorem binF_p9 : binF .pow (.int 10) (.int 9) = some (.dat (.int 1000000000)) := by rfl
theorem binF_adds {a b : List Nat} (h : a.length + b.length ≤ szMax) : binF .add (.str a) (.str b) = some (.dat (.str (a ++ b))) := by
  show (if a.length + b.length ≤ szMax then _ else none) = _
  rw [if_pos h]
theorem binF_addl {a b : List D} (h : a.length + b.length ≤ szMax) : binF .add (.lst a) (.lst b) = some (.new (.lst (a ++ b))) := by
  show (if a.length + b.length ≤ szMax then _ else none) = _
  rw [if_pos h]
theorem binF_addt {a b : List D} (h : a.length + b.length ≤ szMax) : binF .add (.tup a) (.tup b) = some (.dat (.tup (a ++ b))) := by
  show (if a.length + b.length ≤ szMax then _ else none) = _
  rw [if_pos h]
theorem cmpF_lt (a b : Int) : cmpF .lt (.int a) (.int b) = some (decide (a < b)) := by rfl
theorem cmpF_gt (a b : Int) : cmpF .gt (.int a) (.int b) = some (decide (b < a)) := by rfl
theorem cmpF_le (a b : Int) : cmpF .le (.int a) (.int b) = some (decide (a ≤ b)) := by rfl
theorem cmpF_ge (a b : Int) : cmpF .ge (.int a) (.int b) = some (decide (b ≤ a)) := by rfl
theorem cmpF_inl (a : D) (b : List D) : cmpF .isin a (.lst b) = memD a b := by cases a <;> rfl
theorem cmpF_int (a : D) (b : List D) : cmpF .isin a (.tup b) = memD a b := by cases a <;> rfl
theorem cmpF_nil (a : D) (b : List D) : cmpF .notin a (.lst b) = (memD a b).map not := by cases a <;> rfl
theorem cmpF_nit (a : D) (b : List D) : cmpF .notin a (.tup b) = (memD a b).map not := by cases a <;> rfl
theorem cmpF_ins (c : Nat) (b : List Nat) : cmpF .isin (.str [c]) (.str b) = some (b.contains c) := by rfl
theorem cmpF_nis (c : Nat) (b : List Nat) : cmpF .notin (.str [c]) (.str b) = some (!b.contains c) := by rfl
theorem eqT_ii (a b : Int) : eqT (.int a) (.int b) = some (decide (a = b)) := by rfl
theorem eqT_bb (a b : Bool) : eqT (.bl a) (.bl b) = some (decide (a = b)) := by cases a <;> cases b <;> rfl
theorem eqT_ss (a b : List Nat) : eqT (.str a) (.str b) = some (decide (a = b)) := by
  show some (a == b) = _
  congr 1; by_cases h : a = b <;> simp [h]
theorem eqT_eq (a b : D) : eqT a b = if pd a pdMax && pd b pdMax then some (eqD a b) else none := by rfl

theorem getF_l (xs : List D) (i : Int) : getF (.lst xs) (.int i) = getAt xs i := by rfl
theorem getF_t (xs : List D) (i : Int) : getF (.tup xs) (.int i) = getAt xs i := by rfl
theorem getF_scr (xs : List Int) (i : Int) : getF (.scr xs) (.int i) = (getAt xs i).map .int := by rfl
theorem getAt_nat {α : Type} {xs : List α} {k : Nat} (h : k < xs.length) : getAt xs (k : Int) = some xs[k] := by
  unfold getAt idxAt
  rw [if_pos (by omega), if_pos (by omega)]
  simp [h]
theorem getAt_pos {α : Type} {xs : List α} {i : Int} (h0 : 0 ≤ i) (h : i < xs.length) : getAt xs i = some (xs[i.toNat]'(by omega)) := by
  unfold getAt idxAt
  rw [if_pos h0, if_pos h]
  simp
theorem getAt_neg {α : Type} {xs : List α} {i : Int} (h0 : i < 0) (h : 0 ≤ i + xs.length) : getAt xs i = some (xs[(i + xs.length).toNat]'(by omega)) := by
  unfold getAt idxAt
  rw [if_neg (by omega), if_pos h]
  simp

theorem getAt_0 {α : Type} (x0 : α) (r : List α) : getAt (x0 :: r) (0 : Int) = some x0 := by
  unfold getAt idxAt; rw [if_pos (by decide), if_pos (by simp; try omega)]; rfl
theorem getAt_1 {α : Type} (x0 x1 : α) (r : List α) : getAt (x0 :: x1 :: r) (1 : Int) = some x1 := by
  unfold getAt idxAt; rw [if_pos (by decide), if_pos (by simp; try omega)]; rfl
theorem getAt_2 {α : Type} (x0 x1 x2 : α) (r : List α) : getAt (x0 :: x1 :: x2 :: r) (2 : Int) = some x2 := by
  unfold getAt idxAt; rw [if_pos (by decide), if_pos (by simp; try omega)]; rfl
theorem getAt_3 {α : Type} (x0 x1 x2 x3 : α) (r : List α) : getAt (x0 :: x1 :: x2 :: x3 :: r) (3 : Int) = some x3 := by
  unfold getAt idxAt; rw [if_pos (by decide), if_pos (by simp; try omega)]; rfl
theorem getAt_4 {α : Type} (x0 x1 x2 x3 x4 : α) (r : List α) : getAt (x0 :: x1 :: x2 :: x3 :: x4 :: r) (4 : Int) = some x4 := by
  unfold getAt idxAt; rw [if_pos (by decide), if_pos (by simp; try omega)]; rfl
theorem getAt_5 {α : Type} (x0 x1 x2 x3 x4 x5 : α) (r : List α) : getAt (x0 :: x1 :: x2 :: x3 :: x4 :: x5 :: r) (5 : Int) = some x5 := by
  unfold getAt idxAt; rw [if_pos (by decide), if_pos (by simp; try omega)]; rfl
theorem getAt_6 {α : Type} (x0 x1 x2 x3 x4 x5 x6 : α) (r : List α) : getAt (x0 :: x1 :: x2 :: x3 :: x4 :: x5 :: x6 :: r) (6 : Int) = some x6 := by
  unfold getAt idxAt; rw [if_pos (by decide), if_pos (by simp; try omega)]; rfl
theorem getAt_7 {α : Type} (x0 x1 x2 x3 x4 x5 x6 x7 : α) (r : List α) : getAt (x0 :: x1 :: x2 :: x3 :: x4 :: x5 :: x6 :: x7 :: r) (7 : Int) = some x7 := by
  unfold getAt idxAt; rw [if_pos (by decide), if_pos (by simp; try omega)]; rfl
theorem getAt_8 {α : Type} (x0 x1 x2 x3 x4 x5 x6 x7 x8 : α) (r : List α) : getAt (x0 :: x1 :: x2 :: x3 :: x4 :: x5 :: x6 :: x7 :: x8 :: r) (8 : Int) = some x8 := by
  unfold getAt idxAt; rw [if_pos (by decide), if_pos (by simp; try omega)]; rfl
theorem getAt_9 {α : Type} (x0 x1 x2 x3 x4 x5 x6 x7 x8 x9 : α) (r : List α) : getAt (x0 :: x1 :: x2 :: x3 :: x4 :: x5 :: x6 :: x7 :: x8 :: x9 :: r) (9 : Int) = some x9 := by
  unfold getAt idxAt; rw [if_pos (by decide), if_pos (by simp; try omega)]; rfl
theorem len_l (xs : List D) : bi1 .len (.lst xs) = some (.dat (.int xs.length)) := by rfl
theorem len_t (xs : List D) : bi1 .len (.tup xs) = some (.dat (.int xs.length)) := by rfl
theorem len_s (xs : List Nat) : bi1 .len (.str xs) = some (.dat (.int xs.length)) := by rfl
theorem len_scr (xs : List Int) : bi1 .len (.scr xs) = some (.dat (.int xs.length)) := by rfl
theorem len_d (xs : List (D × D)) : bi1 .len (.dct xs) = some (.dat (.int xs.length)) := by rfl
theorem abs_i (i : Int) : bi1 .abs (.int i) = some (.dat (.int i.natAbs)) := by rfl
theorem int_i (i : Int) : bi1 .int (.int i) = some (.dat (.int i)) := by rfl
theorem int_b (b : Bool) : bi1 .int (.bl b) = some (.dat (.int (if b = true then 1 else 0))) := by rfl
theorem tuple_l (xs : List D) : bi1 .tuple (.lst xs) = some (.dat (.tup xs)) := by rfl
theorem tuple_t (xs : List D) : bi1 .tuple (.tup xs) = some (.dat (.tup xs)) := by rfl
theorem minL_l (xs : List Int) : bi1 .minL (.lst (xs.map .int)) = (xs.min?).map fun i => .dat (.int i) := by
  have : ints? (xs.map .int) = some xs := by
    induction xs with
    | nil => rfl
    | cons a r ih => rw [List.map_cons, ints?, ih]; rfl
  show (match ints? (xs.map .int) with | some l => (l.min?).map fun i => Val.dat (.int i) | none => none) = _
  rw [this]
theorem maxL_l (xs : List Int) : bi1 .maxL (.lst (xs.map .int)) = (xs.max?).map fun i => .dat (.int i) := by
  have : ints? (xs.map .int) = some xs := by
    induction xs with
    | nil => rfl
    | cons a r ih => rw [List.map_cons, ints?, ih]; rfl
  show (match ints? (xs.map .int) with | some l => (l.max?).map fun i => Val.dat (.int i) | none => none) = _
  rw [this]
theorem sum_l (xs : List Int) : bi1 .sum (.lst (xs.map .int)) = some (.dat (.int xs.sum)) := by
  have : ints? (xs.map .int) = some xs := by
    induction xs with
    | nil => rfl
    | cons a r ih => rw [List.map_cons, ints?, ih]; rfl
  show (ints? (xs.map .int)).map _ = _
  rw [this]; rfl
theorem biF_one (b : BI) (d : D) : biF b [d] = bi1 b d := by cases b <;> simp [biF]
theorem min_2 (a b : Int) : biF .minA [.int a, .int b] = some (.dat (.int (min a b))) := by rfl
theorem max_2 (a b : Int) : biF .maxA [.int a, .int b] = some (.dat (.int (max a b))) := by rfl
theorem seq_l (xs : List D) : seqOf (.lst xs) = some xs := by rfl
theorem seq_t (xs : List D) : seqOf (.tup xs) = some xs := by rfl
theorem items_l (xs : List D) : itemsOf (.lst xs) = some xs := by rfl
theorem items_t (xs : List D) : itemsOf (.tup xs) = some xs := by rfl
theorem frz_n {E : Env} {i : Nat} {d : D} (h : E[i]? = some (some (.new d))) (h2 : d.isSet = false) (o : Orc) (st : Sto) : exS o (.frz i) E st = .nx (E.set i (some (.dat d))) st := by
  rw [exS, h]; simp [h2]
theorem slc_l (xs : List D) (lo hi : Option Int) : slcF (.lst xs) lo hi = some (.new (.lst (cut xs lo hi))) := by rfl
theorem slc_t (xs : List D) (lo hi : Option Int) : slcF (.tup xs) lo hi = some (.dat (.tup (cut xs lo hi))) := by rfl
theorem slc_s (xs : List Nat) (lo hi : Option Int) : slcF (.str xs) lo hi = some (.dat (.str (cut xs lo hi))) := by rfl
theorem cut_up {α : Type} (xs : List α) {j : Int} (h : 0 ≤ j) : cut xs none (some j) = xs.take j.toNat := by
  simp [cut, clampI, Int.not_lt.mpr h]
theorem cut_lo {α : Type} (xs : List α) {j : Int} (h : 0 ≤ j) : cut xs (some j) none = xs.drop j.toNat := by
  simp only [cut, clampI, Int.not_lt.mpr h, if_false, List.take_length]
  by_cases hh : j.toNat ≤ xs.length
  · rw [Nat.min_eq_left hh]
  · rw [Nat.min_eq_right (by omega), List.drop_eq_nil_of_le (Nat.le_refl _), List.drop_eq_nil_of_le (by omega)]

theorem ty_int_non (sup : Nat → List Nat)  : tyF sup .int .non = some false := by rfl
theorem ty_int_bl (sup : Nat → List Nat) (b : Bool) : tyF sup .int (.bl b) = some true := by rfl
theorem ty_int_int (sup : Nat → List Nat) (b : Int) : tyF sup .int (.int b) = some true := by rfl
theorem ty_int_str (sup : Nat → List Nat) (b : List Nat) : tyF sup .int (.str b) = some false := by rfl
theorem ty_int_tup (sup : Nat → List Nat) (b : List D) : tyF sup .int (.tup b) = some false := by rfl
theorem ty_int_lst (sup : Nat → List Nat) (b : List D) : tyF sup .int (.lst b) = some false := by rfl
theorem ty_int_dct (sup : Nat → List Nat) (b : List (D × D)) : tyF sup .int (.dct b) = some false := by rfl
theorem ty_bool_non (sup : Nat → List Nat)  : tyF sup .bool .non = some false := by rfl
theorem ty_bool_bl (sup : Nat → List Nat) (b : Bool) : tyF sup .bool (.bl b) = some true := by rfl
theorem ty_bool_int (sup : Nat → List Nat) (b : Int) : tyF sup .bool (.int b) = some false := by rfl
theorem ty_bool_str (sup : Nat → List Nat) (b : List Nat) : tyF sup .bool (.str b) = some false := by rfl
theorem ty_bool_tup (sup : Nat → List Nat) (b : List D) : tyF sup .bool (.tup b) = some false := by rfl
theorem ty_bool_lst (sup : Nat → List Nat) (b : List D) : tyF sup .bool (.lst b) = some false := by rfl
theorem ty_bool_dct (sup : Nat → List Nat) (b : List (D × D)) : tyF sup .bool (.dct b) = some false := by rfl
theorem ty_str_non (sup : Nat → List Nat)  : tyF sup .str .non = some false := by rfl
theorem ty_str_bl (sup : Nat → List Nat) (b : Bool) : tyF sup .str (.bl b) = some false := by rfl
theorem ty_str_int (sup : Nat → List Nat) (b : Int) : tyF sup .str (.int b) = some false := by rfl
theorem ty_str_str (sup : Nat → List Nat) (b : List Nat) : tyF sup .str (.str b) = some true := by rfl
theorem ty_str_tup (sup : Nat → List Nat) (b : List D) : tyF sup .str (.tup b) = some false := by rfl
theorem ty_str_lst (sup : Nat → List Nat) (b : List D) : tyF sup .str (.lst b) = some false := by rfl
theorem ty_str_dct (sup : Nat → List Nat) (b : List (D × D)) : tyF sup .str (.dct b) = some false := by rfl
theorem ty_list_non (sup : Nat → List Nat)  : tyF sup .list .non = some false := by rfl
theorem ty_list_bl (sup : Nat → List Nat) (b : Bool) : tyF sup .list (.bl b) = some false := by rfl
theorem ty_list_int (sup : Nat → List Nat) (b : Int) : tyF sup .list (.int b) = some false := by rfl
theorem ty_list_str (sup : Nat → List Nat) (b : List Nat) : tyF sup .list (.str b) = some false := by rfl
theorem ty_list_tup (sup : Nat → List Nat) (b : List D) : tyF sup .list (.tup b) = some false := by rfl
theorem ty_list_lst (sup : Nat → List Nat) (b : List D) : tyF sup .list (.lst b) = some true := by rfl
theorem ty_list_dct (sup : Nat → List Nat) (b : List (D × D)) : tyF sup .list (.dct b) = some false := by rfl
theorem ty_tuple_non (sup : Nat → List Nat)  : tyF sup .tuple .non = some false := by rfl
theorem ty_tuple_bl (sup : Nat → List Nat) (b : Bool) : tyF sup .tuple (.bl b) = some false := by rfl
theorem ty_tuple_int (sup : Nat → List Nat) (b : Int) : tyF sup .tuple (.int b) = some false := by rfl
theorem ty_tuple_str (sup : Nat → List Nat) (b : List Nat) : tyF sup .tuple (.str b) = some false := by rfl
theorem ty_tuple_tup (sup : Nat → List Nat) (b : List D) : tyF sup .tuple (.tup b) = some true := by rfl
theorem ty_tuple_lst (sup : Nat → List Nat) (b : List D) : tyF sup .tuple (.lst b) = some false := by rfl
theorem ty_tuple_dct (sup : Nat → List Nat) (b : List (D × D)) : tyF sup .tuple (.dct b) = some false := by rfl
theorem ty_dict_non (sup : Nat → List Nat)  : tyF sup .dict .non = some false := by rfl
theorem ty_dict_bl (sup : Nat → List Nat) (b : Bool) : tyF sup .dict (.bl b) = some false := by rfl
theorem ty_dict_int (sup : Nat → List Nat) (b : Int) : tyF sup .dict (.int b) = some false := by rfl
theorem ty_dict_str (sup : Nat → List Nat) (b : List Nat) : tyF sup .dict (.str b) = some false := by rfl
theorem ty_dict_tup (sup : Nat → List Nat) (b : List D) : tyF sup .dict (.tup b) = some false := by rfl
theorem ty_dict_lst (sup : Nat → List Nat) (b : List D) : tyF sup .dict (.lst b) = some false := by rfl
theorem ty_dict_dct (sup : Nat → List Nat) (b : List (D × D)) : tyF sup .dict (.dct b) = some true := by rfl
theorem tys_nil (sup : Nat → List Nat) (d : D) : tysF sup [] d = some false := by rfl
theorem tys_t {sup : Nat → List Nat} {t : Ty} {d : D} (h : tyF sup t d = some true) (r : List Ty) : tysF sup (t :: r) d = some true := by rw [tysF, h]
theorem tys_f {sup : Nat → List Nat} {t : Ty} {d : D} (h : tyF sup t d = some false) (r : List Ty) : tysF sup (t :: r) d = tysF sup r d := by rw [tysF, h]
theorem isi_dat (o : Nat → List Nat) (ts : List Ty) (st : Sto) (d : D) : isiV o ts st (.dat d) = (drf st d).bind fun d => tysF o ts d := by rfl
theorem isi_new (o : Nat → List Nat) (ts : List Ty) (st : Sto) (d : D) : isiV o ts st (.new d) = (drf st d).bind fun d => tysF o ts d := by rfl
theorem isi_bor (o : Nat → List Nat) (ts : List Ty) (st : Sto) (d : D) : isiV o ts st (.bor d) = (drf st d).bind fun d => tysF o ts d := by rfl
/-! calls -/
def SR.fin : SR → ER Val | .nx _ st => .ok (.dat .non) st | .rt v st => .ok v st | .ex x _ st => .ex x st | _ => .bad
theorem runF_eq (o : Orc) (b : List MS) (E : Env) (st : Sto) : runF o b E st = (exB o b E st).fin := by
  unfold runF SR.fin; cases exB o b E st <;> rfl
theorem fin_nx (E : Env) (st : Sto) : SR.fin (.nx E st) = .ok (.dat .non) st := by rfl
theorem fin_rt (v : Val) (st : Sto) : SR.fin (.rt v st) = .ok v st := by rfl
theorem fin_ex (x : Exc) (E : Env) (st : Sto) : SR.fin (.ex x E st) = .ex x st := by rfl
theorem trim_f (n : Nat) (r : ER Val) : trim false n r = r := by unfold trim; cases r <;> rfl
theorem callN_fn {p : Prog} {n f : Nat} {fd : FnD} {ds : List D} {st : Sto} {E : Env} (h : p.fns[f]? = some fd) (he : envOf fd (ds.map .dat) = some E) (ht : fd.tmp = false) :
    callN p (n + 1) false f ds st = (exB (O p n) fd.body E st).fin := by
  rw [callN, h]
  simp only [he, ht, trim_f, runF_eq]
theorem ocall (p : Prog) (n : Nat) : (O p n).call = callN p n false := by rfl
theorem omake (p : Prog) (n : Nat) : (O p n).make = callN p n true := by rfl
/-! lists made by a walk -/
def compG {α : Type} (g : α → Sto → ER (Option D)) : List α → Sto → List D → ER (List D)
  | [], st, acc => .ok acc.reverse st
  | x :: r, st, acc => (g x st).bind fun v st1 => match v with | some d => compG g r st1 (d :: acc) | none => compG g r st1 acc
theorem compG_congr {α : Type} {g g' : α → Sto → ER (Option D)} {xs xs' : List α} {acc : List D} (h2 : xs = xs') (h : ∀ x, x ∈ xs' → ∀ st, g x st = g' x st) (st : Sto) : compG g xs st acc = compG g' xs' st acc := by
  subst h2
  induction xs generalizing st acc with
  | nil => rfl
  | cons x r ih =>
    rw [compG, compG, h x List.mem_cons_self]
    have ih := fun acc st => @ih acc st (fun y hy => h y (List.mem_cons_of_mem _ hy))
    cases g' x st with
    | ok a st1 => simp only [bind_ok]; cases a <;> simp only [ih]
    | ex _ _ => rfl
    | bad => rfl
theorem compG_pure {α : Type} (g : α → Option D) (xs : List α) (st : Sto) (acc : List D) : compG (fun x st => .ok (g x) st) xs st acc = .ok (acc.reverse ++ xs.filterMap g) st := by
  induction xs generalizing acc with
  | nil => simp [compG]
  | cons x r ih =>
    rw [compG, bind_ok, List.filterMap_cons]
    cases g x with
    | none => exact ih acc
    | some d => simp only [ih]; simp
theorem compG_pure0 {α : Type} (g : α → Option D) (xs : List α) (st : Sto) : compG (fun x st => .ok (g x) st) xs st [] = .ok (xs.filterMap g) st := by rw [compG_pure]; rfl
theorem filterMap_some' {α : Type} (f : α → D) (xs : List α) : List.filterMap (fun x => some (f x)) xs = xs.map f := by
  induction xs with
  | nil => rfl
  | cons x r ih => rw [List.filterMap_cons]; simp [ih]
theorem filterMap_if' {α : Type} (f : α → D) (c : α → Prop) [DecidablePred c] (xs : List α) : List.filterMap (fun x => if c x then some (f x) else none) xs = (xs.filter fun x => decide (c x)).map f := by
  induction xs with
  | nil => rfl
  | cons x r ih =>
    rw [List.filterMap_cons, List.filter_cons]
    by_cases h : c x <;> simp [h, ih]
theorem ite_okc {c : Prop} [Decidable c] (a b : Option D) (st : Sto) : (if c then ER.ok a st else .ok b st) = .ok (if c then a else b) st := by split <;> rfl
theorem ite_okv {c : Prop} [Decidable c] (a b : Val) (st : Sto) : (if c then ER.ok a st else .ok b st) = .ok (if c then a else b) st := by split <;> rfl
theorem ite_int {c : Prop} [Decidable c] (a b : Int) : (if c then Val.dat (.int a) else .dat (.int b)) = .dat (.int (if c then a else b)) := by split <;> rfl
theorem ite_bl1 {c : Prop} [Decidable c] (b : Bool) : (if c then Val.dat (.bl b) else .dat (.bl false)) = .dat (.bl (decide c && b)) := by by_cases h : c <;> simp [h]
theorem ite_bl2 {c : Prop} [Decidable c] (b : Bool) : (if c then Val.dat (.bl true) else .dat (.bl b)) = .dat (.bl (decide c || b)) := by by_cases h : c <;> simp [h]
theorem cmp_map {α : Type} (ev cf : Env → Sto → ER Val) (p : Pat) (E : Env) (f : α → D) (xs : List α) (st : Sto) (acc : List D) :
    compL ev cf p E (xs.map f) st acc = compG (fun x st => match patF p (f x) E with
      | none => .bad
      | some E' => (cf E' st).nox.bind fun v st1 => ifV v ((ev E' st1).nox.bind fun v st2 => (ER.opt v.kp st2).bind fun r st3 => .ok (some r) st3) (.ok none st1) .bad) xs st acc := by
  induction xs generalizing st acc with
  | nil => rfl
  | cons x r ih =>
    rw [List.map_cons, compL, compG]
    cases patF p (f x) E with
    | none => rfl
    | some E' =>
      simp only
      cases (cf E' st).nox with
      | ex _ _ => rfl
      | bad => rfl
      | ok v st1 =>
        simp only [bind_ok]
        cases e : v with
        | new _ => rfl
        | bor _ => rfl
        | xv _ _ => rfl
        | dat d =>
        cases d with
        | bl b =>
          simp only [ifV_bl]
          split
          · cases (ev E' st1).nox with
            | ex _ _ => rfl
            | bad => rfl
            | ok v st2 =>
              simp only [bind_ok]
              cases v.kp with
              | none => rfl
              | some r => simp only [opt_some, bind_ok, ih]
          · simp only [bind_ok, ih]
        | _ => rfl
theorem fS_frE {o : Orc} {p : Pat} {it : MI} {b : List MS} {E : Env} {st : Sto} {ds : List D} {st1 : Sto} (h : evI o true it E st = .ok ds st1) : exS o (.fr p it b) E st = forE o p b ds E st1 := by rw [fS_fr, h, kFr_ok]
theorem cast_lit (n : Nat) : (Nat.cast (no_index (OfNat.ofNat n)) : Int) = OfNat.ofNat n := by rfl
theorem notdec (P : Prop) [Decidable P] : ((!decide P) = true) = ¬P := by simp
def optS (d : Option D) (st : Sto) : ER (Option D) := (ER.opt d st).bind fun r st3 => .ok (some r) st3
theorem optS_some (d : D) (st : Sto) : optS (some d) st = .ok (some d) st := by rfl
def kElt (r : ER Val) : ER (Option D) := r.nox.bind fun v st2 => (ER.opt v.kp st2).bind fun r st3 => .ok (some r) st3
theorem kElt_ok (v : Val) (st : Sto) : kElt (.ok v st) = optS v.kp st := by rfl
def kCnd (r : ER Val) (o : Orc) (e : ME) (E : Env) : ER (Option D) := r.nox.bind fun v st1 => ifV v (kElt (evE o e E st1)) (.ok none st1) .bad
theorem kCnd_b (b : Bool) (st : Sto) (o : Orc) (e : ME) (E : Env) : kCnd (.ok (.dat (.bl b)) st) o e E = if b = true then kElt (evE o e E st) else .ok none st := by rfl
def pC (r : Option Env) (o : Orc) (c e : ME) (st : Sto) : ER (Option D) := match r with | none => .bad | some E => kCnd (evE o c E st) o e E
theorem pC_some (o : Orc) (c e : ME) (E : Env) (st : Sto) : pC (some E) o c e st = kCnd (evE o c E st) o e E := by rfl
def pE (r : Option Env) (o : Orc) (e : ME) (st : Sto) : ER (Option D) := match r with | none => .bad | some E => kElt (evE o e E st)
theorem pE_some (o : Orc) (e : ME) (E : Env) (st : Sto) : pE (some E) o e st = kElt (evE o e E st) := by rfl
theorem compC_map {α : Type} (o : Orc) (e c : ME) (p : Pat) (E : Env) (f : α → D) (xs : List α) (st : Sto) :
    compC o e p c (xs.map f) E st = compG (fun x st => pC (patF p (f x) E) o c e st) xs st [] := by
  rw [compC, cmp_map]
  congr 1
theorem compE_map {α : Type} (o : Orc) (e : ME) (p : Pat) (E : Env) (f : α → D) (xs : List α) (st : Sto) :
    compE o e p (xs.map f) E st = compG (fun x st => pE (patF p (f x) E) o e st) xs st [] := by
  rw [compE, cmp_map]
  congr 1
/-- those items that fit, each turned -/
theorem compC_pure {α : Type} {o : Orc} {e c : ME} {p : Pat} {E : Env} {f : α → D} {xs : List α} (cf : α → Bool) (g : α → D)
    (h : ∀ x ∈ xs, ∃ E', patF p (f x) E = some E' ∧ (∀ st, evE o c E' st = .ok (.dat (.bl (cf x))) st) ∧ (cf x = true → ∀ st, ∃ v, evE o e E' st = .ok v st ∧ v.kp = some (g x))) (st : Sto) :
    compC o e p c (xs.map f) E st = .ok ((xs.filter cf).map g) st := by
  rw [compC_map, compG_congr (g' := fun x st => .ok (if cf x = true then some (g x) else none) st) rfl, compG_pure0]
  · congr 1
    rw [filterMap_if']; simp
  · intro x hx st
    obtain ⟨E', e1, e2, e3⟩ := h x hx
    rw [e1, pC_some, e2, kCnd_b]
    by_cases hc : cf x = true
    · obtain ⟨v, e4, e5⟩ := e3 hc st
      rw [if_pos hc, if_pos hc, e4, kElt_ok, e5, optS_some]
    · rw [if_neg hc, if_neg hc]
theorem compE_pure {α : Type} {o : Orc} {e : ME} {p : Pat} {E : Env} {f : α → D} {xs : List α} (g : α → D)
    (h : ∀ x ∈ xs, ∃ E', patF p (f x) E = some E' ∧ (∀ st, ∃ v, evE o e E' st = .ok v st ∧ v.kp = some (g x))) (st : Sto) :
    compE o e p (xs.map f) E st = .ok (xs.map g) st := by
  rw [compE_map, compG_congr (g' := fun x st => .ok (some (g x)) st) rfl, compG_pure0, filterMap_some']
  intro x hx st
  obtain ⟨E', e1, e2⟩ := h x hx
  obtain ⟨v, e4, e5⟩ := e2 st
  rw [e1, pE_some, e4, kElt_ok, e5, optS_some]
theorem patF_v (i : Nat) (d : D) (E : Env) : patF (.v i) d E = if i < E.length then some (E.set i (some (.dat d))) else none := by
  unfold patF; rw [patA]; simp only; rw [setL]; split <;> rfl
theorem patF_2 (i j : Nat) (a b : D) (E : Env) : patF (.t [.v i, .v j]) (.tup [a, b]) E = if i < E.length then (if j < E.length then some ((E.set i (some (.dat a))).set j (some (.dat b))) else none) else none := by
  unfold patF; simp only [patA, patAL, setL, List.append_nil, List.cons_append, List.nil_append, List.length_set]
theorem patF_3 (i j k : Nat) (a b c : D) (E : Env) : patF (.t [.v i, .v j, .v k]) (.tup [a, b, c]) E = if i < E.length then (if j < E.length then (if k < E.length then some (((E.set i (some (.dat a))).set j (some (.dat b))).set k (some (.dat c))) else none) else none) else none := by
  unfold patF; simp only [patA, patAL, setL, List.append_nil, List.cons_append, List.nil_append, List.length_set]
theorem range_ok {lo hi : Int} (h : (hi - lo).toNat ≤ szMax ∧ -(2 ^ 60) ≤ lo ∧ lo ≤ 2 ^ 60 ∧ -(2 ^ 60) ≤ hi ∧ hi ≤ 2 ^ 60) : rangeL lo hi = some ((List.range (hi - lo).toNat).map fun (k : Nat) => .int (lo + k)) := by
  unfold rangeL; rw [if_pos h]
/-- a list comprehension that draws -/
theorem compL_ex {α : Type} (I : Sto → Prop) (P : D → Prop) (ev cf : Env → Sto → ER Val) (p : Pat) (E : Env) (f : α → D) (xs : List α)
    (h : ∀ x ∈ xs, ∀ st, I st → ∃ E', patF p (f x) E = some E' ∧ cf E' st = .ok (.dat (.bl true)) st ∧ ∃ d st', ev E' st = .ok (.dat d) st' ∧ P d ∧ I st') :
    ∀ st acc, I st → ∃ ds st', compL ev cf p E (xs.map f) st acc = .ok (acc.reverse ++ ds) st' ∧ ds.length = xs.length ∧ (∀ d ∈ ds, P d) ∧ I st' := by
  induction xs with
  | nil => exact fun st acc hi => ⟨[], st, by simp [compL], rfl, by simp, hi⟩
  | cons x r ih =>
    intro st acc hi
    obtain ⟨E', e1, e2, d, st', e3, hp, hi'⟩ := h x List.mem_cons_self st hi
    obtain ⟨ds, st2, e4, hl, hq, hi2⟩ := ih (fun y hy => h y (List.mem_cons_of_mem _ hy)) st' (d :: acc) hi'
    refine ⟨d :: ds, st2, ?_, by simp [hl], by simpa using ⟨hp, hq⟩, hi2⟩
    rw [List.map_cons, compL, e1]
    simp only [e2, nox_ok, bind_ok, ifV_bl, if_true, e3, kp_dat, opt_some, e4]
    simp
/-- a list comprehension that draws, over all frames alike -/
theorem compL_exE {α : Type} (I : Sto → Prop) (P : D → Prop) (C : Env → Prop) (ev cf : Env → Sto → ER Val) (p : Pat) (f : α → D) (xs : List α)
    (h : ∀ x ∈ xs, ∀ st, I st → ∃ d st', P d ∧ I st' ∧ ∀ E, C E → ∃ E', patF p (f x) E = some E' ∧ cf E' st = .ok (.dat (.bl true)) st ∧ ev E' st = .ok (.dat d) st') :
    ∀ st, I st → ∃ ds st', ds.length = xs.length ∧ (∀ d ∈ ds, P d) ∧ I st' ∧ ∀ E, C E → ∀ acc, compL ev cf p E (xs.map f) st acc = .ok (acc.reverse ++ ds) st' := by
  induction xs with
  | nil => exact fun st hi => ⟨[], st, rfl, by simp, hi, fun E _ acc => by simp [compL]⟩
  | cons x r ih =>
    intro st hi
    obtain ⟨d, st', hp, hi', he⟩ := h x List.mem_cons_self st hi
    obtain ⟨ds, st2, hl, hq, hi2, he2⟩ := ih (fun y hy => h y (List.mem_cons_of_mem _ hy)) st' hi'
    refine ⟨d :: ds, st2, by simp [hl], by simpa using ⟨hp, hq⟩, hi2, fun E hE acc => ?_⟩
    obtain ⟨E', e1, e2, e3⟩ := he E hE
    rw [List.map_cons, compL, e1]
    simp only [e2, nox_ok, bind_ok, ifV_bl, if_true, e3, kp_dat, opt_some, he2 E hE]
    simp
theorem fE_lcE {o : Orc} {e : ME} {p : Pat} {it : MI} {E : Env} {st st1 st2 : Sto} {ds l : List D} (h1 : evI o false it E st = .ok ds st1)
    (h2 : compE o e p ds E st1 = .ok l st2) : evE o (.lc e p it) E st = .ok (.new (.lst l)) st2 := by
  rw [fE_lc, h1, kLc_ok, h2, kLsI_ok]
theorem fE_lcfE {o : Orc} {e c : ME} {p : Pat} {it : MI} {E : Env} {st st1 st2 : Sto} {ds l : List D} (h1 : evI o false it E st = .ok ds st1)
    (h2 : compC o e p c ds E st1 = .ok l st2) : evE o (.lcf e p it c) E st = .ok (.new (.lst l)) st2 := by
  rw [fE_lcf, h1, kLcf_ok, h2, kLsI_ok]
theorem maxL_f {α : Type} (f : α → Int) (xs : List α) : bi1 .maxL (.lst (xs.map fun x => .int (f x))) = ((xs.map f).max?).map fun i => .dat (.int i) := by
  rw [← maxL_l, List.map_map]; rfl
theorem minL_f {α : Type} (f : α → Int) (xs : List α) : bi1 .minL (.lst (xs.map fun x => .int (f x))) = ((xs.map f).min?).map fun i => .dat (.int i) := by
  rw [← minL_l, List.map_map]; rfl
theorem sum_f {α : Type} (f : α → Int) (xs : List α) : bi1 .sum (.lst (xs.map fun x => .int (f x))) = some (.dat (.int (xs.map f).sum)) := by
  rw [← sum_l, List.map_map]; rfl
theorem forE_nil (o : Orc) (p : Pat) (b : List MS) (E : Env) (st : Sto) : forE o p b [] E st = .nx E st := by rfl
theorem whlE_t {o : Orc} {c : ME} {b : List MS} {n : Nat} {E E2 : Env} {st st1 st2 : Sto} (h : evE o c E st = .ok (.dat (.bl true)) st1) (h2 : exB o b E st1 = .nx E2 st2) : whlE o c b (n + 1) E st = whlE o c b n E2 st2 := by
  rw [whlE, whlL, h]
  simp only [sr_ok, ifV_bl, if_true, h2, lp_nx]; rfl
theorem whlE_f {o : Orc} {c : ME} {b : List MS} {n : Nat} {E : Env} {st st1 : Sto} (h : evE o c E st = .ok (.dat (.bl false)) st1) : whlE o c b (n + 1) E st = .nx E st1 := by
  rw [whlE, whlL, h]
  simp only [sr_ok, ifV_bl, Bool.false_eq_true, if_false]
theorem forL_step {p : Pat} {b : Env → Sto → SR} {d : D} {ds : List D} {E E1 E2 : Env} {st st2 : Sto} (h1 : patF p d E = some E1) (h2 : b E1 st = .nx E2 st2) : forL p b (d :: ds) E st = forL p b ds E2 st2 := by
  rw [forL, h1]; simp only [h2, lp_nx]
theorem forL_stepc {p : Pat} {b : Env → Sto → SR} {d : D} {ds : List D} {E E1 E2 : Env} {st st2 : Sto} (h1 : patF p d E = some E1) (h2 : b E1 st = .ct E2 st2) : forL p b (d :: ds) E st = forL p b ds E2 st2 := by
  rw [forL, h1]; simp only [h2, lp_ct]
theorem forL_stop {p : Pat} {b : Env → Sto → SR} {d : D} {ds : List D} {E E1 : Env} {st st2 : Sto} {v : Val} (h1 : patF p d E = some E1) (h2 : b E1 st = .rt v st2) : forL p b (d :: ds) E st = .rt v st2 := by
  rw [forL, h1]; simp only [h2, lp_rt]
theorem forE_step {o : Orc} {p : Pat} {b : List MS} {d : D} {ds : List D} {E E1 E2 : Env} {st st2 : Sto} (h1 : patF p d E = some E1) (h2 : exB o b E1 st = .nx E2 st2) : forE o p b (d :: ds) E st = forE o p b ds E2 st2 := forL_step h1 h2
theorem forE_stepc {o : Orc} {p : Pat} {b : List MS} {d : D} {ds : List D} {E E1 E2 : Env} {st st2 : Sto} (h1 : patF p d E = some E1) (h2 : exB o b E1 st = .ct E2 st2) : forE o p b (d :: ds) E st = forE o p b ds E2 st2 := forL_stepc h1 h2
theorem forE_stop {o : Orc} {p : Pat} {b : List MS} {d : D} {ds : List D} {E E1 : Env} {st st2 : Sto} {v : Val} (h1 : patF p d E = some E1) (h2 : exB o b E1 st = .rt v st2) : forE o p b (d :: ds) E st = .rt v st2 := forL_stop h1 h2
theorem forE_rais {o : Orc} {p : Pat} {b : List MS} {d : D} {ds : List D} {E E1 E2 : Env} {st st2 : Sto} {x : Exc} (h1 : patF p d E = some E1) (h2 : exB o b E1 st = .ex x E2 st2) : forE o p b (d :: ds) E st = .ex x E2 st2 := by
  rw [forE, forL, h1]; simp only [h2, lp_ex]
theorem forE_brk {o : Orc} {p : Pat} {b : List MS} {d : D} {ds : List D} {E E1 E2 : Env} {st st2 : Sto} (h1 : patF p d E = some E1) (h2 : exB o b E1 st = .bk E2 st2) : forE o p b (d :: ds) E st = .nx E2 st2 := by
  rw [forE, forL, h1]; simp only [h2, lp_bk]
theorem forL_nil (p : Pat) (b : Env → Sto → SR) (E : Env) (st : Sto) : forL p b [] E st = .nx E st := by rfl
/-- a walk: what holds ahead and at each turn holds behind -/
theorem forL_inv {α : Type} (enc : α → D) (p : Pat) (b : Env → Sto → SR) (I : List α → Env → Sto → Prop) (xs : List α) (E : Env) (st : Sto) (h0 : I [] E st)
    (hs : ∀ pre x post E st, xs = pre ++ x :: post → I pre E st → ∃ E1, patF p (enc x) E = some E1 ∧ ∃ E2 st2, (b E1 st = .nx E2 st2 ∨ b E1 st = .ct E2 st2) ∧ I (pre ++ [x]) E2 st2) :
    ∃ E' st', forL p b (xs.map enc) E st = .nx E' st' ∧ I xs E' st' := by
  have key : ∀ (post pre : List α) (E : Env) (st : Sto), xs = pre ++ post → I pre E st → ∃ E' st', forL p b (post.map enc) E st = .nx E' st' ∧ I xs E' st' := by
    intro post
    induction post with
    | nil => exact fun pre E st e hi => ⟨E, st, rfl, by rw [e, List.append_nil]; exact hi⟩
    | cons x r ih =>
      intro pre E st e hi
      obtain ⟨E1, e1, E2, st2, e2, hi2⟩ := hs pre x r E st e hi
      obtain ⟨E', st', e3, hi3⟩ := ih (pre ++ [x]) E2 st2 (by rw [e, List.append_assoc]; rfl) hi2
      refine ⟨E', st', ?_, hi3⟩
      rw [List.map_cons, forL, e1]
      simp only
      rcases e2 with e2 | e2 <;> simp only [e2, lp_nx, lp_ct, e3]
  exact key xs [] E st rfl h0
/-- a walk over a range -/
theorem forL_rg (f : Nat → D) (p : Pat) (b : Env → Sto → SR) (I : Nat → Env → Sto → Prop) (n : Nat) (E : Env) (st : Sto) (h0 : I 0 E st)
    (hs : ∀ k, k < n → ∀ E st, I k E st → ∃ E1, patF p (f k) E = some E1 ∧ ∃ E2 st2, (b E1 st = .nx E2 st2 ∨ b E1 st = .ct E2 st2) ∧ I (k + 1) E2 st2) :
    ∃ E' st', forL p b ((List.range n).map f) E st = .nx E' st' ∧ I n E' st' := by
  obtain ⟨E', st', e, h⟩ := forL_inv f p b (fun pre => I pre.length) (List.range n) E st h0 (fun pre x post E st hx hi => by
    have hl : pre.length < n := by have := congrArg List.length hx; simp at this; omega
    have hk : x = pre.length := by
      have := congrArg (fun l => l[pre.length]?) hx
      simp [List.getElem?_range hl] at this
      exact this.symm
    subst hk
    obtain ⟨E1, e1, E2, st2, e2, hi2⟩ := hs _ hl E st hi
    exact ⟨E1, e1, E2, st2, e2, by simpa using hi2⟩)
  exact ⟨E', st', e, by simpa using h⟩
theorem forE_rg (f : Nat → D) (o : Orc) (p : Pat) (b : List MS) (I : Nat → Env → Sto → Prop) (n : Nat) (E : Env) (st : Sto) (h0 : I 0 E st)
    (hs : ∀ k, k < n → ∀ E st, I k E st → ∃ E1, patF p (f k) E = some E1 ∧ ∃ E2 st2, (exB o b E1 st = .nx E2 st2 ∨ exB o b E1 st = .ct E2 st2) ∧ I (k + 1) E2 st2) :
    ∃ E' st', forE o p b ((List.range n).map f) E st = .nx E' st' ∧ I n E' st' := forL_rg f p _ I n E st h0 hs
end Mp

end
section
set_option Elab.async false
set_option maxRecDepth 100000
set_option linter.all false
set_option backward.isDefEq.respectTransparency.types false
set_option maxRecDepth 100000
namespace Mp
local macro_rules
| `(tactic| simp! $c:optConfig only [$as,*]) => `(tactic| simp $c:optConfig only [eq_self, vget_dat, vget_new, vget_xv, fE_non, fE_bl, fE_int, fE_str, fE_fnv, fE_con, fE_var, kBin2_ok, kBin2_ex, kBin1_ok, kBin1_ex, fE_bin, kNeg_ok, fE_neg, kNot_ok, kNot_ex, cmpV_eq, cmpV_ne, cmpV_lt, cmpV_le, cmpV_gt, cmpV_ge, cmpV_isin, cmpV_notin, kCmp2_ok, kCmp2_ex, kCmp1_ok, kCmp1_ex, fE_cmp, kChn3_ok, kChn3_ex, chnB_b, kChn2_ok, kChn2_ex, kChn1_ok, kChn1_ex, fE_chn, kIsN_ok, kIsN_ex, kNotN_ok, kNotN_ex, fE_isN, fE_notN, kNeR2_ok, kNeR2_ex, kNeR1_ok, kNeR1_ex, fE_neR, kAnd_b, kAnd_ex, fAnd_1, fAnd_2, kOr_b, kOr_ex, fOr_1, fOr_2, fE_and, fE_or, fE_not, kIfe_b, kIfe_ex, fE_ife, kL2_ok, kL2_ex, kL1_ok, kL1_ex, fL_nil, fL_cons, kTup_ok, kTup_ex, kLst_ok, kLst_ex, fE_tup, fE_lst, dctV_some, kDct2_ok, kDct2_ex, kDct1_ok, kDct1_ex, fE_dct, kFld_ok, kFld_ex, fE_fld, kSub2_ok, kSub2_ex, kSub1_ok, kSub1_ex, fE_sub, kslU2_ok, kslU1_ok, kslU1_ex, fE_slU, kslL2_ok, kslL1_ok, kslL1_ex, fE_slL, kslB3_ok, kslB2_ok, kslB1_ok, kslB1_ex, fE_slB, kRev_ok, kRev_ex, fE_rev, callV_some, kCall_ok, kCall_ex, fE_call, calvG_fn, fE_calv, methV_some, kMeth2_ok, kMeth2_ex, methG_some, kMeth1_ok, kMeth1_ex, fE_meth, kEqo2_ok, kEqo2_ex, kEqo1_ok, kEqo1_ex, fE_eqo, kBm2_ok, kBm2_ex, kBm1_ok, kBm1_ex, fE_bm, makeV_some, kMake_ok, kMake_ex, fE_make, kXfl_ok, kXfl_ex, fE_xfl, kBi_ok, kBi_ex, fE_bi, lenV2_some, lenV_some, kLenO_ok, kLenO_ex, fE_lenO, kIsi_ok, kIsi_ex, fE_isi, kLsI_ok, kLsI_ex, fE_lsI, kLc_ok, kLc_ex, kLcf_ok, kLcf_ex, fE_lc, fE_lcf, kFs_ok, kFs_ex, fE_fs, kCell_ok, fE_cell, srt1V_some, kSrt2_ok, kSrt1_ok, kSrt1_ex, fE_srtk, kIx_ok, kIx_ex, fI_ex, kRg1_ok, fI_rg1, krg2b_ok, krg2a_ok, krg2a_ex, fI_rg2, krgdb_ok, krgda_ok, krgda_ex, fI_rgd, kEnum_ok, kEnum_ex, fI_enum, zipV_some, kZip2_ok, kZip2_ex, kZip1_ok, kZip1_ex, fI_zip, itemsV_some, kitems_ok, kitems_ex, fI_items, valsV_some, kvals_ok, kvals_ex, fI_vals, putV_dat, putV_new, fT_v, chgV_new, chgV_ref, chgV2_some, chgR2_some, chgE_var, kChg_ok, chgE_fld, chgE_sub, tgFld_some, fT_fld, tgS3_some, kTgS_ok, kTgS_ex, tgS1_some, fT_sub, tgTV_some, fT_t, kTgL_ok, kTgL_ex, fTL_nil, fTL_cons, kNx_ok, kNx_ex, kAsg_ok, kAsg_ex, fS_asg, kPar_ok, kPar_ex, fS_par, augV_some, kAugV_ok, kAugV_ex, augG_dat, fS_augv, augF_some, kAugF2_ok, kAugF2_ex, kAugF1_ok, kAugF1_ex, fS_augf, augS_some, kAugS3_ok, kAugS3_ex, augS2_some, kAugS2_ok, kAugS2_ex, kAugS1_ok, kAugS1_ex, fS_augs, kExpr_ok, kExpr_ex, fS_expr, apF_l, exF'_l, inF'_l, appV_some, kApp_ok, kApp_ex, fS_app, extV_some, kExt_ok, kExt_ex, fS_ext, insV_some, kIns2_ok, kIns2_ex, kIns1_ok, kIns1_ex, fS_ins, kIte_b, kIte_ex, fS_ite, fS_whl, kFr_ok, kFr_ex, fS_fr, retV_dat, retV_new, retV_bor, kRet_ok, kRet_ex, fS_ret, fS_retN, raisV_some, kRais_ok, kRais_ex, fS_rais, kTry_nx, kTry_rt, kTry_ex, fS_tr, fH_nil, fH_n, fH_s, kTryR_nx, kTryR_rt, kTryR_ex, fS_trR, fS_pass, fS_brk, fS_cont, frzV_new, frzV_dat, frzV_non, fS_frz, popV_new, popV1_ref, popV2_lst, fS_popT, kB_nx, kB_bk, kB_ct, kB_rt, kB_ex, fB_nil, fB_cons, plcV_some, plcB_var, plcB_fld, plcB_sub, plcW_new, plcW_ref, plcW2_lst, plcL_var, plcL_fld, plcL_sub, opt_some, nox_ok, snox_nx, snox_rt, snox_ct, snox_bk, del_nx, del_rt, rer_nx, ifV_bl, vd_dat, vd_new, vd_bor, kp_dat, kp_lst, kp_dct, kp_obj, out_dat, out_new, out_bor, it_dat, it_bor, it_newF, it_newT, kpL_nil, kpL_cons, kpC_some, drf_int, drf_bl, drf_non, drf_str, drf_tup, drf_lst, drf_dct, drf_obj, drf_scr, drf_ref, biV_cons, notV_bl, binF_add, binF_sub, binF_mul, binF_fdiv, binF_mod, binF_p18, binF_p9, binF_adds, binF_addl, binF_addt, cmpF_lt, cmpF_gt, cmpF_le, cmpF_ge, eqT_ii, eqT_bb, eqT_ss, eqC, getF_l, getF_t, getF_scr, getAt_0, getAt_1, getAt_2, getAt_3, getAt_4, getAt_5, getAt_6, getAt_7, getAt_8, len_l, len_t, len_s, len_scr, len_d, abs_i, int_i, int_b, tuple_l, tuple_t, biF_one, min_2, max_2, seq_l, seq_t, items_l, items_t, tys_nil, tys_t, tys_f, isi_dat, isi_new, isi_bor, fin_nx, fin_rt, fin_ex, ocall, omake, patF_v, patF_2, patF_3, D.isNon, D.isSet, big_of, bl, slc_l, slc_t, slc_s, ty_int_non, ty_int_bl, ty_int_int, ty_int_str, ty_int_tup, ty_int_lst, ty_int_dct, ty_bool_non, ty_bool_bl, ty_bool_int, ty_bool_str, ty_bool_tup, ty_bool_lst, ty_bool_dct, ty_str_non, ty_str_bl, ty_str_int, ty_str_str, ty_str_tup, ty_str_lst, ty_str_dct, ty_list_non, ty_list_bl, ty_list_int, ty_list_str, ty_list_tup, ty_list_lst, ty_list_dct, ty_tuple_non, ty_tuple_bl, ty_tuple_int, ty_tuple_str, ty_tuple_tup, ty_tuple_lst, ty_tuple_dct, ty_dict_non, ty_dict_bl, ty_dict_int, ty_dict_str, ty_dict_tup, ty_dict_lst, ty_dict_dct, List.getElem?_cons_zero, List.getElem?_cons_succ, List.set_cons_zero, List.set_cons_succ, List.length_cons, List.length_nil, List.length_map, List.length_set, Option.map_some, Option.map_none, Option.bind_some, Option.bind_none, Bool.false_eq_true, if_true, if_false, ↓reduceIte, decide_true, decide_false, decide_eq_true_eq, Bool.not_true, Bool.not_false, Bool.true_and, Bool.and_true, Bool.false_and, Bool.and_false, Bool.true_or, Bool.or_true, Bool.false_or, Bool.or_false, and_true, true_and, and_self, Int.zero_lt_one, Nat.reduceLeDiff, Nat.reduceAdd, Nat.reduceSub, Nat.reduceMul, Nat.reduceEqDiff, Nat.reduceLT, cast_lit, Int.reduceLE, Int.reduceLT, Int.reduceAdd, Int.reduceSub, Int.reduceMul, Int.reduceNeg, Int.reduceEq, Int.reduceNe, Int.reduceToNat, Int.reduceNegSucc, Int.reduceGT, Int.reduceGE, ite_okv, ite_bl1, ite_bl2, gt_iff_lt, ge_iff_le, notdec, ite_okc, filterMap_if', filterMap_some', compG_pure0, compC_map, compE_map, kElt_ok, optS_some, kCnd_b, pC_some, pE_some, forE_nil, maxL_f, minL_f, sum_f, List.nil_append, $as,*])
/-! V1: defs that stand in every law -/
def g_taken : List MS :=
  [(.ite (.cmp .gt (.sub (.var 0) (.int 3)) (.int 0))
   [(.asg (.v 3) (.bin .mod (.bi .int [(.sub (.var 0) (.int 3))]) (.var 1))),
    (.asg (.sub (.var 0) (.int 3)) (.bin .fdiv (.sub (.var 0) (.int 3)) (.var 1))),
    (.ret (.var 3))]
   []),
  (.asg (.sub (.var 0) (.int 1)) (.bin .add (.sub (.var 0) (.int 1)) (.int 1))),
  (.ite (.cmp .gt (.sub (.var 0) (.int 1)) (.bi .len [(.sub (.var 0) (.int 0))]))
   [(.asg (.sub (.var 0) (.int 2)) (.bin .mod (.bi .int [(.bin .add (.bin .mul (.sub (.var 0) (.int 2)) (.int 48271)) (.int 11))]) (.int 2147483647))),
    (.ret (.bin .mod (.bi .int [(.bin .fdiv (.sub (.var 0) (.int 2)) (.int 7))]) (.var 1)))]
   []),
  (.asg (.v 2) (.sub (.sub (.var 0) (.int 0)) (.bin .sub (.sub (.var 0) (.int 1)) (.int 1)))),
  (.asg (.sub (.var 0) (.int 2)) (.bin .mod (.bi .int [(.bin .add (.bin .add (.bin .mul (.sub (.var 0) (.int 2)) (.int 48271)) (.var 2)) (.int 11))]) (.int 2147483647))),
  (.ite (.cmp .ge (.var 2) (.bin .pow (.int 10) (.int 18)))
   [(.asg (.sub (.var 0) (.int 3)) (.bin .fdiv (.var 2) (.var 1)))]
   []),
  (.ret (.bin .mod (.bi .int [(.var 2)]) (.var 1)))]
/-- the drawing row's state -/
def RowOk (ns : List Int) (d : D) : Prop := ∃ i m g : Int, d = .lst [.scr ns, .int i, .int m, .int g] ∧ 0 ≤ i ∧ 0 ≤ m ∧ m < 2147483647
theorem RowOk.start (ns : List Int) (s : Int) (h : 0 ≤ s) (h2 : s < 2147483647) : RowOk ns (.lst [.scr ns, .int 0, .int s, .int 0]) := ⟨0, s, 0, rfl, Int.le_refl 0, h, h2⟩
theorem setAt_0 {a b c d x : D} : setSub (.lst [a, b, c, d]) (.int 0) x = some (.lst [x, b, c, d]) := by rfl
theorem setAt_1 {a b c d x : D} : setSub (.lst [a, b, c, d]) (.int 1) x = some (.lst [a, x, c, d]) := by rfl
theorem setAt_2 {a b c d x : D} : setSub (.lst [a, b, c, d]) (.int 2) x = some (.lst [a, b, x, d]) := by rfl
theorem setAt_3 {a b c d x : D} : setSub (.lst [a, b, c, d]) (.int 3) x = some (.lst [a, b, c, x]) := by rfl
theorem getElem?_set_self' {α : Type} {l : List α} {i : Nat} {a b : α} (h : l[i]? = some a) : (l.set i b)[i]? = some b := by
  rw [List.getElem?_set_self']; rw [h]; rfl
theorem taken {p : Prog} {f n : Nat} (hf : p.fns[f]? = some { np := 2, nv := 4, df := [], tmp := false, body := g_taken }) {ns : List Int} {r : Nat} {d : D} {many : Int} {st : Sto} (hr : st[r]? = some d) (hd : RowOk ns d)
    (h0 : 0 < many) (h1 : many < 10 ^ 30) : ∃ v d', callN p (n + 1) false f [.ref r, .int many] st = .ok (.dat (.int v)) (st.set r d') ∧ 0 ≤ v ∧ v < many ∧ RowOk ns d' := by
  obtain ⟨i, m, g, rfl, hi, hm0, hm1⟩ := hd
  have hbm : big many = true := big_int (by omega) (by omega)
  have hbw : big m = true := big_int (by omega) (by omega)
  rw [callN_fn (E := [some (.dat (.ref r)), some (.dat (.int many)), none, none]) hf rfl rfl]
  have hg := @getElem?_set_self'
  by_cases hg0 : 0 < g
  · refine ⟨g % many, _, ?_, Int.emod_nonneg g (by omega), Int.emod_lt_of_pos g h0, i, m, g / many, rfl, hi, hm0, hm1⟩
    simp! only [g_taken, hr, hg0, h0, hbm, setAt_3]
  by_cases hl : (ns.length : Int) < i + 1
  · have e1 := Int.emod_nonneg (m * 48271 + 11) (show (2147483647 : Int) ≠ 0 by decide)
    have e2 := Int.emod_lt_of_pos (m * 48271 + 11) (show (0 : Int) < 2147483647 by decide)
    refine ⟨(m * 48271 + 11) % 2147483647 / 7 % many, _, ?_, Int.emod_nonneg _ (by omega), Int.emod_lt_of_pos _ h0, i + 1, (m * 48271 + 11) % 2147483647, g, rfl, by omega, e1, e2⟩
    simp! only [g_taken, hr, hg0, h0, hbm, hbw, hl, setAt_1, setAt_2, hg hr, List.set_set]
  · have hget : getAt ns i = some (ns[i.toNat]'(by omega)) := getAt_pos hi (by omega)
    generalize ns[i.toNat]'(by omega) = cell at hget
    have e1 := Int.emod_nonneg (m * 48271 + cell + 11) (show (2147483647 : Int) ≠ 0 by decide)
    have e2 := Int.emod_lt_of_pos (m * 48271 + cell + 11) (show (0 : Int) < 2147483647 by decide)
    have hi1 : i + 1 - 1 = i := by omega
    by_cases hc : (1000000000000000000 : Int) ≤ cell
    · refine ⟨cell % many, _, ?_, Int.emod_nonneg _ (by omega), Int.emod_lt_of_pos _ h0, i + 1, (m * 48271 + cell + 11) % 2147483647, cell / many, rfl, by omega, e1, e2⟩
      simp! only [g_taken, hr, hg0, h0, hbm, hbw, hl, setAt_1, setAt_2, setAt_3, hg hr, List.set_set, hget, hi1, hc]
    · refine ⟨cell % many, _, ?_, Int.emod_nonneg _ (by omega), Int.emod_lt_of_pos _ h0, i + 1, (m * 48271 + cell + 11) % 2147483647, g, rfl, by omega, e1, e2⟩
      simp! only [g_taken, hr, hg0, h0, hbm, hbw, hl, setAt_1, setAt_2, setAt_3, hg hr, List.set_set, hget, hi1, hc]
/-! alike -/
def g_alike (f : Nat) : List MS :=
  [(.ite (.isi (.var 1) [.tuple, .list])
   [(.ite (.or [(.not (.isi (.var 0) [.tuple, .list])), (.cmp .ne (.isi (.var 0) [.list]) (.isi (.var 1) [.list]))])
     [(.ret (.bl false))]
     []),
    (.ite (.cmp .ne (.bi .len [(.var 0)]) (.bi .len [(.var 1)]))
     [(.ret (.bl false))]
     []),
    (.ret (.cmp .eq (.lcf (.var 2) (.v 2) (.rg1 (.bi .len [(.var 1)])) (.not (.call f [(.sub (.var 0) (.var 2)), (.sub (.var 1) (.var 2))]))) (.lst [])))]
   []),
  (.ite (.or [(.isN (.var 1)), (.isi (.var 1) [.str])])
   [(.ret (.and [(.cmp .eq (.var 0) (.var 1)), (.cmp .eq (.isi (.var 0) [.str]) (.isi (.var 1) [.str]))]))]
   []),
  (.ret (.and [(.isi (.var 0) [.int]), (.cmp .eq (.isi (.var 0) [.bool]) (.isi (.var 1) [.bool])), (.cmp .eq (.var 0) (.var 1))]))]
/-- data that _law_alike looks at, so deep at most -/
def alk : Nat → D → Prop
  | _, .non => True
  | _, .bl _ => True
  | _, .int _ => True
  | _, .str _ => True
  | n + 1, .tup xs => xs.length ≤ szMax ∧ ∀ x ∈ xs, alk n x
  | n + 1, .lst xs => xs.length ≤ szMax ∧ ∀ x ∈ xs, alk n x
  | _, _ => False
def allk (n : Nat) (xs : List D) : Prop := ∀ x ∈ xs, alk n x
theorem alk_non (n : Nat) : alk n .non = True := by cases n <;> rfl
theorem alk_bl (n : Nat) (b : Bool) : alk n (.bl b) = True := by cases n <;> rfl
theorem alk_int (n : Nat) (i : Int) : alk n (.int i) = True := by cases n <;> rfl
theorem alk_str (n : Nat) (s : List Nat) : alk n (.str s) = True := by cases n <;> rfl
theorem alk_tup (n : Nat) (xs : List D) : alk (n + 1) (.tup xs) = (xs.length ≤ szMax ∧ allk n xs) := by rfl
theorem alk_lst (n : Nat) (xs : List D) : alk (n + 1) (.lst xs) = (xs.length ≤ szMax ∧ allk n xs) := by rfl
theorem allk_nil (n : Nat) : allk n [] = True := by simp [allk]
theorem allk_cons (n : Nat) (x : D) (r : List D) : allk n (x :: r) = (alk n x ∧ allk n r) := by simp [allk]
theorem allk_map {α : Type} (n : Nat) (f : α → D) (r : List α) : allk n (r.map f) = ∀ x ∈ r, alk n (f x) := by simp [allk]
theorem sz_le {n : Nat} (h : n ≤ 5000000) : (n ≤ szMax) = True := by simp [szMax, h]
theorem filterMap_none' {α : Type} (xs : List α) : List.filterMap (fun _ => (none : Option D)) xs = [] := by simp
theorem eqT_nn : eqT .non .non = some true := by rfl
theorem eqT_ll : eqT (.lst []) (.lst []) = some true := by rfl
theorem szMax_le : ((szMax : Nat) : Int) ≤ 2 ^ 60 := by decide
theorem range0_ok {n : Nat} (h : n ≤ szMax) : rangeL 0 (n : Int) = some ((List.range n).map fun (k : Nat) => .int (k : Int)) := by
  have h2 : (n : Int) ≤ 2 ^ 60 := by have := szMax_le; omega
  rw [range_ok ⟨by omega, by decide, by decide, by omega, h2⟩]
  simp
theorem alike {p : Prog} {f : Nat} (hf : p.fns[f]? = some { np := 2, nv := 3, df := [], tmp := false, body := g_alike f }) : ∀ (n : Nat) (d : D) (st : Sto), alk n d → callN p (n + 1) false f [d, d] st = .ok (.dat (.bl true)) st := by
  intro n
  induction n with
  | zero =>
    intro d st h
    rw [callN_fn (E := [some (.dat d), some (.dat d), none]) hf rfl rfl]
    cases d with
    | non => simp! only [g_alike, eqT_nn]
    | bl b => simp! only [g_alike]
    | int i => simp! only [g_alike]
    | str s => simp! only [g_alike]
    | _ => exact (h : False).elim
  | succ n ih =>
    intro d st h
    rw [callN_fn (E := [some (.dat d), some (.dat d), none]) hf rfl rfl]
    cases d with
    | non => simp! only [g_alike, eqT_nn]
    | bl b => simp! only [g_alike]
    | int i => simp! only [g_alike]
    | str s => simp! only [g_alike]
    | tup xs =>
      have e : ∀ x ∈ List.range xs.length, getAt xs (x : Int) = some (xs.getD x .non) := fun x hx => by
        have hx := List.mem_range.mp hx
        rw [getAt_nat hx]; simp [hx]
      have e2 : ∀ x ∈ List.range xs.length, ∀ st, callN p (n + 1) false f [xs.getD x .non, xs.getD x .non] st = .ok (.dat (.bl true)) st := fun x hx st => by
        have hx := List.mem_range.mp hx
        refine ih _ st (h.2 _ ?_)
        simp [hx]
      have e3 : ∀ st, evE (O p (n + 1)) (.lcf (.var 2) (.v 2) (.rg1 (.bi .len [(.var 1)])) (.not (.call f [(.sub (.var 0) (.var 2)), (.sub (.var 1) (.var 2))]))) [some (.dat (.tup xs)), some (.dat (.tup xs)), none] st = .ok (.new (.lst [])) st := fun st => by
        refine fE_lcfE (ds := (List.range xs.length).map fun (k : Nat) => .int (k : Int)) (st1 := st) (by simp! only [range0_ok h.1]) ?_
        rw [compC_pure (fun _ => false) (fun (k : Nat) => D.int k) (fun x hx => ⟨_, by simp! only []; rfl, fun st => by simp! only [e x hx, e2 x hx], fun h => nomatch h⟩) st]
        simp
      simp! only [g_alike, range0_ok h.1, ↓e3, eqT_ll]
    | lst xs =>
      have e : ∀ x ∈ List.range xs.length, getAt xs (x : Int) = some (xs.getD x .non) := fun x hx => by
        have hx := List.mem_range.mp hx
        rw [getAt_nat hx]; simp [hx]
      have e2 : ∀ x ∈ List.range xs.length, ∀ st, callN p (n + 1) false f [xs.getD x .non, xs.getD x .non] st = .ok (.dat (.bl true)) st := fun x hx st => by
        have hx := List.mem_range.mp hx
        refine ih _ st (h.2 _ ?_)
        simp [hx]
      have e3 : ∀ st, evE (O p (n + 1)) (.lcf (.var 2) (.v 2) (.rg1 (.bi .len [(.var 1)])) (.not (.call f [(.sub (.var 0) (.var 2)), (.sub (.var 1) (.var 2))]))) [some (.dat (.lst xs)), some (.dat (.lst xs)), none] st = .ok (.new (.lst [])) st := fun st => by
        refine fE_lcfE (ds := (List.range xs.length).map fun (k : Nat) => .int (k : Int)) (st1 := st) (by simp! only [range0_ok h.1]) ?_
        rw [compC_pure (fun _ => false) (fun (k : Nat) => D.int k) (fun x hx => ⟨_, by simp! only []; rfl, fun st => by simp! only [e x hx, e2 x hx], fun h => nomatch h⟩) st]
        simp
      simp! only [g_alike, range0_ok h.1, ↓e3, eqT_ll]
    | _ => exact (h : False).elim
end Mp

end
section
set_option Elab.async false
set_option maxRecDepth 100000
set_option linter.all false
set_option backward.isDefEq.respectTransparency.types false
set_option maxRecDepth 100000
namespace Pk09
open Mp
theorem u__law_taken (n : Nat) (x0 x1 : D) (st : Sto) : callN prog (n+1) false 0 [x0, x1] st = (exB (O prog n) b__law_taken [some (.dat x0), some (.dat x1), none, none] st).fin := callN_fn (fd := { np := 2, nv := 4, df := [], tmp := false, body := b__law_taken }) rfl rfl rfl
theorem u__law_pick (n : Nat) (x0 x1 : D) (st : Sto) : callN prog (n+1) false 1 [x0, x1] st = (exB (O prog n) b__law_pick [some (.dat x0), some (.dat x1)] st).fin := callN_fn (fd := { np := 2, nv := 2, df := [], tmp := false, body := b__law_pick }) rfl rfl rfl
theorem u__law_alike (n : Nat) (x0 x1 : D) (st : Sto) : callN prog (n+1) false 2 [x0, x1] st = (exB (O prog n) b__law_alike [some (.dat x0), some (.dat x1), none] st).fin := callN_fn (fd := { np := 2, nv := 3, df := [], tmp := false, body := b__law_alike }) rfl rfl rfl
theorem u__law_raised (n : Nat) (x0 x1 x2 : D) (st : Sto) : callN prog (n+1) false 3 [x0, x1, x2] st = (exB (O prog n) b__law_raised [some (.dat x0), some (.dat x1), some (.dat x2), none, none, none] st).fin := callN_fn (fd := { np := 3, nv := 6, df := [], tmp := false, body := b__law_raised }) rfl rfl rfl
theorem u_law (n : Nat) (x0 : D) (st : Sto) : callN prog (n+1) false 4 [x0] st = (exB (O prog n) b_law [some (.dat x0), none, none, none, none, none, none, none, none] st).fin := callN_fn (fd := { np := 1, nv := 9, df := [], tmp := false, body := b_law }) rfl rfl rfl
end Pk09

namespace Pk09
open Mp
local macro_rules
| `(tactic| simp! $c:optConfig only [$as,*]) => `(tactic| simp $c:optConfig only [eq_self, vget_dat, vget_new, vget_xv, fE_non, fE_bl, fE_int, fE_str, fE_fnv, fE_con, fE_var, kBin2_ok, kBin2_ex, kBin1_ok, kBin1_ex, fE_bin, kNeg_ok, fE_neg, kNot_ok, kNot_ex, cmpV_eq, cmpV_ne, cmpV_lt, cmpV_le, cmpV_gt, cmpV_ge, cmpV_isin, cmpV_notin, kCmp2_ok, kCmp2_ex, kCmp1_ok, kCmp1_ex, fE_cmp, kChn3_ok, kChn3_ex, chnB_b, kChn2_ok, kChn2_ex, kChn1_ok, kChn1_ex, fE_chn, kIsN_ok, kIsN_ex, kNotN_ok, kNotN_ex, fE_isN, fE_notN, kNeR2_ok, kNeR2_ex, kNeR1_ok, kNeR1_ex, fE_neR, kAnd_b, kAnd_ex, fAnd_1, fAnd_2, kOr_b, kOr_ex, fOr_1, fOr_2, fE_and, fE_or, fE_not, kIfe_b, kIfe_ex, fE_ife, kL2_ok, kL2_ex, kL1_ok, kL1_ex, fL_nil, fL_cons, kTup_ok, kTup_ex, kLst_ok, kLst_ex, fE_tup, fE_lst, dctV_some, kDct2_ok, kDct2_ex, kDct1_ok, kDct1_ex, fE_dct, kFld_ok, kFld_ex, fE_fld, kSub2_ok, kSub2_ex, kSub1_ok, kSub1_ex, fE_sub, kslU2_ok, kslU1_ok, kslU1_ex, fE_slU, kslL2_ok, kslL1_ok, kslL1_ex, fE_slL, kslB3_ok, kslB2_ok, kslB1_ok, kslB1_ex, fE_slB, kRev_ok, kRev_ex, fE_rev, callV_some, kCall_ok, kCall_ex, fE_call, calvG_fn, fE_calv, methV_some, kMeth2_ok, kMeth2_ex, methG_some, kMeth1_ok, kMeth1_ex, fE_meth, kEqo2_ok, kEqo2_ex, kEqo1_ok, kEqo1_ex, fE_eqo, kBm2_ok, kBm2_ex, kBm1_ok, kBm1_ex, fE_bm, makeV_some, kMake_ok, kMake_ex, fE_make, kXfl_ok, kXfl_ex, fE_xfl, kBi_ok, kBi_ex, fE_bi, lenV2_some, lenV_some, kLenO_ok, kLenO_ex, fE_lenO, kIsi_ok, kIsi_ex, fE_isi, kLsI_ok, kLsI_ex, fE_lsI, kLc_ok, kLc_ex, kLcf_ok, kLcf_ex, fE_lc, fE_lcf, kFs_ok, kFs_ex, fE_fs, kCell_ok, fE_cell, srt1V_some, kSrt2_ok, kSrt1_ok, kSrt1_ex, fE_srtk, kIx_ok, kIx_ex, fI_ex, kRg1_ok, fI_rg1, krg2b_ok, krg2a_ok, krg2a_ex, fI_rg2, krgdb_ok, krgda_ok, krgda_ex, fI_rgd, kEnum_ok, kEnum_ex, fI_enum, zipV_some, kZip2_ok, kZip2_ex, kZip1_ok, kZip1_ex, fI_zip, itemsV_some, kitems_ok, kitems_ex, fI_items, valsV_some, kvals_ok, kvals_ex, fI_vals, putV_dat, putV_new, fT_v, chgV_new, chgV_ref, chgV2_some, chgR2_some, chgE_var, kChg_ok, chgE_fld, chgE_sub, tgFld_some, fT_fld, tgS3_some, kTgS_ok, kTgS_ex, tgS1_some, fT_sub, tgTV_some, fT_t, kTgL_ok, kTgL_ex, fTL_nil, fTL_cons, kNx_ok, kNx_ex, kAsg_ok, kAsg_ex, fS_asg, kPar_ok, kPar_ex, fS_par, augV_some, kAugV_ok, kAugV_ex, augG_dat, fS_augv, augF_some, kAugF2_ok, kAugF2_ex, kAugF1_ok, kAugF1_ex, fS_augf, augS_some, kAugS3_ok, kAugS3_ex, augS2_some, kAugS2_ok, kAugS2_ex, kAugS1_ok, kAugS1_ex, fS_augs, kExpr_ok, kExpr_ex, fS_expr, apF_l, exF'_l, inF'_l, appV_some, kApp_ok, kApp_ex, fS_app, extV_some, kExt_ok, kExt_ex, fS_ext, insV_some, kIns2_ok, kIns2_ex, kIns1_ok, kIns1_ex, fS_ins, kIte_b, kIte_ex, fS_ite, fS_whl, kFr_ok, kFr_ex, fS_fr, retV_dat, retV_new, retV_bor, kRet_ok, kRet_ex, fS_ret, fS_retN, raisV_some, kRais_ok, kRais_ex, fS_rais, kTry_nx, kTry_rt, kTry_ex, fS_tr, fH_nil, fH_n, fH_s, kTryR_nx, kTryR_rt, kTryR_ex, fS_trR, fS_pass, fS_brk, fS_cont, frzV_new, frzV_dat, frzV_non, fS_frz, popV_new, popV1_ref, popV2_lst, fS_popT, kB_nx, kB_bk, kB_ct, kB_rt, kB_ex, fB_nil, fB_cons, plcV_some, plcB_var, plcB_fld, plcB_sub, plcW_new, plcW_ref, plcW2_lst, plcL_var, plcL_fld, plcL_sub, opt_some, nox_ok, snox_nx, snox_rt, snox_ct, snox_bk, del_nx, del_rt, rer_nx, ifV_bl, vd_dat, vd_new, vd_bor, kp_dat, kp_lst, kp_dct, kp_obj, out_dat, out_new, out_bor, it_dat, it_bor, it_newF, it_newT, kpL_nil, kpL_cons, kpC_some, drf_int, drf_bl, drf_non, drf_str, drf_tup, drf_lst, drf_dct, drf_obj, drf_scr, drf_ref, biV_cons, notV_bl, binF_add, binF_sub, binF_mul, binF_fdiv, binF_mod, binF_p18, binF_p9, binF_adds, binF_addl, binF_addt, cmpF_lt, cmpF_gt, cmpF_le, cmpF_ge, eqT_ii, eqT_bb, eqT_ss, eqC, getF_l, getF_t, getF_scr, getAt_0, getAt_1, getAt_2, getAt_3, getAt_4, getAt_5, getAt_6, getAt_7, getAt_8, len_l, len_t, len_s, len_scr, len_d, abs_i, int_i, int_b, tuple_l, tuple_t, biF_one, min_2, max_2, seq_l, seq_t, items_l, items_t, tys_nil, tys_t, tys_f, isi_dat, isi_new, isi_bor, fin_nx, fin_rt, fin_ex, ocall, omake, patF_v, patF_2, patF_3, D.isNon, D.isSet, big_of, bl, slc_l, slc_t, slc_s, ty_int_non, ty_int_bl, ty_int_int, ty_int_str, ty_int_tup, ty_int_lst, ty_int_dct, ty_bool_non, ty_bool_bl, ty_bool_int, ty_bool_str, ty_bool_tup, ty_bool_lst, ty_bool_dct, ty_str_non, ty_str_bl, ty_str_int, ty_str_str, ty_str_tup, ty_str_lst, ty_str_dct, ty_list_non, ty_list_bl, ty_list_int, ty_list_str, ty_list_tup, ty_list_lst, ty_list_dct, ty_tuple_non, ty_tuple_bl, ty_tuple_int, ty_tuple_str, ty_tuple_tup, ty_tuple_lst, ty_tuple_dct, ty_dict_non, ty_dict_bl, ty_dict_int, ty_dict_str, ty_dict_tup, ty_dict_lst, ty_dict_dct, List.getElem?_cons_zero, List.getElem?_cons_succ, List.set_cons_zero, List.set_cons_succ, List.length_cons, List.length_nil, List.length_map, List.length_set, Option.map_some, Option.map_none, Option.bind_some, Option.bind_none, Bool.false_eq_true, if_true, if_false, ↓reduceIte, decide_true, decide_false, decide_eq_true_eq, Bool.not_true, Bool.not_false, Bool.true_and, Bool.and_true, Bool.false_and, Bool.and_false, Bool.true_or, Bool.or_true, Bool.false_or, Bool.or_false, and_true, true_and, and_self, Int.zero_lt_one, Nat.reduceLeDiff, Nat.reduceAdd, Nat.reduceSub, Nat.reduceMul, Nat.reduceEqDiff, Nat.reduceLT, cast_lit, Int.reduceLE, Int.reduceLT, Int.reduceAdd, Int.reduceSub, Int.reduceMul, Int.reduceNeg, Int.reduceEq, Int.reduceNe, Int.reduceToNat, Int.reduceNegSucc, Int.reduceGT, Int.reduceGE, ite_okv, ite_bl1, ite_bl2, gt_iff_lt, ge_iff_le, notdec, ite_okc, filterMap_if', filterMap_some', compG_pure0, compC_map, compE_map, kElt_ok, optS_some, kCnd_b, pC_some, pE_some, forE_nil, maxL_f, minL_f, sum_f, List.nil_append, $as,*])
theorem hf0 : prog.fns[0]? = some { np := 2, nv := 4, df := [], tmp := false, body := g_taken } := rfl
theorem hf2 : prog.fns[2]? = some { np := 2, nv := 3, df := [], tmp := false, body := g_alike 2 } := rfl
theorem isi_xvc (o : Nat → List Nat) (c t : Nat) (fs st) (h : (o c).contains c = true) : isiV o [.cls t] st (.xv c fs) = some ((o c).contains t) := by
  simp only [isiV, h, tyX, if_true]
theorem isi_xvv (o : Nat → List Nat) (c : Nat) (fs st) (h : (o c).contains c = true) : isiV o [.verr] st (.xv c fs) = some true := by
  simp only [isiV, h, tyX, if_true]
theorem isi_xvl (o : Nat → List Nat) (c : Nat) (fs st) (h : (o c).contains c = true) : isiV o [.lerr] st (.xv c fs) = some false := by
  simp only [isiV, h, tyX, if_true]
theorem isi_xvr (o : Nat → List Nat) (c : Nat) (fs st) (h : (o c).contains c = true) : isiV o [.rerr] st (.xv c fs) = some false := by
  simp only [isiV, h, tyX, if_true]
theorem xv_fld (fl cf : Nat → List Nat) (st) (c k : Nat) (fs) (h : (fl c).contains k = true) : fldV fl cf st (.xv c fs) k = fs.lookup k := by
  simp only [fldV, h, if_true]
theorem isin_l (a : D) (xs : List D) : cmpF .isin a (.lst xs) = memD a xs := by cases a <;> rfl
theorem sup1 (n : Nat) : (O prog n).sup 1 = [1, 0] := by rfl
theorem fl1 (n : Nat) : (O prog n).flds 1 = [0] := by rfl
theorem excF1 (n : Nat) (v : D) : excF (O prog n) 1 [v] = some [(0, v)] := by rfl
theorem sup2 (n : Nat) : (O prog n).sup 2 = [2, 0] := by rfl
theorem fl2 (n : Nat) : (O prog n).flds 2 = [0] := by rfl
theorem excF2 (n : Nat) (v : D) : excF (O prog n) 2 [v] = some [(0, v)] := by rfl
theorem sup3 (n : Nat) : (O prog n).sup 3 = [3, 0] := by rfl
theorem fl3 (n : Nat) : (O prog n).flds 3 = [1] := by rfl
theorem excF3 (n : Nat) (v : D) : excF (O prog n) 3 [v] = some [(1, v)] := by rfl
theorem sup4 (n : Nat) : (O prog n).sup 4 = [4, 0] := by rfl
theorem fl4 (n : Nat) : (O prog n).flds 4 = [0] := by rfl
theorem excF4 (n : Nat) (v : D) : excF (O prog n) 4 [v] = some [(0, v)] := by rfl
theorem sup5 (n : Nat) : (O prog n).sup 5 = [5, 0] := by rfl
theorem fl5 (n : Nat) : (O prog n).flds 5 = [2] := by rfl
theorem excF5 (n : Nat) (v : D) : excF (O prog n) 5 [v] = some [(2, v)] := by rfl
theorem sup6 (n : Nat) : (O prog n).sup 6 = [6, 0] := by rfl
theorem fl6 (n : Nat) : (O prog n).flds 6 = [3] := by rfl
theorem excF6 (n : Nat) (v : D) : excF (O prog n) 6 [v] = some [(3, v)] := by rfl
theorem sup7 (n : Nat) : (O prog n).sup 7 = [7, 0] := by rfl
theorem fl7 (n : Nat) : (O prog n).flds 7 = [0] := by rfl
theorem excF7 (n : Nat) (v : D) : excF (O prog n) 7 [v] = some [(0, v)] := by rfl
theorem sup8 (n : Nat) : (O prog n).sup 8 = [8, 0] := by rfl
theorem fl8 (n : Nat) : (O prog n).flds 8 = [0] := by rfl
theorem excF8 (n : Nat) (v : D) : excF (O prog n) 8 [v] = some [(0, v)] := by rfl
theorem sup9 (n : Nat) : (O prog n).sup 9 = [9, 0] := by rfl
theorem fl9 (n : Nat) : (O prog n).flds 9 = [4, 5] := by rfl
theorem excF9 (n : Nat) (v w : D) : excF (O prog n) 9 [v, w] = some [(4, v), (5, w)] := by rfl
theorem sup10 (n : Nat) : (O prog n).sup 10 = [10, 0] := by rfl
theorem fl10 (n : Nat) : (O prog n).flds 10 = [] := by rfl
theorem excF10 (n : Nat) : excF (O prog n) 10 [] = some [] := by rfl
theorem mem0 : memD (.int 0) [.int 0, .int 1, .int 3, .int 6, .int 7] = some true := by rfl
theorem mem1 : memD (.int 1) [.int 0, .int 1, .int 3, .int 6, .int 7] = some true := by rfl
theorem mem2 : memD (.int 2) [.int 0, .int 1, .int 3, .int 6, .int 7] = some false := by rfl
theorem mem3 : memD (.int 3) [.int 0, .int 1, .int 3, .int 6, .int 7] = some true := by rfl
theorem mem4 : memD (.int 4) [.int 0, .int 1, .int 3, .int 6, .int 7] = some false := by rfl
theorem mem5 : memD (.int 5) [.int 0, .int 1, .int 3, .int 6, .int 7] = some false := by rfl
theorem mem6 : memD (.int 6) [.int 0, .int 1, .int 3, .int 6, .int 7] = some true := by rfl
theorem mem7 : memD (.int 7) [.int 0, .int 1, .int 3, .int 6, .int 7] = some true := by rfl
theorem mem8 : memD (.int 8) [.int 0, .int 1, .int 3, .int 6, .int 7] = some false := by rfl
theorem mem9 : memD (.int 9) [.int 0, .int 1, .int 3, .int 6, .int 7] = some false := by rfl
theorem r0 (n : Nat) (v w : D) (st : Sto) : callN prog (n+1) false 3 [.int 0, v, w] st = .ok (.dat (.tup [.lst [.bl true, .bl false, .bl false, .bl false, .bl false, .bl false, .bl false, .bl false, .bl false, .bl false], v])) st := by
  simp! only [u__law_raised, b__law_raised, excF1, sup1, isi_xvc, isi_xvv, isi_xvl, isi_xvr, xv_fld, fl1, List.contains_cons, List.contains_nil, Nat.reduceBEq, mem0, sz_le, isin_l, List.lookup_cons, List.cons_append]
theorem r1 (n : Nat) (v w : D) (st : Sto) : callN prog (n+1) false 3 [.int 1, v, w] st = .ok (.dat (.tup [.lst [.bl false, .bl true, .bl false, .bl false, .bl false, .bl false, .bl false, .bl false, .bl false, .bl false], v])) st := by
  simp! only [u__law_raised, b__law_raised, excF2, sup2, isi_xvc, isi_xvv, isi_xvl, isi_xvr, xv_fld, fl2, List.contains_cons, List.contains_nil, Nat.reduceBEq, mem1, sz_le, isin_l, List.lookup_cons, List.cons_append]
theorem r2 (n : Nat) (v w : D) (st : Sto) : callN prog (n+1) false 3 [.int 2, v, w] st = .ok (.dat (.tup [.lst [.bl false, .bl false, .bl true, .bl false, .bl false, .bl false, .bl false, .bl false, .bl false, .bl false], v])) st := by
  simp! only [u__law_raised, b__law_raised, excF3, sup3, isi_xvc, isi_xvv, isi_xvl, isi_xvr, xv_fld, fl3, List.contains_cons, List.contains_nil, Nat.reduceBEq, mem2, sz_le, isin_l, List.lookup_cons, List.cons_append]
theorem r3 (n : Nat) (v w : D) (st : Sto) : callN prog (n+1) false 3 [.int 3, v, w] st = .ok (.dat (.tup [.lst [.bl false, .bl false, .bl false, .bl true, .bl false, .bl false, .bl false, .bl false, .bl false, .bl false], v])) st := by
  simp! only [u__law_raised, b__law_raised, excF4, sup4, isi_xvc, isi_xvv, isi_xvl, isi_xvr, xv_fld, fl4, List.contains_cons, List.contains_nil, Nat.reduceBEq, mem3, sz_le, isin_l, List.lookup_cons, List.cons_append]
theorem r4 (n : Nat) (v w : D) (st : Sto) : callN prog (n+1) false 3 [.int 4, v, w] st = .ok (.dat (.tup [.lst [.bl false, .bl false, .bl false, .bl false, .bl true, .bl false, .bl false, .bl false, .bl false, .bl false], v])) st := by
  simp! only [u__law_raised, b__law_raised, excF5, sup5, isi_xvc, isi_xvv, isi_xvl, isi_xvr, xv_fld, fl5, List.contains_cons, List.contains_nil, Nat.reduceBEq, mem4, sz_le, isin_l, List.lookup_cons, List.cons_append]
theorem r5 (n : Nat) (v w : D) (st : Sto) : callN prog (n+1) false 3 [.int 5, v, w] st = .ok (.dat (.tup [.lst [.bl false, .bl false, .bl false, .bl false, .bl false, .bl true, .bl false, .bl false, .bl false, .bl false], v])) st := by
  simp! only [u__law_raised, b__law_raised, excF6, sup6, isi_xvc, isi_xvv, isi_xvl, isi_xvr, xv_fld, fl6, List.contains_cons, List.contains_nil, Nat.reduceBEq, mem5, sz_le, isin_l, List.lookup_cons, List.cons_append]
theorem r6 (n : Nat) (v w : D) (st : Sto) : callN prog (n+1) false 3 [.int 6, v, w] st = .ok (.dat (.tup [.lst [.bl false, .bl false, .bl false, .bl false, .bl false, .bl false, .bl true, .bl false, .bl false, .bl false], v])) st := by
  simp! only [u__law_raised, b__law_raised, excF7, sup7, isi_xvc, isi_xvv, isi_xvl, isi_xvr, xv_fld, fl7, List.contains_cons, List.contains_nil, Nat.reduceBEq, mem6, sz_le, isin_l, List.lookup_cons, List.cons_append]
theorem r7 (n : Nat) (v w : D) (st : Sto) : callN prog (n+1) false 3 [.int 7, v, w] st = .ok (.dat (.tup [.lst [.bl false, .bl false, .bl false, .bl false, .bl false, .bl false, .bl false, .bl true, .bl false, .bl false], v])) st := by
  simp! only [u__law_raised, b__law_raised, excF8, sup8, isi_xvc, isi_xvv, isi_xvl, isi_xvr, xv_fld, fl8, List.contains_cons, List.contains_nil, Nat.reduceBEq, mem7, sz_le, isin_l, List.lookup_cons, List.cons_append]
theorem r8 (n : Nat) (v w : D) (st : Sto) : callN prog (n+1) false 3 [.int 8, v, w] st = .ok (.dat (.tup [.lst [.bl false, .bl false, .bl false, .bl false, .bl false, .bl false, .bl false, .bl false, .bl true, .bl false], .tup [v, w]])) st := by
  simp! only [u__law_raised, b__law_raised, excF9, sup9, isi_xvc, isi_xvv, isi_xvl, isi_xvr, xv_fld, fl9, List.contains_cons, List.contains_nil, Nat.reduceBEq, mem8, sz_le, isin_l, List.lookup_cons, List.cons_append]
theorem r9 (n : Nat) (v w : D) (st : Sto) : callN prog (n+1) false 3 [.int 9, v, w] st = .ok (.dat (.tup [.lst [.bl false, .bl false, .bl false, .bl false, .bl false, .bl false, .bl false, .bl false, .bl false, .bl true], .non])) st := by
  simp! only [u__law_raised, b__law_raised, excF10, sup10, isi_xvc, isi_xvv, isi_xvl, isi_xvr, xv_fld, fl10, List.contains_cons, List.contains_nil, Nat.reduceBEq, mem9, sz_le, isin_l, List.lookup_cons, List.cons_append]
/-- a drawn value: what is told of it -/
structure Kd (x : D) (t : Bool) : Prop where
  eq : eqT x x = some true
  eq2 : ∀ w, (w = .tup [] ∨ w = .tup [.str [97]]) → eqT (.tup [x, w]) (.tup [x, w]) = some true
  bl : ∀ (s : Nat → List Nat) (st : Sto), isiV s [.bool] st (.dat x) = some t
theorem kd_int (i : Int) : Kd (.int i) false := ⟨by simp [eqT, pd, eqD], fun w h => by rcases h with rfl | rfl <;> simp [eqT, pd, pdL, eqD, eqL, pdMax], fun s st => rfl⟩
theorem kd_of {v0 : Int} {x : D} (h : x ∈ [D.non, .int 7, .str [120], .tup [.int 1, .int 2], .bl true, .int v0]) : ∃ t, Kd x t := by
  simp only [List.mem_cons, List.not_mem_nil, or_false] at h
  rcases h with rfl | rfl | rfl | rfl | rfl | rfl
  · exact ⟨false, rfl, fun w h => by rcases h with rfl | rfl <;> rfl, fun s st => rfl⟩
  · exact ⟨false, kd_int 7⟩
  · exact ⟨false, rfl, fun w h => by rcases h with rfl | rfl <;> rfl, fun s st => rfl⟩
  · exact ⟨false, rfl, fun w h => by rcases h with rfl | rfl <;> rfl, fun s st => rfl⟩
  · exact ⟨true, rfl, fun w h => by rcases h with rfl | rfl <;> rfl, fun s st => rfl⟩
  · exact ⟨false, kd_int v0⟩
theorem isi_tupb (a b : D) (s : Nat → List Nat) (st : Sto) : isiV s [.bool] st (.dat (.tup [a, b])) = some false := by rfl
theorem draw (ns : List Int) (d : D) (hd : RowOk ns d) (n : Nat) (many : Int) (h0 : 0 < many) (h1 : many < 10 ^ 30) : ∃ v d', callN prog (n+1) false 0 [.ref 0, .int many] [d] = .ok (.dat (.int v)) [d'] ∧ 0 ≤ v ∧ v < many ∧ RowOk ns d' := by
  obtain ⟨v, d', e, r⟩ := taken (n := n) hf0 (ns := ns) (r := 0) (d := d) (st := [d]) rfl hd h0 h1
  exact ⟨v, d', e, r⟩
theorem pick (ns : List Int) (d : D) (hd : RowOk ns d) (n : Nat) (kinds : List D) (h : kinds ≠ []) (hl : kinds.length ≤ 100) : ∃ x d', callN prog (n+2) false 1 [.ref 0, .lst kinds] [d] = .ok (.dat x) [d'] ∧ x ∈ kinds ∧ RowOk ns d' := by
  have hp : 0 < kinds.length := List.length_pos_iff.mpr h
  obtain ⟨v, d', e, h0, h1, hd'⟩ := draw ns d hd n kinds.length (by omega) (by omega)
  have hv : v.toNat < kinds.length := by omega
  refine ⟨kinds[v.toNat], d', ?_, List.getElem_mem _, hd'⟩
  have g : getAt kinds v = some kinds[v.toNat] := getAt_pos h0 (by omega)
  simp! only [u__law_pick, b__law_pick, e, g]
theorem eq_bs (l : List Bool) (h : l.length ≤ 100) : eqT (.lst (l.map D.bl)) (.lst (l.map D.bl)) = some true := by
  have e1 : ∀ l : List Bool, eqL (l.map D.bl) (l.map D.bl) = true := fun l => by
    induction l with
    | nil => rfl
    | cons b l ih => simp [eqL, eqD, ih]
  have e2 : ∀ l : List Bool, pdL (l.map D.bl) 39 = true := fun l => by
    induction l with
    | nil => rfl
    | cons b l ih => simp only [List.map_cons, pdL, pd, ih, Bool.and_self]
  unfold eqT
  have : pd (.lst (l.map D.bl)) pdMax = true := by show pdL _ 39 = true; exact e2 l
  rw [this]
  show some (eqL _ _) = _
  rw [e1]
theorem eqr0 : eqT (.lst [.bl true, .bl false, .bl false, .bl false, .bl false, .bl false, .bl false, .bl false, .bl false, .bl false]) (.lst [.bl true, .bl false, .bl false, .bl false, .bl false, .bl false, .bl false, .bl false, .bl false, .bl false]) = some true := by rfl
theorem lc0 (n : Nat) (e0 e1 e3 e4 e5 e6 e7 e8 : Option Val) (st : Sto) : evE (O prog n) (.lc (.cmp .eq (.var 8) (.var 2)) (.v 8) (.rg1 (.int 10))) [e0, e1, some (.dat (.int 0)), e3, e4, e5, e6, e7, e8] st = .ok (.new (.lst [.bl true, .bl false, .bl false, .bl false, .bl false, .bl false, .bl false, .bl false, .bl false, .bl false])) st := by
  have h : rangeL 0 10 = some [.int 0, .int 1, .int 2, .int 3, .int 4, .int 5, .int 6, .int 7, .int 8, .int 9] := by rfl
  refine fE_lcE (by simp! only [h]; rfl) ?_
  rfl
theorem s0 (ns : List Int) (d : D) (hd : RowOk ns d) (e0 e3 e4 e5 e6 e7 e8 e2 : Option Val) : ∃ a4 a5 a6 a7 d', RowOk ns d' ∧ exB (O prog 5) [(.asg (.v 4) (.call 1 [(.var 1), (.lst [.non, (.int 7), (.str [120]), (.tup [(.int 1), (.int 2)]), (.bl true), (.call 0 [(.var 1), (.bin .pow (.int 10) (.int 9))])])])), (.asg (.v 5) (.call 1 [(.var 1), (.lst [(.tup []), (.tup [(.str [97])])])])), (.asg (.v 6) (.call 3 [(.var 2), (.var 4), (.var 5)])), (.ite (.or [(.isN (.var 6)), (.cmp .ne (.sub (.var 6) (.int 0)) (.lc (.cmp .eq (.var 8) (.var 2)) (.v 8) (.rg1 (.int 10))))]) [(.ret (.bl false))] []), (.asg (.v 7) (.var 4)), (.ite (.cmp .eq (.var 2) (.int 8)) [(.asg (.v 7) (.tup [(.var 4), (.var 5)]))] []), (.ite (.and [(.cmp .lt (.var 2) (.int 9)), (.or [(.cmp .ne (.sub (.var 6) (.int 1)) (.var 7)), (.cmp .ne (.isi (.sub (.var 6) (.int 1)) [.bool]) (.isi (.var 7) [.bool]))])]) [(.ret (.bl false))] [])] [e0, some (.dat (.ref 0)), some (.dat (.int 0)), e3, e4, e5, e6, e7, e8] [d] = .nx [e0, some (.dat (.ref 0)), some (.dat (.int 0)), e3, a4, a5, a6, a7, e8] [d'] := by
  obtain ⟨v, d1, t1, _, _, hd1⟩ := draw ns d hd 4 (10 ^ 9) (by decide) (by decide)
  obtain ⟨x, d2, t2, hx, hd2⟩ := pick ns d1 hd1 3 [D.non, .int 7, .str [120], .tup [.int 1, .int 2], .bl true, .int v] (by simp) (by simp)
  obtain ⟨w, d3, t3, hw, hd3⟩ := pick ns d2 hd2 3 [D.tup [], .tup [.str [97]]] (by simp) (by simp)
  obtain ⟨t, k⟩ := kd_of hx
  have k2 := k.eq2 w (by simpa using hw)
  have h9 : (10 : Int) ^ 9 = 1000000000 := by decide
  rw [h9] at t1
  refine ⟨some (.dat x), some (.dat w), some (.dat (.tup [.lst [.bl true, .bl false, .bl false, .bl false, .bl false, .bl false, .bl false, .bl false, .bl false, .bl false], x])), some (.dat x), d3, hd3, ?_⟩
  simp! only [t1, t2, t3, r0, ↓lc0, eqr0, k.eq, k2, k.bl, isi_tupb, vd_new]
theorem eqr1 : eqT (.lst [.bl false, .bl true, .bl false, .bl false, .bl false, .bl false, .bl false, .bl false, .bl false, .bl false]) (.lst [.bl false, .bl true, .bl false, .bl false, .bl false, .bl false, .bl false, .bl false, .bl false, .bl false]) = some true := by rfl
theorem lc1 (n : Nat) (e0 e1 e3 e4 e5 e6 e7 e8 : Option Val) (st : Sto) : evE (O prog n) (.lc (.cmp .eq (.var 8) (.var 2)) (.v 8) (.rg1 (.int 10))) [e0, e1, some (.dat (.int 1)), e3, e4, e5, e6, e7, e8] st = .ok (.new (.lst [.bl false, .bl true, .bl false, .bl false, .bl false, .bl false, .bl false, .bl false, .bl false, .bl false])) st := by
  have h : rangeL 0 10 = some [.int 0, .int 1, .int 2, .int 3, .int 4, .int 5, .int 6, .int 7, .int 8, .int 9] := by rfl
  refine fE_lcE (by simp! only [h]; rfl) ?_
  rfl
theorem s1 (ns : List Int) (d : D) (hd : RowOk ns d) (e0 e3 e4 e5 e6 e7 e8 e2 : Option Val) : ∃ a4 a5 a6 a7 d', RowOk ns d' ∧ exB (O prog 5) [(.asg (.v 4) (.call 1 [(.var 1), (.lst [.non, (.int 7), (.str [120]), (.tup [(.int 1), (.int 2)]), (.bl true), (.call 0 [(.var 1), (.bin .pow (.int 10) (.int 9))])])])), (.asg (.v 5) (.call 1 [(.var 1), (.lst [(.tup []), (.tup [(.str [97])])])])), (.asg (.v 6) (.call 3 [(.var 2), (.var 4), (.var 5)])), (.ite (.or [(.isN (.var 6)), (.cmp .ne (.sub (.var 6) (.int 0)) (.lc (.cmp .eq (.var 8) (.var 2)) (.v 8) (.rg1 (.int 10))))]) [(.ret (.bl false))] []), (.asg (.v 7) (.var 4)), (.ite (.cmp .eq (.var 2) (.int 8)) [(.asg (.v 7) (.tup [(.var 4), (.var 5)]))] []), (.ite (.and [(.cmp .lt (.var 2) (.int 9)), (.or [(.cmp .ne (.sub (.var 6) (.int 1)) (.var 7)), (.cmp .ne (.isi (.sub (.var 6) (.int 1)) [.bool]) (.isi (.var 7) [.bool]))])]) [(.ret (.bl false))] [])] [e0, some (.dat (.ref 0)), some (.dat (.int 1)), e3, e4, e5, e6, e7, e8] [d] = .nx [e0, some (.dat (.ref 0)), some (.dat (.int 1)), e3, a4, a5, a6, a7, e8] [d'] := by
  obtain ⟨v, d1, t1, _, _, hd1⟩ := draw ns d hd 4 (10 ^ 9) (by decide) (by decide)
  obtain ⟨x, d2, t2, hx, hd2⟩ := pick ns d1 hd1 3 [D.non, .int 7, .str [120], .tup [.int 1, .int 2], .bl true, .int v] (by simp) (by simp)
  obtain ⟨w, d3, t3, hw, hd3⟩ := pick ns d2 hd2 3 [D.tup [], .tup [.str [97]]] (by simp) (by simp)
  obtain ⟨t, k⟩ := kd_of hx
  have k2 := k.eq2 w (by simpa using hw)
  have h9 : (10 : Int) ^ 9 = 1000000000 := by decide
  rw [h9] at t1
  refine ⟨some (.dat x), some (.dat w), some (.dat (.tup [.lst [.bl false, .bl true, .bl false, .bl false, .bl false, .bl false, .bl false, .bl false, .bl false, .bl false], x])), some (.dat x), d3, hd3, ?_⟩
  simp! only [t1, t2, t3, r1, ↓lc1, eqr1, k.eq, k2, k.bl, isi_tupb, vd_new]
theorem eqr2 : eqT (.lst [.bl false, .bl false, .bl true, .bl false, .bl false, .bl false, .bl false, .bl false, .bl false, .bl false]) (.lst [.bl false, .bl false, .bl true, .bl false, .bl false, .bl false, .bl false, .bl false, .bl false, .bl false]) = some true := by rfl
theorem lc2 (n : Nat) (e0 e1 e3 e4 e5 e6 e7 e8 : Option Val) (st : Sto) : evE (O prog n) (.lc (.cmp .eq (.var 8) (.var 2)) (.v 8) (.rg1 (.int 10))) [e0, e1, some (.dat (.int 2)), e3, e4, e5, e6, e7, e8] st = .ok (.new (.lst [.bl false, .bl false, .bl true, .bl false, .bl false, .bl false, .bl false, .bl false, .bl false, .bl false])) st := by
  have h : rangeL 0 10 = some [.int 0, .int 1, .int 2, .int 3, .int 4, .int 5, .int 6, .int 7, .int 8, .int 9] := by rfl
  refine fE_lcE (by simp! only [h]; rfl) ?_
  rfl
theorem s2 (ns : List Int) (d : D) (hd : RowOk ns d) (e0 e3 e4 e5 e6 e7 e8 e2 : Option Val) : ∃ a4 a5 a6 a7 d', RowOk ns d' ∧ exB (O prog 5) [(.asg (.v 4) (.call 1 [(.var 1), (.lst [.non, (.int 7), (.str [120]), (.tup [(.int 1), (.int 2)]), (.bl true), (.call 0 [(.var 1), (.bin .pow (.int 10) (.int 9))])])])), (.asg (.v 5) (.call 1 [(.var 1), (.lst [(.tup []), (.tup [(.str [97])])])])), (.asg (.v 6) (.call 3 [(.var 2), (.var 4), (.var 5)])), (.ite (.or [(.isN (.var 6)), (.cmp .ne (.sub (.var 6) (.int 0)) (.lc (.cmp .eq (.var 8) (.var 2)) (.v 8) (.rg1 (.int 10))))]) [(.ret (.bl false))] []), (.asg (.v 7) (.var 4)), (.ite (.cmp .eq (.var 2) (.int 8)) [(.asg (.v 7) (.tup [(.var 4), (.var 5)]))] []), (.ite (.and [(.cmp .lt (.var 2) (.int 9)), (.or [(.cmp .ne (.sub (.var 6) (.int 1)) (.var 7)), (.cmp .ne (.isi (.sub (.var 6) (.int 1)) [.bool]) (.isi (.var 7) [.bool]))])]) [(.ret (.bl false))] [])] [e0, some (.dat (.ref 0)), some (.dat (.int 2)), e3, e4, e5, e6, e7, e8] [d] = .nx [e0, some (.dat (.ref 0)), some (.dat (.int 2)), e3, a4, a5, a6, a7, e8] [d'] := by
  obtain ⟨v, d1, t1, _, _, hd1⟩ := draw ns d hd 4 (10 ^ 9) (by decide) (by decide)
  obtain ⟨x, d2, t2, hx, hd2⟩ := pick ns d1 hd1 3 [D.non, .int 7, .str [120], .tup [.int 1, .int 2], .bl true, .int v] (by simp) (by simp)
  obtain ⟨w, d3, t3, hw, hd3⟩ := pick ns d2 hd2 3 [D.tup [], .tup [.str [97]]] (by simp) (by simp)
  obtain ⟨t, k⟩ := kd_of hx
  have k2 := k.eq2 w (by simpa using hw)
  have h9 : (10 : Int) ^ 9 = 1000000000 := by decide
  rw [h9] at t1
  refine ⟨some (.dat x), some (.dat w), some (.dat (.tup [.lst [.bl false, .bl false, .bl true, .bl false, .bl false, .bl false, .bl false, .bl false, .bl false, .bl false], x])), some (.dat x), d3, hd3, ?_⟩
  simp! only [t1, t2, t3, r2, ↓lc2, eqr2, k.eq, k2, k.bl, isi_tupb, vd_new]
theorem eqr3 : eqT (.lst [.bl false, .bl false, .bl false, .bl true, .bl false, .bl false, .bl false, .bl false, .bl false, .bl false]) (.lst [.bl false, .bl false, .bl false, .bl true, .bl false, .bl false, .bl false, .bl false, .bl false, .bl false]) = some true := by rfl
theorem lc3 (n : Nat) (e0 e1 e3 e4 e5 e6 e7 e8 : Option Val) (st : Sto) : evE (O prog n) (.lc (.cmp .eq (.var 8) (.var 2)) (.v 8) (.rg1 (.int 10))) [e0, e1, some (.dat (.int 3)), e3, e4, e5, e6, e7, e8] st = .ok (.new (.lst [.bl false, .bl false, .bl false, .bl true, .bl false, .bl false, .bl false, .bl false, .bl false, .bl false])) st := by
  have h : rangeL 0 10 = some [.int 0, .int 1, .int 2, .int 3, .int 4, .int 5, .int 6, .int 7, .int 8, .int 9] := by rfl
  refine fE_lcE (by simp! only [h]; rfl) ?_
  rfl
theorem s3 (ns : List Int) (d : D) (hd : RowOk ns d) (e0 e3 e4 e5 e6 e7 e8 e2 : Option Val) : ∃ a4 a5 a6 a7 d', RowOk ns d' ∧ exB (O prog 5) [(.asg (.v 4) (.call 1 [(.var 1), (.lst [.non, (.int 7), (.str [120]), (.tup [(.int 1), (.int 2)]), (.bl true), (.call 0 [(.var 1), (.bin .pow (.int 10) (.int 9))])])])), (.asg (.v 5) (.call 1 [(.var 1), (.lst [(.tup []), (.tup [(.str [97])])])])), (.asg (.v 6) (.call 3 [(.var 2), (.var 4), (.var 5)])), (.ite (.or [(.isN (.var 6)), (.cmp .ne (.sub (.var 6) (.int 0)) (.lc (.cmp .eq (.var 8) (.var 2)) (.v 8) (.rg1 (.int 10))))]) [(.ret (.bl false))] []), (.asg (.v 7) (.var 4)), (.ite (.cmp .eq (.var 2) (.int 8)) [(.asg (.v 7) (.tup [(.var 4), (.var 5)]))] []), (.ite (.and [(.cmp .lt (.var 2) (.int 9)), (.or [(.cmp .ne (.sub (.var 6) (.int 1)) (.var 7)), (.cmp .ne (.isi (.sub (.var 6) (.int 1)) [.bool]) (.isi (.var 7) [.bool]))])]) [(.ret (.bl false))] [])] [e0, some (.dat (.ref 0)), some (.dat (.int 3)), e3, e4, e5, e6, e7, e8] [d] = .nx [e0, some (.dat (.ref 0)), some (.dat (.int 3)), e3, a4, a5, a6, a7, e8] [d'] := by
  obtain ⟨v, d1, t1, _, _, hd1⟩ := draw ns d hd 4 (10 ^ 9) (by decide) (by decide)
  obtain ⟨x, d2, t2, hx, hd2⟩ := pick ns d1 hd1 3 [D.non, .int 7, .str [120], .tup [.int 1, .int 2], .bl true, .int v] (by simp) (by simp)
  obtain ⟨w, d3, t3, hw, hd3⟩ := pick ns d2 hd2 3 [D.tup [], .tup [.str [97]]] (by simp) (by simp)
  obtain ⟨t, k⟩ := kd_of hx
  have k2 := k.eq2 w (by simpa using hw)
  have h9 : (10 : Int) ^ 9 = 1000000000 := by decide
  rw [h9] at t1
  refine ⟨some (.dat x), some (.dat w), some (.dat (.tup [.lst [.bl false, .bl false, .bl false, .bl true, .bl false, .bl false, .bl false, .bl false, .bl false, .bl false], x])), some (.dat x), d3, hd3, ?_⟩
  simp! only [t1, t2, t3, r3, ↓lc3, eqr3, k.eq, k2, k.bl, isi_tupb, vd_new]
theorem eqr4 : eqT (.lst [.bl false, .bl false, .bl false, .bl false, .bl true, .bl false, .bl false, .bl false, .bl false, .bl false]) (.lst [.bl false, .bl false, .bl false, .bl false, .bl true, .bl false, .bl false, .bl false, .bl false, .bl false]) = some true := by rfl
theorem lc4 (n : Nat) (e0 e1 e3 e4 e5 e6 e7 e8 : Option Val) (st : Sto) : evE (O prog n) (.lc (.cmp .eq (.var 8) (.var 2)) (.v 8) (.rg1 (.int 10))) [e0, e1, some (.dat (.int 4)), e3, e4, e5, e6, e7, e8] st = .ok (.new (.lst [.bl false, .bl false, .bl false, .bl false, .bl true, .bl false, .bl false, .bl false, .bl false, .bl false])) st := by
  have h : rangeL 0 10 = some [.int 0, .int 1, .int 2, .int 3, .int 4, .int 5, .int 6, .int 7, .int 8, .int 9] := by rfl
  refine fE_lcE (by simp! only [h]; rfl) ?_
  rfl
theorem s4 (ns : List Int) (d : D) (hd : RowOk ns d) (e0 e3 e4 e5 e6 e7 e8 e2 : Option Val) : ∃ a4 a5 a6 a7 d', RowOk ns d' ∧ exB (O prog 5) [(.asg (.v 4) (.call 1 [(.var 1), (.lst [.non, (.int 7), (.str [120]), (.tup [(.int 1), (.int 2)]), (.bl true), (.call 0 [(.var 1), (.bin .pow (.int 10) (.int 9))])])])), (.asg (.v 5) (.call 1 [(.var 1), (.lst [(.tup []), (.tup [(.str [97])])])])), (.asg (.v 6) (.call 3 [(.var 2), (.var 4), (.var 5)])), (.ite (.or [(.isN (.var 6)), (.cmp .ne (.sub (.var 6) (.int 0)) (.lc (.cmp .eq (.var 8) (.var 2)) (.v 8) (.rg1 (.int 10))))]) [(.ret (.bl false))] []), (.asg (.v 7) (.var 4)), (.ite (.cmp .eq (.var 2) (.int 8)) [(.asg (.v 7) (.tup [(.var 4), (.var 5)]))] []), (.ite (.and [(.cmp .lt (.var 2) (.int 9)), (.or [(.cmp .ne (.sub (.var 6) (.int 1)) (.var 7)), (.cmp .ne (.isi (.sub (.var 6) (.int 1)) [.bool]) (.isi (.var 7) [.bool]))])]) [(.ret (.bl false))] [])] [e0, some (.dat (.ref 0)), some (.dat (.int 4)), e3, e4, e5, e6, e7, e8] [d] = .nx [e0, some (.dat (.ref 0)), some (.dat (.int 4)), e3, a4, a5, a6, a7, e8] [d'] := by
  obtain ⟨v, d1, t1, _, _, hd1⟩ := draw ns d hd 4 (10 ^ 9) (by decide) (by decide)
  obtain ⟨x, d2, t2, hx, hd2⟩ := pick ns d1 hd1 3 [D.non, .int 7, .str [120], .tup [.int 1, .int 2], .bl true, .int v] (by simp) (by simp)
  obtain ⟨w, d3, t3, hw, hd3⟩ := pick ns d2 hd2 3 [D.tup [], .tup [.str [97]]] (by simp) (by simp)
  obtain ⟨t, k⟩ := kd_of hx
  have k2 := k.eq2 w (by simpa using hw)
  have h9 : (10 : Int) ^ 9 = 1000000000 := by decide
  rw [h9] at t1
  refine ⟨some (.dat x), some (.dat w), some (.dat (.tup [.lst [.bl false, .bl false, .bl false, .bl false, .bl true, .bl false, .bl false, .bl false, .bl false, .bl false], x])), some (.dat x), d3, hd3, ?_⟩
  simp! only [t1, t2, t3, r4, ↓lc4, eqr4, k.eq, k2, k.bl, isi_tupb, vd_new]
theorem eqr5 : eqT (.lst [.bl false, .bl false, .bl false, .bl false, .bl false, .bl true, .bl false, .bl false, .bl false, .bl false]) (.lst [.bl false, .bl false, .bl false, .bl false, .bl false, .bl true, .bl false, .bl false, .bl false, .bl false]) = some true := by rfl
theorem lc5 (n : Nat) (e0 e1 e3 e4 e5 e6 e7 e8 : Option Val) (st : Sto) : evE (O prog n) (.lc (.cmp .eq (.var 8) (.var 2)) (.v 8) (.rg1 (.int 10))) [e0, e1, some (.dat (.int 5)), e3, e4, e5, e6, e7, e8] st = .ok (.new (.lst [.bl false, .bl false, .bl false, .bl false, .bl false, .bl true, .bl false, .bl false, .bl false, .bl false])) st := by
  have h : rangeL 0 10 = some [.int 0, .int 1, .int 2, .int 3, .int 4, .int 5, .int 6, .int 7, .int 8, .int 9] := by rfl
  refine fE_lcE (by simp! only [h]; rfl) ?_
  rfl
theorem s5 (ns : List Int) (d : D) (hd : RowOk ns d) (e0 e3 e4 e5 e6 e7 e8 e2 : Option Val) : ∃ a4 a5 a6 a7 d', RowOk ns d' ∧ exB (O prog 5) [(.asg (.v 4) (.call 1 [(.var 1), (.lst [.non, (.int 7), (.str [120]), (.tup [(.int 1), (.int 2)]), (.bl true), (.call 0 [(.var 1), (.bin .pow (.int 10) (.int 9))])])])), (.asg (.v 5) (.call 1 [(.var 1), (.lst [(.tup []), (.tup [(.str [97])])])])), (.asg (.v 6) (.call 3 [(.var 2), (.var 4), (.var 5)])), (.ite (.or [(.isN (.var 6)), (.cmp .ne (.sub (.var 6) (.int 0)) (.lc (.cmp .eq (.var 8) (.var 2)) (.v 8) (.rg1 (.int 10))))]) [(.ret (.bl false))] []), (.asg (.v 7) (.var 4)), (.ite (.cmp .eq (.var 2) (.int 8)) [(.asg (.v 7) (.tup [(.var 4), (.var 5)]))] []), (.ite (.and [(.cmp .lt (.var 2) (.int 9)), (.or [(.cmp .ne (.sub (.var 6) (.int 1)) (.var 7)), (.cmp .ne (.isi (.sub (.var 6) (.int 1)) [.bool]) (.isi (.var 7) [.bool]))])]) [(.ret (.bl false))] [])] [e0, some (.dat (.ref 0)), some (.dat (.int 5)), e3, e4, e5, e6, e7, e8] [d] = .nx [e0, some (.dat (.ref 0)), some (.dat (.int 5)), e3, a4, a5, a6, a7, e8] [d'] := by
  obtain ⟨v, d1, t1, _, _, hd1⟩ := draw ns d hd 4 (10 ^ 9) (by decide) (by decide)
  obtain ⟨x, d2, t2, hx, hd2⟩ := pick ns d1 hd1 3 [D.non, .int 7, .str [120], .tup [.int 1, .int 2], .bl true, .int v] (by simp) (by simp)
  obtain ⟨w, d3, t3, hw, hd3⟩ := pick ns d2 hd2 3 [D.tup [], .tup [.str [97]]] (by simp) (by simp)
  obtain ⟨t, k⟩ := kd_of hx
  have k2 := k.eq2 w (by simpa using hw)
  have h9 : (10 : Int) ^ 9 = 1000000000 := by decide
  rw [h9] at t1
  refine ⟨some (.dat x), some (.dat w), some (.dat (.tup [.lst [.bl false, .bl false, .bl false, .bl false, .bl false, .bl true, .bl false, .bl false, .bl false, .bl false], x])), some (.dat x), d3, hd3, ?_⟩
  simp! only [t1, t2, t3, r5, ↓lc5, eqr5, k.eq, k2, k.bl, isi_tupb, vd_new]
theorem eqr6 : eqT (.lst [.bl false, .bl false, .bl false, .bl false, .bl false, .bl false, .bl true, .bl false, .bl false, .bl false]) (.lst [.bl false, .bl false, .bl false, .bl false, .bl false, .bl false, .bl true, .bl false, .bl false, .bl false]) = some true := by rfl
theorem lc6 (n : Nat) (e0 e1 e3 e4 e5 e6 e7 e8 : Option Val) (st : Sto) : evE (O prog n) (.lc (.cmp .eq (.var 8) (.var 2)) (.v 8) (.rg1 (.int 10))) [e0, e1, some (.dat (.int 6)), e3, e4, e5, e6, e7, e8] st = .ok (.new (.lst [.bl false, .bl false, .bl false, .bl false, .bl false, .bl false, .bl true, .bl false, .bl false, .bl false])) st := by
  have h : rangeL 0 10 = some [.int 0, .int 1, .int 2, .int 3, .int 4, .int 5, .int 6, .int 7, .int 8, .int 9] := by rfl
  refine fE_lcE (by simp! only [h]; rfl) ?_
  rfl
theorem s6 (ns : List Int) (d : D) (hd : RowOk ns d) (e0 e3 e4 e5 e6 e7 e8 e2 : Option Val) : ∃ a4 a5 a6 a7 d', RowOk ns d' ∧ exB (O prog 5) [(.asg (.v 4) (.call 1 [(.var 1), (.lst [.non, (.int 7), (.str [120]), (.tup [(.int 1), (.int 2)]), (.bl true), (.call 0 [(.var 1), (.bin .pow (.int 10) (.int 9))])])])), (.asg (.v 5) (.call 1 [(.var 1), (.lst [(.tup []), (.tup [(.str [97])])])])), (.asg (.v 6) (.call 3 [(.var 2), (.var 4), (.var 5)])), (.ite (.or [(.isN (.var 6)), (.cmp .ne (.sub (.var 6) (.int 0)) (.lc (.cmp .eq (.var 8) (.var 2)) (.v 8) (.rg1 (.int 10))))]) [(.ret (.bl false))] []), (.asg (.v 7) (.var 4)), (.ite (.cmp .eq (.var 2) (.int 8)) [(.asg (.v 7) (.tup [(.var 4), (.var 5)]))] []), (.ite (.and [(.cmp .lt (.var 2) (.int 9)), (.or [(.cmp .ne (.sub (.var 6) (.int 1)) (.var 7)), (.cmp .ne (.isi (.sub (.var 6) (.int 1)) [.bool]) (.isi (.var 7) [.bool]))])]) [(.ret (.bl false))] [])] [e0, some (.dat (.ref 0)), some (.dat (.int 6)), e3, e4, e5, e6, e7, e8] [d] = .nx [e0, some (.dat (.ref 0)), some (.dat (.int 6)), e3, a4, a5, a6, a7, e8] [d'] := by
  obtain ⟨v, d1, t1, _, _, hd1⟩ := draw ns d hd 4 (10 ^ 9) (by decide) (by decide)
  obtain ⟨x, d2, t2, hx, hd2⟩ := pick ns d1 hd1 3 [D.non, .int 7, .str [120], .tup [.int 1, .int 2], .bl true, .int v] (by simp) (by simp)
  obtain ⟨w, d3, t3, hw, hd3⟩ := pick ns d2 hd2 3 [D.tup [], .tup [.str [97]]] (by simp) (by simp)
  obtain ⟨t, k⟩ := kd_of hx
  have k2 := k.eq2 w (by simpa using hw)
  have h9 : (10 : Int) ^ 9 = 1000000000 := by decide
  rw [h9] at t1
  refine ⟨some (.dat x), some (.dat w), some (.dat (.tup [.lst [.bl false, .bl false, .bl false, .bl false, .bl false, .bl false, .bl true, .bl false, .bl false, .bl false], x])), some (.dat x), d3, hd3, ?_⟩
  simp! only [t1, t2, t3, r6, ↓lc6, eqr6, k.eq, k2, k.bl, isi_tupb, vd_new]
theorem eqr7 : eqT (.lst [.bl false, .bl false, .bl false, .bl false, .bl false, .bl false, .bl false, .bl true, .bl false, .bl false]) (.lst [.bl false, .bl false, .bl false, .bl false, .bl false, .bl false, .bl false, .bl true, .bl false, .bl false]) = some true := by rfl
theorem lc7 (n : Nat) (e0 e1 e3 e4 e5 e6 e7 e8 : Option Val) (st : Sto) : evE (O prog n) (.lc (.cmp .eq (.var 8) (.var 2)) (.v 8) (.rg1 (.int 10))) [e0, e1, some (.dat (.int 7)), e3, e4, e5, e6, e7, e8] st = .ok (.new (.lst [.bl false, .bl false, .bl false, .bl false, .bl false, .bl false, .bl false, .bl true, .bl false, .bl false])) st := by
  have h : rangeL 0 10 = some [.int 0, .int 1, .int 2, .int 3, .int 4, .int 5, .int 6, .int 7, .int 8, .int 9] := by rfl
  refine fE_lcE (by simp! only [h]; rfl) ?_
  rfl
theorem s7 (ns : List Int) (d : D) (hd : RowOk ns d) (e0 e3 e4 e5 e6 e7 e8 e2 : Option Val) : ∃ a4 a5 a6 a7 d', RowOk ns d' ∧ exB (O prog 5) [(.asg (.v 4) (.call 1 [(.var 1), (.lst [.non, (.int 7), (.str [120]), (.tup [(.int 1), (.int 2)]), (.bl true), (.call 0 [(.var 1), (.bin .pow (.int 10) (.int 9))])])])), (.asg (.v 5) (.call 1 [(.var 1), (.lst [(.tup []), (.tup [(.str [97])])])])), (.asg (.v 6) (.call 3 [(.var 2), (.var 4), (.var 5)])), (.ite (.or [(.isN (.var 6)), (.cmp .ne (.sub (.var 6) (.int 0)) (.lc (.cmp .eq (.var 8) (.var 2)) (.v 8) (.rg1 (.int 10))))]) [(.ret (.bl false))] []), (.asg (.v 7) (.var 4)), (.ite (.cmp .eq (.var 2) (.int 8)) [(.asg (.v 7) (.tup [(.var 4), (.var 5)]))] []), (.ite (.and [(.cmp .lt (.var 2) (.int 9)), (.or [(.cmp .ne (.sub (.var 6) (.int 1)) (.var 7)), (.cmp .ne (.isi (.sub (.var 6) (.int 1)) [.bool]) (.isi (.var 7) [.bool]))])]) [(.ret (.bl false))] [])] [e0, some (.dat (.ref 0)), some (.dat (.int 7)), e3, e4, e5, e6, e7, e8] [d] = .nx [e0, some (.dat (.ref 0)), some (.dat (.int 7)), e3, a4, a5, a6, a7, e8] [d'] := by
  obtain ⟨v, d1, t1, _, _, hd1⟩ := draw ns d hd 4 (10 ^ 9) (by decide) (by decide)
  obtain ⟨x, d2, t2, hx, hd2⟩ := pick ns d1 hd1 3 [D.non, .int 7, .str [120], .tup [.int 1, .int 2], .bl true, .int v] (by simp) (by simp)
  obtain ⟨w, d3, t3, hw, hd3⟩ := pick ns d2 hd2 3 [D.tup [], .tup [.str [97]]] (by simp) (by simp)
  obtain ⟨t, k⟩ := kd_of hx
  have k2 := k.eq2 w (by simpa using hw)
  have h9 : (10 : Int) ^ 9 = 1000000000 := by decide
  rw [h9] at t1
  refine ⟨some (.dat x), some (.dat w), some (.dat (.tup [.lst [.bl false, .bl false, .bl false, .bl false, .bl false, .bl false, .bl false, .bl true, .bl false, .bl false], x])), some (.dat x), d3, hd3, ?_⟩
  simp! only [t1, t2, t3, r7, ↓lc7, eqr7, k.eq, k2, k.bl, isi_tupb, vd_new]
theorem eqr8 : eqT (.lst [.bl false, .bl false, .bl false, .bl false, .bl false, .bl false, .bl false, .bl false, .bl true, .bl false]) (.lst [.bl false, .bl false, .bl false, .bl false, .bl false, .bl false, .bl false, .bl false, .bl true, .bl false]) = some true := by rfl
theorem lc8 (n : Nat) (e0 e1 e3 e4 e5 e6 e7 e8 : Option Val) (st : Sto) : evE (O prog n) (.lc (.cmp .eq (.var 8) (.var 2)) (.v 8) (.rg1 (.int 10))) [e0, e1, some (.dat (.int 8)), e3, e4, e5, e6, e7, e8] st = .ok (.new (.lst [.bl false, .bl false, .bl false, .bl false, .bl false, .bl false, .bl false, .bl false, .bl true, .bl false])) st := by
  have h : rangeL 0 10 = some [.int 0, .int 1, .int 2, .int 3, .int 4, .int 5, .int 6, .int 7, .int 8, .int 9] := by rfl
  refine fE_lcE (by simp! only [h]; rfl) ?_
  rfl
theorem s8 (ns : List Int) (d : D) (hd : RowOk ns d) (e0 e3 e4 e5 e6 e7 e8 e2 : Option Val) : ∃ a4 a5 a6 a7 d', RowOk ns d' ∧ exB (O prog 5) [(.asg (.v 4) (.call 1 [(.var 1), (.lst [.non, (.int 7), (.str [120]), (.tup [(.int 1), (.int 2)]), (.bl true), (.call 0 [(.var 1), (.bin .pow (.int 10) (.int 9))])])])), (.asg (.v 5) (.call 1 [(.var 1), (.lst [(.tup []), (.tup [(.str [97])])])])), (.asg (.v 6) (.call 3 [(.var 2), (.var 4), (.var 5)])), (.ite (.or [(.isN (.var 6)), (.cmp .ne (.sub (.var 6) (.int 0)) (.lc (.cmp .eq (.var 8) (.var 2)) (.v 8) (.rg1 (.int 10))))]) [(.ret (.bl false))] []), (.asg (.v 7) (.var 4)), (.ite (.cmp .eq (.var 2) (.int 8)) [(.asg (.v 7) (.tup [(.var 4), (.var 5)]))] []), (.ite (.and [(.cmp .lt (.var 2) (.int 9)), (.or [(.cmp .ne (.sub (.var 6) (.int 1)) (.var 7)), (.cmp .ne (.isi (.sub (.var 6) (.int 1)) [.bool]) (.isi (.var 7) [.bool]))])]) [(.ret (.bl false))] [])] [e0, some (.dat (.ref 0)), some (.dat (.int 8)), e3, e4, e5, e6, e7, e8] [d] = .nx [e0, some (.dat (.ref 0)), some (.dat (.int 8)), e3, a4, a5, a6, a7, e8] [d'] := by
  obtain ⟨v, d1, t1, _, _, hd1⟩ := draw ns d hd 4 (10 ^ 9) (by decide) (by decide)
  obtain ⟨x, d2, t2, hx, hd2⟩ := pick ns d1 hd1 3 [D.non, .int 7, .str [120], .tup [.int 1, .int 2], .bl true, .int v] (by simp) (by simp)
  obtain ⟨w, d3, t3, hw, hd3⟩ := pick ns d2 hd2 3 [D.tup [], .tup [.str [97]]] (by simp) (by simp)
  obtain ⟨t, k⟩ := kd_of hx
  have k2 := k.eq2 w (by simpa using hw)
  have h9 : (10 : Int) ^ 9 = 1000000000 := by decide
  rw [h9] at t1
  refine ⟨some (.dat x), some (.dat w), some (.dat (.tup [.lst [.bl false, .bl false, .bl false, .bl false, .bl false, .bl false, .bl false, .bl false, .bl true, .bl false], .tup [x, w]])), some (.dat (.tup [x, w])), d3, hd3, ?_⟩
  simp! only [t1, t2, t3, r8, ↓lc8, eqr8, k.eq, k2, k.bl, isi_tupb, vd_new]
theorem eqr9 : eqT (.lst [.bl false, .bl false, .bl false, .bl false, .bl false, .bl false, .bl false, .bl false, .bl false, .bl true]) (.lst [.bl false, .bl false, .bl false, .bl false, .bl false, .bl false, .bl false, .bl false, .bl false, .bl true]) = some true := by rfl
theorem lc9 (n : Nat) (e0 e1 e3 e4 e5 e6 e7 e8 : Option Val) (st : Sto) : evE (O prog n) (.lc (.cmp .eq (.var 8) (.var 2)) (.v 8) (.rg1 (.int 10))) [e0, e1, some (.dat (.int 9)), e3, e4, e5, e6, e7, e8] st = .ok (.new (.lst [.bl false, .bl false, .bl false, .bl false, .bl false, .bl false, .bl false, .bl false, .bl false, .bl true])) st := by
  have h : rangeL 0 10 = some [.int 0, .int 1, .int 2, .int 3, .int 4, .int 5, .int 6, .int 7, .int 8, .int 9] := by rfl
  refine fE_lcE (by simp! only [h]; rfl) ?_
  rfl
theorem s9 (ns : List Int) (d : D) (hd : RowOk ns d) (e0 e3 e4 e5 e6 e7 e8 e2 : Option Val) : ∃ a4 a5 a6 a7 d', RowOk ns d' ∧ exB (O prog 5) [(.asg (.v 4) (.call 1 [(.var 1), (.lst [.non, (.int 7), (.str [120]), (.tup [(.int 1), (.int 2)]), (.bl true), (.call 0 [(.var 1), (.bin .pow (.int 10) (.int 9))])])])), (.asg (.v 5) (.call 1 [(.var 1), (.lst [(.tup []), (.tup [(.str [97])])])])), (.asg (.v 6) (.call 3 [(.var 2), (.var 4), (.var 5)])), (.ite (.or [(.isN (.var 6)), (.cmp .ne (.sub (.var 6) (.int 0)) (.lc (.cmp .eq (.var 8) (.var 2)) (.v 8) (.rg1 (.int 10))))]) [(.ret (.bl false))] []), (.asg (.v 7) (.var 4)), (.ite (.cmp .eq (.var 2) (.int 8)) [(.asg (.v 7) (.tup [(.var 4), (.var 5)]))] []), (.ite (.and [(.cmp .lt (.var 2) (.int 9)), (.or [(.cmp .ne (.sub (.var 6) (.int 1)) (.var 7)), (.cmp .ne (.isi (.sub (.var 6) (.int 1)) [.bool]) (.isi (.var 7) [.bool]))])]) [(.ret (.bl false))] [])] [e0, some (.dat (.ref 0)), some (.dat (.int 9)), e3, e4, e5, e6, e7, e8] [d] = .nx [e0, some (.dat (.ref 0)), some (.dat (.int 9)), e3, a4, a5, a6, a7, e8] [d'] := by
  obtain ⟨v, d1, t1, _, _, hd1⟩ := draw ns d hd 4 (10 ^ 9) (by decide) (by decide)
  obtain ⟨x, d2, t2, hx, hd2⟩ := pick ns d1 hd1 3 [D.non, .int 7, .str [120], .tup [.int 1, .int 2], .bl true, .int v] (by simp) (by simp)
  obtain ⟨w, d3, t3, hw, hd3⟩ := pick ns d2 hd2 3 [D.tup [], .tup [.str [97]]] (by simp) (by simp)
  obtain ⟨t, k⟩ := kd_of hx
  have k2 := k.eq2 w (by simpa using hw)
  have h9 : (10 : Int) ^ 9 = 1000000000 := by decide
  rw [h9] at t1
  refine ⟨some (.dat x), some (.dat w), some (.dat (.tup [.lst [.bl false, .bl false, .bl false, .bl false, .bl false, .bl false, .bl false, .bl false, .bl false, .bl true], .non])), some (.dat x), d3, hd3, ?_⟩
  simp! only [t1, t2, t3, r9, ↓lc9, eqr9, k.eq, k2, k.bl, isi_tupb, vd_new]
theorem kw0 : kwOk [0] [0] = true := rfl
theorem kw1 : kwOk [1] [1] = true := rfl
theorem kw2 : kwOk [2] [2] = true := rfl
theorem kw3 : kwOk [3] [3] = true := rfl
theorem kw4 : kwOk [4, 5] [4, 5] = true := rfl
theorem kw5 : kwOk [4, 5] [5, 4] = true := rfl
theorem pure_law (ns : List Int) (_ : ns.length ≤ 63) : ∃ st, callN prog 6 false 4 [.scr ns] [] = .ok (.dat (.bl true)) st := by
  obtain ⟨d0, ed0⟩ : ∃ d, D.lst [.scr ns, .int 0, .int 53, .int 0] = d := ⟨_, rfl⟩
  have hd0 : RowOk ns d0 := by rw [← ed0]; exact RowOk.start ns 53 (by decide) (by decide)
  obtain ⟨a0_0, a0_1, a0_2, a0_3, d1, hd1, h0⟩ := s0 ns d0 hd0 (some (.dat (.scr ns))) none none none none none none none
  obtain ⟨a1_0, a1_1, a1_2, a1_3, d2, hd2, h1⟩ := s1 ns d1 hd1 (some (.dat (.scr ns))) none a0_0 a0_1 a0_2 a0_3 none none
  obtain ⟨a2_0, a2_1, a2_2, a2_3, d3, hd3, h2⟩ := s2 ns d2 hd2 (some (.dat (.scr ns))) none a1_0 a1_1 a1_2 a1_3 none none
  obtain ⟨a3_0, a3_1, a3_2, a3_3, d4, hd4, h3⟩ := s3 ns d3 hd3 (some (.dat (.scr ns))) none a2_0 a2_1 a2_2 a2_3 none none
  obtain ⟨a4_0, a4_1, a4_2, a4_3, d5, hd5, h4⟩ := s4 ns d4 hd4 (some (.dat (.scr ns))) none a3_0 a3_1 a3_2 a3_3 none none
  obtain ⟨a5_0, a5_1, a5_2, a5_3, d6, hd6, h5⟩ := s5 ns d5 hd5 (some (.dat (.scr ns))) none a4_0 a4_1 a4_2 a4_3 none none
  obtain ⟨a6_0, a6_1, a6_2, a6_3, d7, hd7, h6⟩ := s6 ns d6 hd6 (some (.dat (.scr ns))) none a5_0 a5_1 a5_2 a5_3 none none
  obtain ⟨a7_0, a7_1, a7_2, a7_3, d8, hd8, h7⟩ := s7 ns d7 hd7 (some (.dat (.scr ns))) none a6_0 a6_1 a6_2 a6_3 none none
  obtain ⟨a8_0, a8_1, a8_2, a8_3, d9, hd9, h8⟩ := s8 ns d8 hd8 (some (.dat (.scr ns))) none a7_0 a7_1 a7_2 a7_3 none none
  obtain ⟨a9_0, a9_1, a9_2, a9_3, d10, hd10, h9⟩ := s9 ns d9 hd9 (some (.dat (.scr ns))) none a8_0 a8_1 a8_2 a8_3 none none
  have hl : forE (O prog 5) (.v 2) [(.asg (.v 4) (.call 1 [(.var 1), (.lst [.non, (.int 7), (.str [120]), (.tup [(.int 1), (.int 2)]), (.bl true), (.call 0 [(.var 1), (.bin .pow (.int 10) (.int 9))])])])), (.asg (.v 5) (.call 1 [(.var 1), (.lst [(.tup []), (.tup [(.str [97])])])])), (.asg (.v 6) (.call 3 [(.var 2), (.var 4), (.var 5)])), (.ite (.or [(.isN (.var 6)), (.cmp .ne (.sub (.var 6) (.int 0)) (.lc (.cmp .eq (.var 8) (.var 2)) (.v 8) (.rg1 (.int 10))))]) [(.ret (.bl false))] []), (.asg (.v 7) (.var 4)), (.ite (.cmp .eq (.var 2) (.int 8)) [(.asg (.v 7) (.tup [(.var 4), (.var 5)]))] []), (.ite (.and [(.cmp .lt (.var 2) (.int 9)), (.or [(.cmp .ne (.sub (.var 6) (.int 1)) (.var 7)), (.cmp .ne (.isi (.sub (.var 6) (.int 1)) [.bool]) (.isi (.var 7) [.bool]))])]) [(.ret (.bl false))] [])] [.int 0, .int 1, .int 2, .int 3, .int 4, .int 5, .int 6, .int 7, .int 8, .int 9] [some (.dat (.scr ns)), some (.dat (.ref 0)), none, none, none, none, none, none, none] [d0] = .nx [some (.dat (.scr ns)), some (.dat (.ref 0)), some (.dat (.int 9)), none, a9_0, a9_1, a9_2, a9_3, none] [d10] := by
    rw [forE_step (by simp! only []) h0]
    rw [forE_step (by simp! only []) h1]
    rw [forE_step (by simp! only []) h2]
    rw [forE_step (by simp! only []) h3]
    rw [forE_step (by simp! only []) h4]
    rw [forE_step (by simp! only []) h5]
    rw [forE_step (by simp! only []) h6]
    rw [forE_step (by simp! only []) h7]
    rw [forE_step (by simp! only []) h8]
    rw [forE_step (by simp! only []) h9]
    rfl
  have hr : rangeL 0 10 = some [.int 0, .int 1, .int 2, .int 3, .int 4, .int 5, .int 6, .int 7, .int 8, .int 9] := by rfl
  have hf := (fS_frE (o := O prog 5) (it := .rg1 (.int 10)) (E := [some (.dat (.scr ns)), some (.dat (.ref 0)), none, none, none, none, none, none, none]) (st := [d0]) (by simp! only [hr])).trans hl
  have al : ∀ d st, alk 4 d → callN prog 5 false 2 [d, d] st = .ok (.dat (.bl true)) st := fun d st h => alike hf2 4 d st h
  refine ⟨[d10], ?_⟩
  simp! only [u_law, b_law, ed0, ↓hf, alk_non, alk_bl, alk_int, alk_str, alk_tup, alk_lst, allk_nil, allk_cons, allk_map, sz_le, fl1, fl2, fl3, fl4, fl5, fl6, fl7, fl8, fl9, kw0, kw1, kw2, kw3, kw4, kw5, List.zip_cons_cons, List.zip_nil_left, List.lookup_cons, Nat.reduceBEq, sz_le, List.cons_append, al, List.nil_append]
end Pk09

end
section
set_option Elab.async false
set_option maxRecDepth 100000
namespace Pk09H
open PySem PySem.Spec PyProof.Rows L2 Mp
def LK (K : PySem.W.Frag) (fs cs : List Addr) : Lk := ⟨K, nmOf ["value", "index", "line", "limit", "reason", "names"], fun c => cs.getD c 0, fun f => fs.getD f 0⟩
set_option maxHeartbeats 0 in
theorem all_mk {P : Program} {w : World} {K : PySem.W.Frag} {h : Heap} {mg : Str → Option Value} {fa : Addr} (hP : P = PySem.Challenge.pw_wheelrace_k09_errors) (X : K.In h) (G : h.Ns mainGlobals mg) (hfa : mg "law" = some (.ref fa))
    {f0 f1 f2 f3 f4 C0 C1 C2 C3 C4 C5 C6 C7 C8 C9 C10 g1 g2 g3 g4 g5 g6 g7 g8 g9 h1 d1 h2 d2 h3 d3 h4 d4 h5 d5 h6 d6 h7 d7 h8 d8 h9 d9 : Addr}
    {od0 an0 od1 an1 od2 an2 od3 an3 od4 an4 : Option Addr}
    {sl0 sl1 sl2 sl3 sl4 : Array (Option Value)}
    {oc0 kV0 dc0 pm0 cd0 ct0 oc1 kV1 dc1 pm1 cd1 ct1 oc2 kV2 dc2 pm2 cd2 ct2 oc3 kV3 dc3 pm3 cd3 ct3 oc4 kV4 dc4 pm4 cd4 ct4 : Value}
    {nm1 qn1 : Str} {N1 : Addr} {bs1 bm1 : List Value} {sn1 : List Str} {sub1 : List Value} {ab1 : Bool} {col1 : Option Bool} {dd1 : Option Addr} {m01 m11 m21 m31 m51 : Option Value}
    {ic1 idc1 ipm1 ict1 icl1 itc1 : Value} {iod1 ian1 ihd1 itd1 : Option Addr} {isl1 ihs1 its1 : Array (Option Value)} {ivs1 : Array Value} {fi1 : Str} {tf1 : Tok}
    {nm2 qn2 : Str} {N2 : Addr} {bs2 bm2 : List Value} {sn2 : List Str} {sub2 : List Value} {ab2 : Bool} {col2 : Option Bool} {dd2 : Option Addr} {m02 m12 m22 m32 m52 : Option Value}
    {ic2 idc2 ipm2 ict2 icl2 itc2 : Value} {iod2 ian2 ihd2 itd2 : Option Addr} {isl2 ihs2 its2 : Array (Option Value)} {ivs2 : Array Value} {fi2 : Str} {tf2 : Tok}
    {nm3 qn3 : Str} {N3 : Addr} {bs3 bm3 : List Value} {sn3 : List Str} {sub3 : List Value} {ab3 : Bool} {col3 : Option Bool} {dd3 : Option Addr} {m03 m13 m23 m33 m53 : Option Value}
    {ic3 idc3 ipm3 ict3 icl3 itc3 : Value} {iod3 ian3 ihd3 itd3 : Option Addr} {isl3 ihs3 its3 : Array (Option Value)} {ivs3 : Array Value} {fi3 : Str} {tf3 : Tok}
    {nm4 qn4 : Str} {N4 : Addr} {bs4 bm4 : List Value} {sn4 : List Str} {sub4 : List Value} {ab4 : Bool} {col4 : Option Bool} {dd4 : Option Addr} {m04 m14 m24 m34 m54 : Option Value}
    {ic4 idc4 ipm4 ict4 icl4 itc4 : Value} {iod4 ian4 ihd4 itd4 : Option Addr} {isl4 ihs4 its4 : Array (Option Value)} {ivs4 : Array Value} {fi4 : Str} {tf4 : Tok}
    {nm5 qn5 : Str} {N5 : Addr} {bs5 bm5 : List Value} {sn5 : List Str} {sub5 : List Value} {ab5 : Bool} {col5 : Option Bool} {dd5 : Option Addr} {m05 m15 m25 m35 m55 : Option Value}
    {ic5 idc5 ipm5 ict5 icl5 itc5 : Value} {iod5 ian5 ihd5 itd5 : Option Addr} {isl5 ihs5 its5 : Array (Option Value)} {ivs5 : Array Value} {fi5 : Str} {tf5 : Tok}
    {nm6 qn6 : Str} {N6 : Addr} {bs6 bm6 : List Value} {sn6 : List Str} {sub6 : List Value} {ab6 : Bool} {col6 : Option Bool} {dd6 : Option Addr} {m06 m16 m26 m36 m56 : Option Value}
    {ic6 idc6 ipm6 ict6 icl6 itc6 : Value} {iod6 ian6 ihd6 itd6 : Option Addr} {isl6 ihs6 its6 : Array (Option Value)} {ivs6 : Array Value} {fi6 : Str} {tf6 : Tok}
    {nm7 qn7 : Str} {N7 : Addr} {bs7 bm7 : List Value} {sn7 : List Str} {sub7 : List Value} {ab7 : Bool} {col7 : Option Bool} {dd7 : Option Addr} {m07 m17 m27 m37 m57 : Option Value}
    {ic7 idc7 ipm7 ict7 icl7 itc7 : Value} {iod7 ian7 ihd7 itd7 : Option Addr} {isl7 ihs7 its7 : Array (Option Value)} {ivs7 : Array Value} {fi7 : Str} {tf7 : Tok}
    {nm8 qn8 : Str} {N8 : Addr} {bs8 bm8 : List Value} {sn8 : List Str} {sub8 : List Value} {ab8 : Bool} {col8 : Option Bool} {dd8 : Option Addr} {m08 m18 m28 m38 m58 : Option Value}
    {ic8 idc8 ipm8 ict8 icl8 itc8 : Value} {iod8 ian8 ihd8 itd8 : Option Addr} {isl8 ihs8 its8 : Array (Option Value)} {ivs8 : Array Value} {fi8 : Str} {tf8 : Tok}
    {nm9 qn9 : Str} {N9 : Addr} {bs9 bm9 : List Value} {sn9 : List Str} {sub9 : List Value} {ab9 : Bool} {col9 : Option Bool} {dd9 : Option Addr} {m09 m19 m29 m39 m59 : Option Value}
    {ic9 idc9 ipm9 ict9 icl9 itc9 : Value} {iod9 ian9 ihd9 itd9 : Option Addr} {isl9 ihs9 its9 : Array (Option Value)} {ivs9 : Array Value} {fi9 : Str} {tf9 : Tok}
    (a0 : PySem.W.nsIn K mainGlobals "_law_taken" = some (some (.ref f0)))
    (l0 : K.lookup f0 = some ⟨oc0, od0, .func (PySem.W.fnOf "_law_taken" "_law_taken" (defArgs Pk09.s__law_taken) (defBody Pk09.s__law_taken) (defScope Pk09.s__law_taken) .none kV0 dc0 pm0 an0 cd0 ct0), sl0⟩)
    (c0 : PySem.W.codeIn K cd0 "_law_taken" = true)
    (k0 : PySem.W.keepIn K (.ref f0) = true)
    (a1 : PySem.W.nsIn K mainGlobals "_law_pick" = some (some (.ref f1)))
    (l1 : K.lookup f1 = some ⟨oc1, od1, .func (PySem.W.fnOf "_law_pick" "_law_pick" (defArgs Pk09.s__law_pick) (defBody Pk09.s__law_pick) (defScope Pk09.s__law_pick) .none kV1 dc1 pm1 an1 cd1 ct1), sl1⟩)
    (c1 : PySem.W.codeIn K cd1 "_law_pick" = true)
    (k1 : PySem.W.keepIn K (.ref f1) = true)
    (a2 : PySem.W.nsIn K mainGlobals "_law_alike" = some (some (.ref f2)))
    (l2 : K.lookup f2 = some ⟨oc2, od2, .func (PySem.W.fnOf "_law_alike" "_law_alike" (defArgs Pk09.s__law_alike) (defBody Pk09.s__law_alike) (defScope Pk09.s__law_alike) .none kV2 dc2 pm2 an2 cd2 ct2), sl2⟩)
    (c2 : PySem.W.codeIn K cd2 "_law_alike" = true)
    (k2 : PySem.W.keepIn K (.ref f2) = true)
    (a3 : PySem.W.nsIn K mainGlobals "_law_raised" = some (some (.ref f3)))
    (l3 : K.lookup f3 = some ⟨oc3, od3, .func (PySem.W.fnOf "_law_raised" "_law_raised" (defArgs Pk09.s__law_raised) (defBody Pk09.s__law_raised) (defScope Pk09.s__law_raised) .none kV3 dc3 pm3 an3 cd3 ct3), sl3⟩)
    (c3 : PySem.W.codeIn K cd3 "_law_raised" = true)
    (k3 : PySem.W.keepIn K (.ref f3) = true)
    (a4 : PySem.W.nsIn K mainGlobals "law" = some (some (.ref f4)))
    (l4 : K.lookup f4 = some ⟨oc4, od4, .func (PySem.W.fnOf "law" "law" (defArgs Pk09.s_law) (defBody Pk09.s_law) (defScope Pk09.s_law) .none kV4 dc4 pm4 an4 cd4 ct4), sl4⟩)
    (c4 : PySem.W.codeIn K cd4 "law" = true)
    (k4 : PySem.W.keepIn K (.ref f4) = true)
    (z_len : PySem.W.nsIn K mainGlobals "len" = some none)
    (z_abs : PySem.W.nsIn K mainGlobals "abs" = some none)
    (z_int : PySem.W.nsIn K mainGlobals "int" = some none)
    (z_tuple : PySem.W.nsIn K mainGlobals "tuple" = some none)
    (z_min : PySem.W.nsIn K mainGlobals "min" = some none)
    (z_max : PySem.W.nsIn K mainGlobals "max" = some none)
    (z_sum : PySem.W.nsIn K mainGlobals "sum" = some none)
    (z_any : PySem.W.nsIn K mainGlobals "any" = some none)
    (z_all : PySem.W.nsIn K mainGlobals "all" = some none)
    (z_isinstance : PySem.W.nsIn K mainGlobals "isinstance" = some none)
    (z_list : PySem.W.nsIn K mainGlobals "list" = some none)
    (z_range : PySem.W.nsIn K mainGlobals "range" = some none)
    (z_repr : PySem.W.nsIn K mainGlobals "repr" = some none)
    (z_bool : PySem.W.nsIn K mainGlobals "bool" = some none)
    (z_str : PySem.W.nsIn K mainGlobals "str" = some none)
    (z_dict : PySem.W.nsIn K mainGlobals "dict" = some none)
    (z_sorted : PySem.W.nsIn K mainGlobals "sorted" = some none)
    (z_set : PySem.W.nsIn K mainGlobals "set" = some none)
    (z_enumerate : PySem.W.nsIn K mainGlobals "enumerate" = some none)
    (z_zip : PySem.W.nsIn K mainGlobals "zip" = some none)
    (z_ValueError : PySem.W.nsIn K mainGlobals "ValueError" = some none)
    (z_LookupError : PySem.W.nsIn K mainGlobals "LookupError" = some none)
    (z_RuntimeError : PySem.W.nsIn K mainGlobals "RuntimeError" = some none)
    (z_super : PySem.W.nsIn K mainGlobals "super" = some none)
    (sn : PySem.W.specialIn K (.builtin "object.__class__") "__get__" = some (some (.builtin "getset_descriptor.__get__")))
    (tk : PySem.W.takesIn K (.builtin "object.__class__") = some true)
    (op : PySem.W.nsIn K PySem.cStatics "thirdparty.any" = some none)
    (x0_a : PySem.W.nsIn K mainGlobals "RaceError" = some (some (.ref C0)))
    (x0_hd : PySem.W.hasDictIn K C0 = true)
    (x0_sa : PySem.W.findIn K (.ref C0) "__setattr__" = some (some (.builtin "object.__setattr__")))
    (x0_kp : PySem.W.keepIn K (.ref C0) = true)
    (x0_ga : PySem.W.findIn K (.ref C0) "__getattribute__" = some (some (.builtin "BaseException.__getattribute__")))
    (x0_gg : PySem.W.findIn K (.ref C0) "__getattr__" = some none)
    (x0_sb : PySem.W.subIn K (.ref C0) (.type "BaseException") = some true)
    (x0_ca : PySem.W.findIn K (.ref C0) "__class__" = some (some (.builtin "object.__class__")))
    (x0_mo : PySem.W.mroIn K C0 (.type "object") = some true)
    (x0_ty : PySem.W.typeIn K (.ref C0) = some (.type "type"))
    (x0_kV : PySem.W.kitOne K (.ref C0) (.type "ValueError") = some true)
    (x0_kL : PySem.W.kitOne K (.ref C0) (.type "LookupError") = some false)
    (x0_kR : PySem.W.kitOne K (.ref C0) (.type "RuntimeError") = some false)
    (x0_k0 : PySem.W.kitOne K (.ref C0) (.ref C0) = some true)
    (x0_s0 : PySem.W.subIn K (.ref C0) (.ref C0) = some true)
    (x0_k1 : PySem.W.kitOne K (.ref C0) (.ref C1) = some false)
    (x0_s1 : PySem.W.subIn K (.ref C0) (.ref C1) = some false)
    (x0_k2 : PySem.W.kitOne K (.ref C0) (.ref C2) = some false)
    (x0_s2 : PySem.W.subIn K (.ref C0) (.ref C2) = some false)
    (x0_k3 : PySem.W.kitOne K (.ref C0) (.ref C3) = some false)
    (x0_s3 : PySem.W.subIn K (.ref C0) (.ref C3) = some false)
    (x0_k4 : PySem.W.kitOne K (.ref C0) (.ref C4) = some false)
    (x0_s4 : PySem.W.subIn K (.ref C0) (.ref C4) = some false)
    (x0_k5 : PySem.W.kitOne K (.ref C0) (.ref C5) = some false)
    (x0_s5 : PySem.W.subIn K (.ref C0) (.ref C5) = some false)
    (x0_k6 : PySem.W.kitOne K (.ref C0) (.ref C6) = some false)
    (x0_s6 : PySem.W.subIn K (.ref C0) (.ref C6) = some false)
    (x0_k7 : PySem.W.kitOne K (.ref C0) (.ref C7) = some false)
    (x0_s7 : PySem.W.subIn K (.ref C0) (.ref C7) = some false)
    (x0_k8 : PySem.W.kitOne K (.ref C0) (.ref C8) = some false)
    (x0_s8 : PySem.W.subIn K (.ref C0) (.ref C8) = some false)
    (x0_k9 : PySem.W.kitOne K (.ref C0) (.ref C9) = some false)
    (x0_s9 : PySem.W.subIn K (.ref C0) (.ref C9) = some false)
    (x0_k10 : PySem.W.kitOne K (.ref C0) (.ref C10) = some false)
    (x0_s10 : PySem.W.subIn K (.ref C0) (.ref C10) = some false)
    (x1_a : PySem.W.nsIn K mainGlobals "BadNumber" = some (some (.ref C1)))
    (x1_hd : PySem.W.hasDictIn K C1 = true)
    (x1_sa : PySem.W.findIn K (.ref C1) "__setattr__" = some (some (.builtin "object.__setattr__")))
    (x1_kp : PySem.W.keepIn K (.ref C1) = true)
    (x1_ga : PySem.W.findIn K (.ref C1) "__getattribute__" = some (some (.builtin "BaseException.__getattribute__")))
    (x1_gg : PySem.W.findIn K (.ref C1) "__getattr__" = some none)
    (x1_sb : PySem.W.subIn K (.ref C1) (.type "BaseException") = some true)
    (x1_ca : PySem.W.findIn K (.ref C1) "__class__" = some (some (.builtin "object.__class__")))
    (x1_mo : PySem.W.mroIn K C1 (.type "object") = some true)
    (x1_ty : PySem.W.typeIn K (.ref C1) = some (.type "type"))
    (x1_kV : PySem.W.kitOne K (.ref C1) (.type "ValueError") = some true)
    (x1_kL : PySem.W.kitOne K (.ref C1) (.type "LookupError") = some false)
    (x1_kR : PySem.W.kitOne K (.ref C1) (.type "RuntimeError") = some false)
    (x1_k0 : PySem.W.kitOne K (.ref C1) (.ref C0) = some true)
    (x1_s0 : PySem.W.subIn K (.ref C1) (.ref C0) = some true)
    (x1_k1 : PySem.W.kitOne K (.ref C1) (.ref C1) = some true)
    (x1_s1 : PySem.W.subIn K (.ref C1) (.ref C1) = some true)
    (x1_k2 : PySem.W.kitOne K (.ref C1) (.ref C2) = some false)
    (x1_s2 : PySem.W.subIn K (.ref C1) (.ref C2) = some false)
    (x1_k3 : PySem.W.kitOne K (.ref C1) (.ref C3) = some false)
    (x1_s3 : PySem.W.subIn K (.ref C1) (.ref C3) = some false)
    (x1_k4 : PySem.W.kitOne K (.ref C1) (.ref C4) = some false)
    (x1_s4 : PySem.W.subIn K (.ref C1) (.ref C4) = some false)
    (x1_k5 : PySem.W.kitOne K (.ref C1) (.ref C5) = some false)
    (x1_s5 : PySem.W.subIn K (.ref C1) (.ref C5) = some false)
    (x1_k6 : PySem.W.kitOne K (.ref C1) (.ref C6) = some false)
    (x1_s6 : PySem.W.subIn K (.ref C1) (.ref C6) = some false)
    (x1_k7 : PySem.W.kitOne K (.ref C1) (.ref C7) = some false)
    (x1_s7 : PySem.W.subIn K (.ref C1) (.ref C7) = some false)
    (x1_k8 : PySem.W.kitOne K (.ref C1) (.ref C8) = some false)
    (x1_s8 : PySem.W.subIn K (.ref C1) (.ref C8) = some false)
    (x1_k9 : PySem.W.kitOne K (.ref C1) (.ref C9) = some false)
    (x1_s9 : PySem.W.subIn K (.ref C1) (.ref C9) = some false)
    (x1_k10 : PySem.W.kitOne K (.ref C1) (.ref C10) = some false)
    (x1_s10 : PySem.W.subIn K (.ref C1) (.ref C10) = some false)
    (x1_n0 : PySem.W.findIn K (.ref C1) "value" = some none)
    (y1_x : K.lookup C1 = some (excClassObj nm1 qn1 C1 N1 bs1 bm1 true sn1 sub1 ab1 col1 dd1 m01 m11 m21 m31 m51 "ValueError.__new__"))
    (y1_bm : PySem.HandSPX.refsVE bm1 = true)
    (y1_i : PySem.W.findIn K (.ref C1) "__init__" = some (some (.ref g1)))
    (y1_t : PySem.W.typeIn K (.ref g1) = some (.type "function"))
    (y1_v : PySem.W.subIn K (.ref C1) (.type "ValueError") = some true)
    (y1_m : PySem.W.mroIn K C1 (.ref C1) = some true)
    (y1_u : PySem.W.ks_superIn K C1 C1 "__init__" = some (some (.builtin "ValueError.__init__")))
    (y1_l : K.lookup g1 = some ⟨ic1, iod1, .func (PySem.W.ksFn "__init__" "BadNumber.__init__" (defArgs Pk09.t_1) (defBody Pk09.t_1) (defScope Pk09.t_1) .none .none idc1 ipm1 ian1 (.ref h1) ict1 d1), isl1⟩)
    (y1_c : PySem.W.codeIn K (.ref h1) "BadNumber.__init__" = true)
    (y1_h : K.lookup h1 = some ⟨icl1, ihd1, .fields ivs1, ihs1⟩)
    (y1_f : ivs1[2]? = some (.str fi1 tf1))
    (y1_p : ((PySem.Challenge.pw_wheelrace_k09_errors.main.file : Str) == fi1) = true)
    (y1_d : K.lookup d1 = some ⟨itc1, itd1, .cell (some (.ref C1)), its1⟩)
    (x2_a : PySem.W.nsIn K mainGlobals "BadName" = some (some (.ref C2)))
    (x2_hd : PySem.W.hasDictIn K C2 = true)
    (x2_sa : PySem.W.findIn K (.ref C2) "__setattr__" = some (some (.builtin "object.__setattr__")))
    (x2_kp : PySem.W.keepIn K (.ref C2) = true)
    (x2_ga : PySem.W.findIn K (.ref C2) "__getattribute__" = some (some (.builtin "BaseException.__getattribute__")))
    (x2_gg : PySem.W.findIn K (.ref C2) "__getattr__" = some none)
    (x2_sb : PySem.W.subIn K (.ref C2) (.type "BaseException") = some true)
    (x2_ca : PySem.W.findIn K (.ref C2) "__class__" = some (some (.builtin "object.__class__")))
    (x2_mo : PySem.W.mroIn K C2 (.type "object") = some true)
    (x2_ty : PySem.W.typeIn K (.ref C2) = some (.type "type"))
    (x2_kV : PySem.W.kitOne K (.ref C2) (.type "ValueError") = some true)
    (x2_kL : PySem.W.kitOne K (.ref C2) (.type "LookupError") = some false)
    (x2_kR : PySem.W.kitOne K (.ref C2) (.type "RuntimeError") = some false)
    (x2_k0 : PySem.W.kitOne K (.ref C2) (.ref C0) = some true)
    (x2_s0 : PySem.W.subIn K (.ref C2) (.ref C0) = some true)
    (x2_k1 : PySem.W.kitOne K (.ref C2) (.ref C1) = some false)
    (x2_s1 : PySem.W.subIn K (.ref C2) (.ref C1) = some false)
    (x2_k2 : PySem.W.kitOne K (.ref C2) (.ref C2) = some true)
    (x2_s2 : PySem.W.subIn K (.ref C2) (.ref C2) = some true)
    (x2_k3 : PySem.W.kitOne K (.ref C2) (.ref C3) = some false)
    (x2_s3 : PySem.W.subIn K (.ref C2) (.ref C3) = some false)
    (x2_k4 : PySem.W.kitOne K (.ref C2) (.ref C4) = some false)
    (x2_s4 : PySem.W.subIn K (.ref C2) (.ref C4) = some false)
    (x2_k5 : PySem.W.kitOne K (.ref C2) (.ref C5) = some false)
    (x2_s5 : PySem.W.subIn K (.ref C2) (.ref C5) = some false)
    (x2_k6 : PySem.W.kitOne K (.ref C2) (.ref C6) = some false)
    (x2_s6 : PySem.W.subIn K (.ref C2) (.ref C6) = some false)
    (x2_k7 : PySem.W.kitOne K (.ref C2) (.ref C7) = some false)
    (x2_s7 : PySem.W.subIn K (.ref C2) (.ref C7) = some false)
    (x2_k8 : PySem.W.kitOne K (.ref C2) (.ref C8) = some false)
    (x2_s8 : PySem.W.subIn K (.ref C2) (.ref C8) = some false)
    (x2_k9 : PySem.W.kitOne K (.ref C2) (.ref C9) = some false)
    (x2_s9 : PySem.W.subIn K (.ref C2) (.ref C9) = some false)
    (x2_k10 : PySem.W.kitOne K (.ref C2) (.ref C10) = some false)
    (x2_s10 : PySem.W.subIn K (.ref C2) (.ref C10) = some false)
    (x2_n0 : PySem.W.findIn K (.ref C2) "value" = some none)
    (y2_x : K.lookup C2 = some (excClassObj nm2 qn2 C2 N2 bs2 bm2 true sn2 sub2 ab2 col2 dd2 m02 m12 m22 m32 m52 "ValueError.__new__"))
    (y2_bm : PySem.HandSPX.refsVE bm2 = true)
    (y2_i : PySem.W.findIn K (.ref C2) "__init__" = some (some (.ref g2)))
    (y2_t : PySem.W.typeIn K (.ref g2) = some (.type "function"))
    (y2_v : PySem.W.subIn K (.ref C2) (.type "ValueError") = some true)
    (y2_m : PySem.W.mroIn K C2 (.ref C2) = some true)
    (y2_u : PySem.W.ks_superIn K C2 C2 "__init__" = some (some (.builtin "ValueError.__init__")))
    (y2_l : K.lookup g2 = some ⟨ic2, iod2, .func (PySem.W.ksFn "__init__" "BadName.__init__" (defArgs Pk09.t_2) (defBody Pk09.t_2) (defScope Pk09.t_2) .none .none idc2 ipm2 ian2 (.ref h2) ict2 d2), isl2⟩)
    (y2_c : PySem.W.codeIn K (.ref h2) "BadName.__init__" = true)
    (y2_h : K.lookup h2 = some ⟨icl2, ihd2, .fields ivs2, ihs2⟩)
    (y2_f : ivs2[2]? = some (.str fi2 tf2))
    (y2_p : ((PySem.Challenge.pw_wheelrace_k09_errors.main.file : Str) == fi2) = true)
    (y2_d : K.lookup d2 = some ⟨itc2, itd2, .cell (some (.ref C2)), its2⟩)
    (x3_a : PySem.W.nsIn K mainGlobals "BadItem" = some (some (.ref C3)))
    (x3_hd : PySem.W.hasDictIn K C3 = true)
    (x3_sa : PySem.W.findIn K (.ref C3) "__setattr__" = some (some (.builtin "object.__setattr__")))
    (x3_kp : PySem.W.keepIn K (.ref C3) = true)
    (x3_ga : PySem.W.findIn K (.ref C3) "__getattribute__" = some (some (.builtin "BaseException.__getattribute__")))
    (x3_gg : PySem.W.findIn K (.ref C3) "__getattr__" = some none)
    (x3_sb : PySem.W.subIn K (.ref C3) (.type "BaseException") = some true)
    (x3_ca : PySem.W.findIn K (.ref C3) "__class__" = some (some (.builtin "object.__class__")))
    (x3_mo : PySem.W.mroIn K C3 (.type "object") = some true)
    (x3_ty : PySem.W.typeIn K (.ref C3) = some (.type "type"))
    (x3_kV : PySem.W.kitOne K (.ref C3) (.type "ValueError") = some true)
    (x3_kL : PySem.W.kitOne K (.ref C3) (.type "LookupError") = some false)
    (x3_kR : PySem.W.kitOne K (.ref C3) (.type "RuntimeError") = some false)
    (x3_k0 : PySem.W.kitOne K (.ref C3) (.ref C0) = some true)
    (x3_s0 : PySem.W.subIn K (.ref C3) (.ref C0) = some true)
    (x3_k1 : PySem.W.kitOne K (.ref C3) (.ref C1) = some false)
    (x3_s1 : PySem.W.subIn K (.ref C3) (.ref C1) = some false)
    (x3_k2 : PySem.W.kitOne K (.ref C3) (.ref C2) = some false)
    (x3_s2 : PySem.W.subIn K (.ref C3) (.ref C2) = some false)
    (x3_k3 : PySem.W.kitOne K (.ref C3) (.ref C3) = some true)
    (x3_s3 : PySem.W.subIn K (.ref C3) (.ref C3) = some true)
    (x3_k4 : PySem.W.kitOne K (.ref C3) (.ref C4) = some false)
    (x3_s4 : PySem.W.subIn K (.ref C3) (.ref C4) = some false)
    (x3_k5 : PySem.W.kitOne K (.ref C3) (.ref C5) = some false)
    (x3_s5 : PySem.W.subIn K (.ref C3) (.ref C5) = some false)
    (x3_k6 : PySem.W.kitOne K (.ref C3) (.ref C6) = some false)
    (x3_s6 : PySem.W.subIn K (.ref C3) (.ref C6) = some false)
    (x3_k7 : PySem.W.kitOne K (.ref C3) (.ref C7) = some false)
    (x3_s7 : PySem.W.subIn K (.ref C3) (.ref C7) = some false)
    (x3_k8 : PySem.W.kitOne K (.ref C3) (.ref C8) = some false)
    (x3_s8 : PySem.W.subIn K (.ref C3) (.ref C8) = some false)
    (x3_k9 : PySem.W.kitOne K (.ref C3) (.ref C9) = some false)
    (x3_s9 : PySem.W.subIn K (.ref C3) (.ref C9) = some false)
    (x3_k10 : PySem.W.kitOne K (.ref C3) (.ref C10) = some false)
    (x3_s10 : PySem.W.subIn K (.ref C3) (.ref C10) = some false)
    (x3_n1 : PySem.W.findIn K (.ref C3) "index" = some none)
    (y3_x : K.lookup C3 = some (excClassObj nm3 qn3 C3 N3 bs3 bm3 true sn3 sub3 ab3 col3 dd3 m03 m13 m23 m33 m53 "ValueError.__new__"))
    (y3_bm : PySem.HandSPX.refsVE bm3 = true)
    (y3_i : PySem.W.findIn K (.ref C3) "__init__" = some (some (.ref g3)))
    (y3_t : PySem.W.typeIn K (.ref g3) = some (.type "function"))
    (y3_v : PySem.W.subIn K (.ref C3) (.type "ValueError") = some true)
    (y3_m : PySem.W.mroIn K C3 (.ref C3) = some true)
    (y3_u : PySem.W.ks_superIn K C3 C3 "__init__" = some (some (.builtin "ValueError.__init__")))
    (y3_l : K.lookup g3 = some ⟨ic3, iod3, .func (PySem.W.ksFn "__init__" "BadItem.__init__" (defArgs Pk09.t_3) (defBody Pk09.t_3) (defScope Pk09.t_3) .none .none idc3 ipm3 ian3 (.ref h3) ict3 d3), isl3⟩)
    (y3_c : PySem.W.codeIn K (.ref h3) "BadItem.__init__" = true)
    (y3_h : K.lookup h3 = some ⟨icl3, ihd3, .fields ivs3, ihs3⟩)
    (y3_f : ivs3[2]? = some (.str fi3 tf3))
    (y3_p : ((PySem.Challenge.pw_wheelrace_k09_errors.main.file : Str) == fi3) = true)
    (y3_d : K.lookup d3 = some ⟨itc3, itd3, .cell (some (.ref C3)), its3⟩)
    (x4_a : PySem.W.nsIn K mainGlobals "BadEvent" = some (some (.ref C4)))
    (x4_hd : PySem.W.hasDictIn K C4 = true)
    (x4_sa : PySem.W.findIn K (.ref C4) "__setattr__" = some (some (.builtin "object.__setattr__")))
    (x4_kp : PySem.W.keepIn K (.ref C4) = true)
    (x4_ga : PySem.W.findIn K (.ref C4) "__getattribute__" = some (some (.builtin "BaseException.__getattribute__")))
    (x4_gg : PySem.W.findIn K (.ref C4) "__getattr__" = some none)
    (x4_sb : PySem.W.subIn K (.ref C4) (.type "BaseException") = some true)
    (x4_ca : PySem.W.findIn K (.ref C4) "__class__" = some (some (.builtin "object.__class__")))
    (x4_mo : PySem.W.mroIn K C4 (.type "object") = some true)
    (x4_ty : PySem.W.typeIn K (.ref C4) = some (.type "type"))
    (x4_kV : PySem.W.kitOne K (.ref C4) (.type "ValueError") = some true)
    (x4_kL : PySem.W.kitOne K (.ref C4) (.type "LookupError") = some false)
    (x4_kR : PySem.W.kitOne K (.ref C4) (.type "RuntimeError") = some false)
    (x4_k0 : PySem.W.kitOne K (.ref C4) (.ref C0) = some true)
    (x4_s0 : PySem.W.subIn K (.ref C4) (.ref C0) = some true)
    (x4_k1 : PySem.W.kitOne K (.ref C4) (.ref C1) = some false)
    (x4_s1 : PySem.W.subIn K (.ref C4) (.ref C1) = some false)
    (x4_k2 : PySem.W.kitOne K (.ref C4) (.ref C2) = some false)
    (x4_s2 : PySem.W.subIn K (.ref C4) (.ref C2) = some false)
    (x4_k3 : PySem.W.kitOne K (.ref C4) (.ref C3) = some false)
    (x4_s3 : PySem.W.subIn K (.ref C4) (.ref C3) = some false)
    (x4_k4 : PySem.W.kitOne K (.ref C4) (.ref C4) = some true)
    (x4_s4 : PySem.W.subIn K (.ref C4) (.ref C4) = some true)
    (x4_k5 : PySem.W.kitOne K (.ref C4) (.ref C5) = some false)
    (x4_s5 : PySem.W.subIn K (.ref C4) (.ref C5) = some false)
    (x4_k6 : PySem.W.kitOne K (.ref C4) (.ref C6) = some false)
    (x4_s6 : PySem.W.subIn K (.ref C4) (.ref C6) = some false)
    (x4_k7 : PySem.W.kitOne K (.ref C4) (.ref C7) = some false)
    (x4_s7 : PySem.W.subIn K (.ref C4) (.ref C7) = some false)
    (x4_k8 : PySem.W.kitOne K (.ref C4) (.ref C8) = some false)
    (x4_s8 : PySem.W.subIn K (.ref C4) (.ref C8) = some false)
    (x4_k9 : PySem.W.kitOne K (.ref C4) (.ref C9) = some false)
    (x4_s9 : PySem.W.subIn K (.ref C4) (.ref C9) = some false)
    (x4_k10 : PySem.W.kitOne K (.ref C4) (.ref C10) = some false)
    (x4_s10 : PySem.W.subIn K (.ref C4) (.ref C10) = some false)
    (x4_n0 : PySem.W.findIn K (.ref C4) "value" = some none)
    (y4_x : K.lookup C4 = some (excClassObj nm4 qn4 C4 N4 bs4 bm4 true sn4 sub4 ab4 col4 dd4 m04 m14 m24 m34 m54 "ValueError.__new__"))
    (y4_bm : PySem.HandSPX.refsVE bm4 = true)
    (y4_i : PySem.W.findIn K (.ref C4) "__init__" = some (some (.ref g4)))
    (y4_t : PySem.W.typeIn K (.ref g4) = some (.type "function"))
    (y4_v : PySem.W.subIn K (.ref C4) (.type "ValueError") = some true)
    (y4_m : PySem.W.mroIn K C4 (.ref C4) = some true)
    (y4_u : PySem.W.ks_superIn K C4 C4 "__init__" = some (some (.builtin "ValueError.__init__")))
    (y4_l : K.lookup g4 = some ⟨ic4, iod4, .func (PySem.W.ksFn "__init__" "BadEvent.__init__" (defArgs Pk09.t_4) (defBody Pk09.t_4) (defScope Pk09.t_4) .none .none idc4 ipm4 ian4 (.ref h4) ict4 d4), isl4⟩)
    (y4_c : PySem.W.codeIn K (.ref h4) "BadEvent.__init__" = true)
    (y4_h : K.lookup h4 = some ⟨icl4, ihd4, .fields ivs4, ihs4⟩)
    (y4_f : ivs4[2]? = some (.str fi4 tf4))
    (y4_p : ((PySem.Challenge.pw_wheelrace_k09_errors.main.file : Str) == fi4) = true)
    (y4_d : K.lookup d4 = some ⟨itc4, itd4, .cell (some (.ref C4)), its4⟩)
    (x5_a : PySem.W.nsIn K mainGlobals "BadNote" = some (some (.ref C5)))
    (x5_hd : PySem.W.hasDictIn K C5 = true)
    (x5_sa : PySem.W.findIn K (.ref C5) "__setattr__" = some (some (.builtin "object.__setattr__")))
    (x5_kp : PySem.W.keepIn K (.ref C5) = true)
    (x5_ga : PySem.W.findIn K (.ref C5) "__getattribute__" = some (some (.builtin "BaseException.__getattribute__")))
    (x5_gg : PySem.W.findIn K (.ref C5) "__getattr__" = some none)
    (x5_sb : PySem.W.subIn K (.ref C5) (.type "BaseException") = some true)
    (x5_ca : PySem.W.findIn K (.ref C5) "__class__" = some (some (.builtin "object.__class__")))
    (x5_mo : PySem.W.mroIn K C5 (.type "object") = some true)
    (x5_ty : PySem.W.typeIn K (.ref C5) = some (.type "type"))
    (x5_kV : PySem.W.kitOne K (.ref C5) (.type "ValueError") = some true)
    (x5_kL : PySem.W.kitOne K (.ref C5) (.type "LookupError") = some false)
    (x5_kR : PySem.W.kitOne K (.ref C5) (.type "RuntimeError") = some false)
    (x5_k0 : PySem.W.kitOne K (.ref C5) (.ref C0) = some true)
    (x5_s0 : PySem.W.subIn K (.ref C5) (.ref C0) = some true)
    (x5_k1 : PySem.W.kitOne K (.ref C5) (.ref C1) = some false)
    (x5_s1 : PySem.W.subIn K (.ref C5) (.ref C1) = some false)
    (x5_k2 : PySem.W.kitOne K (.ref C5) (.ref C2) = some false)
    (x5_s2 : PySem.W.subIn K (.ref C5) (.ref C2) = some false)
    (x5_k3 : PySem.W.kitOne K (.ref C5) (.ref C3) = some false)
    (x5_s3 : PySem.W.subIn K (.ref C5) (.ref C3) = some false)
    (x5_k4 : PySem.W.kitOne K (.ref C5) (.ref C4) = some false)
    (x5_s4 : PySem.W.subIn K (.ref C5) (.ref C4) = some false)
    (x5_k5 : PySem.W.kitOne K (.ref C5) (.ref C5) = some true)
    (x5_s5 : PySem.W.subIn K (.ref C5) (.ref C5) = some true)
    (x5_k6 : PySem.W.kitOne K (.ref C5) (.ref C6) = some false)
    (x5_s6 : PySem.W.subIn K (.ref C5) (.ref C6) = some false)
    (x5_k7 : PySem.W.kitOne K (.ref C5) (.ref C7) = some false)
    (x5_s7 : PySem.W.subIn K (.ref C5) (.ref C7) = some false)
    (x5_k8 : PySem.W.kitOne K (.ref C5) (.ref C8) = some false)
    (x5_s8 : PySem.W.subIn K (.ref C5) (.ref C8) = some false)
    (x5_k9 : PySem.W.kitOne K (.ref C5) (.ref C9) = some false)
    (x5_s9 : PySem.W.subIn K (.ref C5) (.ref C9) = some false)
    (x5_k10 : PySem.W.kitOne K (.ref C5) (.ref C10) = some false)
    (x5_s10 : PySem.W.subIn K (.ref C5) (.ref C10) = some false)
    (x5_n2 : PySem.W.findIn K (.ref C5) "line" = some none)
    (y5_x : K.lookup C5 = some (excClassObj nm5 qn5 C5 N5 bs5 bm5 true sn5 sub5 ab5 col5 dd5 m05 m15 m25 m35 m55 "ValueError.__new__"))
    (y5_bm : PySem.HandSPX.refsVE bm5 = true)
    (y5_i : PySem.W.findIn K (.ref C5) "__init__" = some (some (.ref g5)))
    (y5_t : PySem.W.typeIn K (.ref g5) = some (.type "function"))
    (y5_v : PySem.W.subIn K (.ref C5) (.type "ValueError") = some true)
    (y5_m : PySem.W.mroIn K C5 (.ref C5) = some true)
    (y5_u : PySem.W.ks_superIn K C5 C5 "__init__" = some (some (.builtin "ValueError.__init__")))
    (y5_l : K.lookup g5 = some ⟨ic5, iod5, .func (PySem.W.ksFn "__init__" "BadNote.__init__" (defArgs Pk09.t_5) (defBody Pk09.t_5) (defScope Pk09.t_5) .none .none idc5 ipm5 ian5 (.ref h5) ict5 d5), isl5⟩)
    (y5_c : PySem.W.codeIn K (.ref h5) "BadNote.__init__" = true)
    (y5_h : K.lookup h5 = some ⟨icl5, ihd5, .fields ivs5, ihs5⟩)
    (y5_f : ivs5[2]? = some (.str fi5 tf5))
    (y5_p : ((PySem.Challenge.pw_wheelrace_k09_errors.main.file : Str) == fi5) = true)
    (y5_d : K.lookup d5 = some ⟨itc5, itd5, .cell (some (.ref C5)), its5⟩)
    (x6_a : PySem.W.nsIn K mainGlobals "TooMany" = some (some (.ref C6)))
    (x6_hd : PySem.W.hasDictIn K C6 = true)
    (x6_sa : PySem.W.findIn K (.ref C6) "__setattr__" = some (some (.builtin "object.__setattr__")))
    (x6_kp : PySem.W.keepIn K (.ref C6) = true)
    (x6_ga : PySem.W.findIn K (.ref C6) "__getattribute__" = some (some (.builtin "BaseException.__getattribute__")))
    (x6_gg : PySem.W.findIn K (.ref C6) "__getattr__" = some none)
    (x6_sb : PySem.W.subIn K (.ref C6) (.type "BaseException") = some true)
    (x6_ca : PySem.W.findIn K (.ref C6) "__class__" = some (some (.builtin "object.__class__")))
    (x6_mo : PySem.W.mroIn K C6 (.type "object") = some true)
    (x6_ty : PySem.W.typeIn K (.ref C6) = some (.type "type"))
    (x6_kV : PySem.W.kitOne K (.ref C6) (.type "ValueError") = some true)
    (x6_kL : PySem.W.kitOne K (.ref C6) (.type "LookupError") = some false)
    (x6_kR : PySem.W.kitOne K (.ref C6) (.type "RuntimeError") = some false)
    (x6_k0 : PySem.W.kitOne K (.ref C6) (.ref C0) = some true)
    (x6_s0 : PySem.W.subIn K (.ref C6) (.ref C0) = some true)
    (x6_k1 : PySem.W.kitOne K (.ref C6) (.ref C1) = some false)
    (x6_s1 : PySem.W.subIn K (.ref C6) (.ref C1) = some false)
    (x6_k2 : PySem.W.kitOne K (.ref C6) (.ref C2) = some false)
    (x6_s2 : PySem.W.subIn K (.ref C6) (.ref C2) = some false)
    (x6_k3 : PySem.W.kitOne K (.ref C6) (.ref C3) = some false)
    (x6_s3 : PySem.W.subIn K (.ref C6) (.ref C3) = some false)
    (x6_k4 : PySem.W.kitOne K (.ref C6) (.ref C4) = some false)
    (x6_s4 : PySem.W.subIn K (.ref C6) (.ref C4) = some false)
    (x6_k5 : PySem.W.kitOne K (.ref C6) (.ref C5) = some false)
    (x6_s5 : PySem.W.subIn K (.ref C6) (.ref C5) = some false)
    (x6_k6 : PySem.W.kitOne K (.ref C6) (.ref C6) = some true)
    (x6_s6 : PySem.W.subIn K (.ref C6) (.ref C6) = some true)
    (x6_k7 : PySem.W.kitOne K (.ref C6) (.ref C7) = some false)
    (x6_s7 : PySem.W.subIn K (.ref C6) (.ref C7) = some false)
    (x6_k8 : PySem.W.kitOne K (.ref C6) (.ref C8) = some false)
    (x6_s8 : PySem.W.subIn K (.ref C6) (.ref C8) = some false)
    (x6_k9 : PySem.W.kitOne K (.ref C6) (.ref C9) = some false)
    (x6_s9 : PySem.W.subIn K (.ref C6) (.ref C9) = some false)
    (x6_k10 : PySem.W.kitOne K (.ref C6) (.ref C10) = some false)
    (x6_s10 : PySem.W.subIn K (.ref C6) (.ref C10) = some false)
    (x6_n3 : PySem.W.findIn K (.ref C6) "limit" = some none)
    (y6_x : K.lookup C6 = some (excClassObj nm6 qn6 C6 N6 bs6 bm6 true sn6 sub6 ab6 col6 dd6 m06 m16 m26 m36 m56 "ValueError.__new__"))
    (y6_bm : PySem.HandSPX.refsVE bm6 = true)
    (y6_i : PySem.W.findIn K (.ref C6) "__init__" = some (some (.ref g6)))
    (y6_t : PySem.W.typeIn K (.ref g6) = some (.type "function"))
    (y6_v : PySem.W.subIn K (.ref C6) (.type "ValueError") = some true)
    (y6_m : PySem.W.mroIn K C6 (.ref C6) = some true)
    (y6_u : PySem.W.ks_superIn K C6 C6 "__init__" = some (some (.builtin "ValueError.__init__")))
    (y6_l : K.lookup g6 = some ⟨ic6, iod6, .func (PySem.W.ksFn "__init__" "TooMany.__init__" (defArgs Pk09.t_6) (defBody Pk09.t_6) (defScope Pk09.t_6) .none .none idc6 ipm6 ian6 (.ref h6) ict6 d6), isl6⟩)
    (y6_c : PySem.W.codeIn K (.ref h6) "TooMany.__init__" = true)
    (y6_h : K.lookup h6 = some ⟨icl6, ihd6, .fields ivs6, ihs6⟩)
    (y6_f : ivs6[2]? = some (.str fi6 tf6))
    (y6_p : ((PySem.Challenge.pw_wheelrace_k09_errors.main.file : Str) == fi6) = true)
    (y6_d : K.lookup d6 = some ⟨itc6, itd6, .cell (some (.ref C6)), its6⟩)
    (x7_a : PySem.W.nsIn K mainGlobals "Unknown" = some (some (.ref C7)))
    (x7_hd : PySem.W.hasDictIn K C7 = true)
    (x7_sa : PySem.W.findIn K (.ref C7) "__setattr__" = some (some (.builtin "object.__setattr__")))
    (x7_kp : PySem.W.keepIn K (.ref C7) = true)
    (x7_ga : PySem.W.findIn K (.ref C7) "__getattribute__" = some (some (.builtin "BaseException.__getattribute__")))
    (x7_gg : PySem.W.findIn K (.ref C7) "__getattr__" = some none)
    (x7_sb : PySem.W.subIn K (.ref C7) (.type "BaseException") = some true)
    (x7_ca : PySem.W.findIn K (.ref C7) "__class__" = some (some (.builtin "object.__class__")))
    (x7_mo : PySem.W.mroIn K C7 (.type "object") = some true)
    (x7_ty : PySem.W.typeIn K (.ref C7) = some (.type "type"))
    (x7_kV : PySem.W.kitOne K (.ref C7) (.type "ValueError") = some true)
    (x7_kL : PySem.W.kitOne K (.ref C7) (.type "LookupError") = some false)
    (x7_kR : PySem.W.kitOne K (.ref C7) (.type "RuntimeError") = some false)
    (x7_k0 : PySem.W.kitOne K (.ref C7) (.ref C0) = some true)
    (x7_s0 : PySem.W.subIn K (.ref C7) (.ref C0) = some true)
    (x7_k1 : PySem.W.kitOne K (.ref C7) (.ref C1) = some false)
    (x7_s1 : PySem.W.subIn K (.ref C7) (.ref C1) = some false)
    (x7_k2 : PySem.W.kitOne K (.ref C7) (.ref C2) = some false)
    (x7_s2 : PySem.W.subIn K (.ref C7) (.ref C2) = some false)
    (x7_k3 : PySem.W.kitOne K (.ref C7) (.ref C3) = some false)
    (x7_s3 : PySem.W.subIn K (.ref C7) (.ref C3) = some false)
    (x7_k4 : PySem.W.kitOne K (.ref C7) (.ref C4) = some false)
    (x7_s4 : PySem.W.subIn K (.ref C7) (.ref C4) = some false)
    (x7_k5 : PySem.W.kitOne K (.ref C7) (.ref C5) = some false)
    (x7_s5 : PySem.W.subIn K (.ref C7) (.ref C5) = some false)
    (x7_k6 : PySem.W.kitOne K (.ref C7) (.ref C6) = some false)
    (x7_s6 : PySem.W.subIn K (.ref C7) (.ref C6) = some false)
    (x7_k7 : PySem.W.kitOne K (.ref C7) (.ref C7) = some true)
    (x7_s7 : PySem.W.subIn K (.ref C7) (.ref C7) = some true)
    (x7_k8 : PySem.W.kitOne K (.ref C7) (.ref C8) = some false)
    (x7_s8 : PySem.W.subIn K (.ref C7) (.ref C8) = some false)
    (x7_k9 : PySem.W.kitOne K (.ref C7) (.ref C9) = some false)
    (x7_s9 : PySem.W.subIn K (.ref C7) (.ref C9) = some false)
    (x7_k10 : PySem.W.kitOne K (.ref C7) (.ref C10) = some false)
    (x7_s10 : PySem.W.subIn K (.ref C7) (.ref C10) = some false)
    (x7_n0 : PySem.W.findIn K (.ref C7) "value" = some none)
    (y7_x : K.lookup C7 = some (excClassObj nm7 qn7 C7 N7 bs7 bm7 true sn7 sub7 ab7 col7 dd7 m07 m17 m27 m37 m57 "ValueError.__new__"))
    (y7_bm : PySem.HandSPX.refsVE bm7 = true)
    (y7_i : PySem.W.findIn K (.ref C7) "__init__" = some (some (.ref g7)))
    (y7_t : PySem.W.typeIn K (.ref g7) = some (.type "function"))
    (y7_v : PySem.W.subIn K (.ref C7) (.type "ValueError") = some true)
    (y7_m : PySem.W.mroIn K C7 (.ref C7) = some true)
    (y7_u : PySem.W.ks_superIn K C7 C7 "__init__" = some (some (.builtin "ValueError.__init__")))
    (y7_l : K.lookup g7 = some ⟨ic7, iod7, .func (PySem.W.ksFn "__init__" "Unknown.__init__" (defArgs Pk09.t_7) (defBody Pk09.t_7) (defScope Pk09.t_7) .none .none idc7 ipm7 ian7 (.ref h7) ict7 d7), isl7⟩)
    (y7_c : PySem.W.codeIn K (.ref h7) "Unknown.__init__" = true)
    (y7_h : K.lookup h7 = some ⟨icl7, ihd7, .fields ivs7, ihs7⟩)
    (y7_f : ivs7[2]? = some (.str fi7 tf7))
    (y7_p : ((PySem.Challenge.pw_wheelrace_k09_errors.main.file : Str) == fi7) = true)
    (y7_d : K.lookup d7 = some ⟨itc7, itd7, .cell (some (.ref C7)), its7⟩)
    (x8_a : PySem.W.nsIn K mainGlobals "Taken" = some (some (.ref C8)))
    (x8_hd : PySem.W.hasDictIn K C8 = true)
    (x8_sa : PySem.W.findIn K (.ref C8) "__setattr__" = some (some (.builtin "object.__setattr__")))
    (x8_kp : PySem.W.keepIn K (.ref C8) = true)
    (x8_ga : PySem.W.findIn K (.ref C8) "__getattribute__" = some (some (.builtin "BaseException.__getattribute__")))
    (x8_gg : PySem.W.findIn K (.ref C8) "__getattr__" = some none)
    (x8_sb : PySem.W.subIn K (.ref C8) (.type "BaseException") = some true)
    (x8_ca : PySem.W.findIn K (.ref C8) "__class__" = some (some (.builtin "object.__class__")))
    (x8_mo : PySem.W.mroIn K C8 (.type "object") = some true)
    (x8_ty : PySem.W.typeIn K (.ref C8) = some (.type "type"))
    (x8_kV : PySem.W.kitOne K (.ref C8) (.type "ValueError") = some true)
    (x8_kL : PySem.W.kitOne K (.ref C8) (.type "LookupError") = some false)
    (x8_kR : PySem.W.kitOne K (.ref C8) (.type "RuntimeError") = some false)
    (x8_k0 : PySem.W.kitOne K (.ref C8) (.ref C0) = some true)
    (x8_s0 : PySem.W.subIn K (.ref C8) (.ref C0) = some true)
    (x8_k1 : PySem.W.kitOne K (.ref C8) (.ref C1) = some false)
    (x8_s1 : PySem.W.subIn K (.ref C8) (.ref C1) = some false)
    (x8_k2 : PySem.W.kitOne K (.ref C8) (.ref C2) = some false)
    (x8_s2 : PySem.W.subIn K (.ref C8) (.ref C2) = some false)
    (x8_k3 : PySem.W.kitOne K (.ref C8) (.ref C3) = some false)
    (x8_s3 : PySem.W.subIn K (.ref C8) (.ref C3) = some false)
    (x8_k4 : PySem.W.kitOne K (.ref C8) (.ref C4) = some false)
    (x8_s4 : PySem.W.subIn K (.ref C8) (.ref C4) = some false)
    (x8_k5 : PySem.W.kitOne K (.ref C8) (.ref C5) = some false)
    (x8_s5 : PySem.W.subIn K (.ref C8) (.ref C5) = some false)
    (x8_k6 : PySem.W.kitOne K (.ref C8) (.ref C6) = some false)
    (x8_s6 : PySem.W.subIn K (.ref C8) (.ref C6) = some false)
    (x8_k7 : PySem.W.kitOne K (.ref C8) (.ref C7) = some false)
    (x8_s7 : PySem.W.subIn K (.ref C8) (.ref C7) = some false)
    (x8_k8 : PySem.W.kitOne K (.ref C8) (.ref C8) = some true)
    (x8_s8 : PySem.W.subIn K (.ref C8) (.ref C8) = some true)
    (x8_k9 : PySem.W.kitOne K (.ref C8) (.ref C9) = some false)
    (x8_s9 : PySem.W.subIn K (.ref C8) (.ref C9) = some false)
    (x8_k10 : PySem.W.kitOne K (.ref C8) (.ref C10) = some false)
    (x8_s10 : PySem.W.subIn K (.ref C8) (.ref C10) = some false)
    (x8_n0 : PySem.W.findIn K (.ref C8) "value" = some none)
    (y8_x : K.lookup C8 = some (excClassObj nm8 qn8 C8 N8 bs8 bm8 true sn8 sub8 ab8 col8 dd8 m08 m18 m28 m38 m58 "ValueError.__new__"))
    (y8_bm : PySem.HandSPX.refsVE bm8 = true)
    (y8_i : PySem.W.findIn K (.ref C8) "__init__" = some (some (.ref g8)))
    (y8_t : PySem.W.typeIn K (.ref g8) = some (.type "function"))
    (y8_v : PySem.W.subIn K (.ref C8) (.type "ValueError") = some true)
    (y8_m : PySem.W.mroIn K C8 (.ref C8) = some true)
    (y8_u : PySem.W.ks_superIn K C8 C8 "__init__" = some (some (.builtin "ValueError.__init__")))
    (y8_l : K.lookup g8 = some ⟨ic8, iod8, .func (PySem.W.ksFn "__init__" "Taken.__init__" (defArgs Pk09.t_8) (defBody Pk09.t_8) (defScope Pk09.t_8) .none .none idc8 ipm8 ian8 (.ref h8) ict8 d8), isl8⟩)
    (y8_c : PySem.W.codeIn K (.ref h8) "Taken.__init__" = true)
    (y8_h : K.lookup h8 = some ⟨icl8, ihd8, .fields ivs8, ihs8⟩)
    (y8_f : ivs8[2]? = some (.str fi8 tf8))
    (y8_p : ((PySem.Challenge.pw_wheelrace_k09_errors.main.file : Str) == fi8) = true)
    (y8_d : K.lookup d8 = some ⟨itc8, itd8, .cell (some (.ref C8)), its8⟩)
    (x9_a : PySem.W.nsIn K mainGlobals "Refused" = some (some (.ref C9)))
    (x9_hd : PySem.W.hasDictIn K C9 = true)
    (x9_sa : PySem.W.findIn K (.ref C9) "__setattr__" = some (some (.builtin "object.__setattr__")))
    (x9_kp : PySem.W.keepIn K (.ref C9) = true)
    (x9_ga : PySem.W.findIn K (.ref C9) "__getattribute__" = some (some (.builtin "BaseException.__getattribute__")))
    (x9_gg : PySem.W.findIn K (.ref C9) "__getattr__" = some none)
    (x9_sb : PySem.W.subIn K (.ref C9) (.type "BaseException") = some true)
    (x9_ca : PySem.W.findIn K (.ref C9) "__class__" = some (some (.builtin "object.__class__")))
    (x9_mo : PySem.W.mroIn K C9 (.type "object") = some true)
    (x9_ty : PySem.W.typeIn K (.ref C9) = some (.type "type"))
    (x9_kV : PySem.W.kitOne K (.ref C9) (.type "ValueError") = some true)
    (x9_kL : PySem.W.kitOne K (.ref C9) (.type "LookupError") = some false)
    (x9_kR : PySem.W.kitOne K (.ref C9) (.type "RuntimeError") = some false)
    (x9_k0 : PySem.W.kitOne K (.ref C9) (.ref C0) = some true)
    (x9_s0 : PySem.W.subIn K (.ref C9) (.ref C0) = some true)
    (x9_k1 : PySem.W.kitOne K (.ref C9) (.ref C1) = some false)
    (x9_s1 : PySem.W.subIn K (.ref C9) (.ref C1) = some false)
    (x9_k2 : PySem.W.kitOne K (.ref C9) (.ref C2) = some false)
    (x9_s2 : PySem.W.subIn K (.ref C9) (.ref C2) = some false)
    (x9_k3 : PySem.W.kitOne K (.ref C9) (.ref C3) = some false)
    (x9_s3 : PySem.W.subIn K (.ref C9) (.ref C3) = some false)
    (x9_k4 : PySem.W.kitOne K (.ref C9) (.ref C4) = some false)
    (x9_s4 : PySem.W.subIn K (.ref C9) (.ref C4) = some false)
    (x9_k5 : PySem.W.kitOne K (.ref C9) (.ref C5) = some false)
    (x9_s5 : PySem.W.subIn K (.ref C9) (.ref C5) = some false)
    (x9_k6 : PySem.W.kitOne K (.ref C9) (.ref C6) = some false)
    (x9_s6 : PySem.W.subIn K (.ref C9) (.ref C6) = some false)
    (x9_k7 : PySem.W.kitOne K (.ref C9) (.ref C7) = some false)
    (x9_s7 : PySem.W.subIn K (.ref C9) (.ref C7) = some false)
    (x9_k8 : PySem.W.kitOne K (.ref C9) (.ref C8) = some false)
    (x9_s8 : PySem.W.subIn K (.ref C9) (.ref C8) = some false)
    (x9_k9 : PySem.W.kitOne K (.ref C9) (.ref C9) = some true)
    (x9_s9 : PySem.W.subIn K (.ref C9) (.ref C9) = some true)
    (x9_k10 : PySem.W.kitOne K (.ref C9) (.ref C10) = some false)
    (x9_s10 : PySem.W.subIn K (.ref C9) (.ref C10) = some false)
    (x9_n4 : PySem.W.findIn K (.ref C9) "reason" = some none)
    (x9_n5 : PySem.W.findIn K (.ref C9) "names" = some none)
    (y9_x : K.lookup C9 = some (excClassObj nm9 qn9 C9 N9 bs9 bm9 true sn9 sub9 ab9 col9 dd9 m09 m19 m29 m39 m59 "ValueError.__new__"))
    (y9_bm : PySem.HandSPX.refsVE bm9 = true)
    (y9_i : PySem.W.findIn K (.ref C9) "__init__" = some (some (.ref g9)))
    (y9_t : PySem.W.typeIn K (.ref g9) = some (.type "function"))
    (y9_v : PySem.W.subIn K (.ref C9) (.type "ValueError") = some true)
    (y9_m : PySem.W.mroIn K C9 (.ref C9) = some true)
    (y9_u : PySem.W.ks_superIn K C9 C9 "__init__" = some (some (.builtin "ValueError.__init__")))
    (y9_l : K.lookup g9 = some ⟨ic9, iod9, .func (PySem.W.ksFn "__init__" "Refused.__init__" (defArgs Pk09.t_9) (defBody Pk09.t_9) (defScope Pk09.t_9) .none .none idc9 ipm9 ian9 (.ref h9) ict9 d9), isl9⟩)
    (y9_c : PySem.W.codeIn K (.ref h9) "Refused.__init__" = true)
    (y9_h : K.lookup h9 = some ⟨icl9, ihd9, .fields ivs9, ihs9⟩)
    (y9_f : ivs9[2]? = some (.str fi9 tf9))
    (y9_p : ((PySem.Challenge.pw_wheelrace_k09_errors.main.file : Str) == fi9) = true)
    (y9_d : K.lookup d9 = some ⟨itc9, itd9, .cell (some (.ref C9)), its9⟩)
    (x10_a : PySem.W.nsIn K mainGlobals "NothingToUndo" = some (some (.ref C10)))
    (x10_hd : PySem.W.hasDictIn K C10 = true)
    (x10_sa : PySem.W.findIn K (.ref C10) "__setattr__" = some (some (.builtin "object.__setattr__")))
    (x10_kp : PySem.W.keepIn K (.ref C10) = true)
    (x10_ga : PySem.W.findIn K (.ref C10) "__getattribute__" = some (some (.builtin "BaseException.__getattribute__")))
    (x10_gg : PySem.W.findIn K (.ref C10) "__getattr__" = some none)
    (x10_sb : PySem.W.subIn K (.ref C10) (.type "BaseException") = some true)
    (x10_ca : PySem.W.findIn K (.ref C10) "__class__" = some (some (.builtin "object.__class__")))
    (x10_mo : PySem.W.mroIn K C10 (.type "object") = some true)
    (x10_ty : PySem.W.typeIn K (.ref C10) = some (.type "type"))
    (x10_kV : PySem.W.kitOne K (.ref C10) (.type "ValueError") = some true)
    (x10_kL : PySem.W.kitOne K (.ref C10) (.type "LookupError") = some false)
    (x10_kR : PySem.W.kitOne K (.ref C10) (.type "RuntimeError") = some false)
    (x10_k0 : PySem.W.kitOne K (.ref C10) (.ref C0) = some true)
    (x10_s0 : PySem.W.subIn K (.ref C10) (.ref C0) = some true)
    (x10_k1 : PySem.W.kitOne K (.ref C10) (.ref C1) = some false)
    (x10_s1 : PySem.W.subIn K (.ref C10) (.ref C1) = some false)
    (x10_k2 : PySem.W.kitOne K (.ref C10) (.ref C2) = some false)
    (x10_s2 : PySem.W.subIn K (.ref C10) (.ref C2) = some false)
    (x10_k3 : PySem.W.kitOne K (.ref C10) (.ref C3) = some false)
    (x10_s3 : PySem.W.subIn K (.ref C10) (.ref C3) = some false)
    (x10_k4 : PySem.W.kitOne K (.ref C10) (.ref C4) = some false)
    (x10_s4 : PySem.W.subIn K (.ref C10) (.ref C4) = some false)
    (x10_k5 : PySem.W.kitOne K (.ref C10) (.ref C5) = some false)
    (x10_s5 : PySem.W.subIn K (.ref C10) (.ref C5) = some false)
    (x10_k6 : PySem.W.kitOne K (.ref C10) (.ref C6) = some false)
    (x10_s6 : PySem.W.subIn K (.ref C10) (.ref C6) = some false)
    (x10_k7 : PySem.W.kitOne K (.ref C10) (.ref C7) = some false)
    (x10_s7 : PySem.W.subIn K (.ref C10) (.ref C7) = some false)
    (x10_k8 : PySem.W.kitOne K (.ref C10) (.ref C8) = some false)
    (x10_s8 : PySem.W.subIn K (.ref C10) (.ref C8) = some false)
    (x10_k9 : PySem.W.kitOne K (.ref C10) (.ref C9) = some false)
    (x10_s9 : PySem.W.subIn K (.ref C10) (.ref C9) = some false)
    (x10_k10 : PySem.W.kitOne K (.ref C10) (.ref C10) = some true)
    (x10_s10 : PySem.W.subIn K (.ref C10) (.ref C10) = some true)
    (x10_ex : PySem.W.excIn K C10 [.type "ValueError", .type "Exception", .type "BaseException", .type "object"] "ValueError.__new__" = true) :
    ∃ (fd : FuncData) (sp : Sp), (∀ (s : Shared) (v : Value), BindsTo s fd ⟨[v], []⟩ [("script", v)]) ∧ (∀ base : Heap, K.In base → base.Ns mainGlobals mg → FnG P w K mg base (L2N.CX P w) 12 fa fd ["script"] sp) ∧
      ∀ (H : Hp) (a : Addr) (ns : List Int), ns.length ≤ 63 → Only H → SqL K H a (ns.map V.int) → sp [.ref a] H (fun v _ => v = .bl true) fun _ _ _ => False := by
  subst hP
  have e := (PySem.W.mg_of X G a4).symm.trans hfa
  injection e with e
  injection e with e
  subst e
  have si1 : PySem.MpX.SiT PySem.Challenge.pw_wheelrace_k09_errors K C1 g1 ["value"] :=
    { cls := ⟨_, _, _, _, _, _, _, _, _, _, _, _, _, _, _, y1_x, y1_bm⟩, sa := x1_sa, iC := y1_i, tC := y1_t, kC := x1_kp, exC := x1_sb, vE := y1_v, sC := y1_m, tyC := x1_ty, sup := y1_u, op := op, ne := (fun z => nomatch z), nd := by decide +kernel, ln := by decide,
      nm := fun n hn => by
        simp only [List.mem_cons, List.not_mem_nil, or_false] at hn
        rcases hn with rfl
        · exact ⟨by decide +kernel, x1_n0⟩
      fn := ⟨_, _, _, _, _, _, _, _, _, _, _, _, _, _, _, _, _, _, _, _, _, _, _, y1_l, y1_c, by decide +kernel, fun us hl => match us, hl with | [_, _], _ => rfl, fun x us hl => match us, hl with | [_], _ => ⟨rfl, rfl⟩, ⟨rfl, rfl, rfl, by decide +kernel⟩, by decide +kernel, by decide +kernel, by decide +kernel, rfl, rfl, y1_h, y1_f, y1_p, y1_d, by decide +kernel⟩ }
  have si2 : PySem.MpX.SiT PySem.Challenge.pw_wheelrace_k09_errors K C2 g2 ["value"] :=
    { cls := ⟨_, _, _, _, _, _, _, _, _, _, _, _, _, _, _, y2_x, y2_bm⟩, sa := x2_sa, iC := y2_i, tC := y2_t, kC := x2_kp, exC := x2_sb, vE := y2_v, sC := y2_m, tyC := x2_ty, sup := y2_u, op := op, ne := (fun z => nomatch z), nd := by decide +kernel, ln := by decide,
      nm := fun n hn => by
        simp only [List.mem_cons, List.not_mem_nil, or_false] at hn
        rcases hn with rfl
        · exact ⟨by decide +kernel, x2_n0⟩
      fn := ⟨_, _, _, _, _, _, _, _, _, _, _, _, _, _, _, _, _, _, _, _, _, _, _, y2_l, y2_c, by decide +kernel, fun us hl => match us, hl with | [_, _], _ => rfl, fun x us hl => match us, hl with | [_], _ => ⟨rfl, rfl⟩, ⟨rfl, rfl, rfl, by decide +kernel⟩, by decide +kernel, by decide +kernel, by decide +kernel, rfl, rfl, y2_h, y2_f, y2_p, y2_d, by decide +kernel⟩ }
  have si3 : PySem.MpX.SiT PySem.Challenge.pw_wheelrace_k09_errors K C3 g3 ["index"] :=
    { cls := ⟨_, _, _, _, _, _, _, _, _, _, _, _, _, _, _, y3_x, y3_bm⟩, sa := x3_sa, iC := y3_i, tC := y3_t, kC := x3_kp, exC := x3_sb, vE := y3_v, sC := y3_m, tyC := x3_ty, sup := y3_u, op := op, ne := (fun z => nomatch z), nd := by decide +kernel, ln := by decide,
      nm := fun n hn => by
        simp only [List.mem_cons, List.not_mem_nil, or_false] at hn
        rcases hn with rfl
        · exact ⟨by decide +kernel, x3_n1⟩
      fn := ⟨_, _, _, _, _, _, _, _, _, _, _, _, _, _, _, _, _, _, _, _, _, _, _, y3_l, y3_c, by decide +kernel, fun us hl => match us, hl with | [_, _], _ => rfl, fun x us hl => match us, hl with | [_], _ => ⟨rfl, rfl⟩, ⟨rfl, rfl, rfl, by decide +kernel⟩, by decide +kernel, by decide +kernel, by decide +kernel, rfl, rfl, y3_h, y3_f, y3_p, y3_d, by decide +kernel⟩ }
  have si4 : PySem.MpX.SiT PySem.Challenge.pw_wheelrace_k09_errors K C4 g4 ["value"] :=
    { cls := ⟨_, _, _, _, _, _, _, _, _, _, _, _, _, _, _, y4_x, y4_bm⟩, sa := x4_sa, iC := y4_i, tC := y4_t, kC := x4_kp, exC := x4_sb, vE := y4_v, sC := y4_m, tyC := x4_ty, sup := y4_u, op := op, ne := (fun z => nomatch z), nd := by decide +kernel, ln := by decide,
      nm := fun n hn => by
        simp only [List.mem_cons, List.not_mem_nil, or_false] at hn
        rcases hn with rfl
        · exact ⟨by decide +kernel, x4_n0⟩
      fn := ⟨_, _, _, _, _, _, _, _, _, _, _, _, _, _, _, _, _, _, _, _, _, _, _, y4_l, y4_c, by decide +kernel, fun us hl => match us, hl with | [_, _], _ => rfl, fun x us hl => match us, hl with | [_], _ => ⟨rfl, rfl⟩, ⟨rfl, rfl, rfl, by decide +kernel⟩, by decide +kernel, by decide +kernel, by decide +kernel, rfl, rfl, y4_h, y4_f, y4_p, y4_d, by decide +kernel⟩ }
  have si5 : PySem.MpX.SiT PySem.Challenge.pw_wheelrace_k09_errors K C5 g5 ["line"] :=
    { cls := ⟨_, _, _, _, _, _, _, _, _, _, _, _, _, _, _, y5_x, y5_bm⟩, sa := x5_sa, iC := y5_i, tC := y5_t, kC := x5_kp, exC := x5_sb, vE := y5_v, sC := y5_m, tyC := x5_ty, sup := y5_u, op := op, ne := (fun z => nomatch z), nd := by decide +kernel, ln := by decide,
      nm := fun n hn => by
        simp only [List.mem_cons, List.not_mem_nil, or_false] at hn
        rcases hn with rfl
        · exact ⟨by decide +kernel, x5_n2⟩
      fn := ⟨_, _, _, _, _, _, _, _, _, _, _, _, _, _, _, _, _, _, _, _, _, _, _, y5_l, y5_c, by decide +kernel, fun us hl => match us, hl with | [_, _], _ => rfl, fun x us hl => match us, hl with | [_], _ => ⟨rfl, rfl⟩, ⟨rfl, rfl, rfl, by decide +kernel⟩, by decide +kernel, by decide +kernel, by decide +kernel, rfl, rfl, y5_h, y5_f, y5_p, y5_d, by decide +kernel⟩ }
  have si6 : PySem.MpX.SiT PySem.Challenge.pw_wheelrace_k09_errors K C6 g6 ["limit"] :=
    { cls := ⟨_, _, _, _, _, _, _, _, _, _, _, _, _, _, _, y6_x, y6_bm⟩, sa := x6_sa, iC := y6_i, tC := y6_t, kC := x6_kp, exC := x6_sb, vE := y6_v, sC := y6_m, tyC := x6_ty, sup := y6_u, op := op, ne := (fun z => nomatch z), nd := by decide +kernel, ln := by decide,
      nm := fun n hn => by
        simp only [List.mem_cons, List.not_mem_nil, or_false] at hn
        rcases hn with rfl
        · exact ⟨by decide +kernel, x6_n3⟩
      fn := ⟨_, _, _, _, _, _, _, _, _, _, _, _, _, _, _, _, _, _, _, _, _, _, _, y6_l, y6_c, by decide +kernel, fun us hl => match us, hl with | [_, _], _ => rfl, fun x us hl => match us, hl with | [_], _ => ⟨rfl, rfl⟩, ⟨rfl, rfl, rfl, by decide +kernel⟩, by decide +kernel, by decide +kernel, by decide +kernel, rfl, rfl, y6_h, y6_f, y6_p, y6_d, by decide +kernel⟩ }
  have si7 : PySem.MpX.SiT PySem.Challenge.pw_wheelrace_k09_errors K C7 g7 ["value"] :=
    { cls := ⟨_, _, _, _, _, _, _, _, _, _, _, _, _, _, _, y7_x, y7_bm⟩, sa := x7_sa, iC := y7_i, tC := y7_t, kC := x7_kp, exC := x7_sb, vE := y7_v, sC := y7_m, tyC := x7_ty, sup := y7_u, op := op, ne := (fun z => nomatch z), nd := by decide +kernel, ln := by decide,
      nm := fun n hn => by
        simp only [List.mem_cons, List.not_mem_nil, or_false] at hn
        rcases hn with rfl
        · exact ⟨by decide +kernel, x7_n0⟩
      fn := ⟨_, _, _, _, _, _, _, _, _, _, _, _, _, _, _, _, _, _, _, _, _, _, _, y7_l, y7_c, by decide +kernel, fun us hl => match us, hl with | [_, _], _ => rfl, fun x us hl => match us, hl with | [_], _ => ⟨rfl, rfl⟩, ⟨rfl, rfl, rfl, by decide +kernel⟩, by decide +kernel, by decide +kernel, by decide +kernel, rfl, rfl, y7_h, y7_f, y7_p, y7_d, by decide +kernel⟩ }
  have si8 : PySem.MpX.SiT PySem.Challenge.pw_wheelrace_k09_errors K C8 g8 ["value"] :=
    { cls := ⟨_, _, _, _, _, _, _, _, _, _, _, _, _, _, _, y8_x, y8_bm⟩, sa := x8_sa, iC := y8_i, tC := y8_t, kC := x8_kp, exC := x8_sb, vE := y8_v, sC := y8_m, tyC := x8_ty, sup := y8_u, op := op, ne := (fun z => nomatch z), nd := by decide +kernel, ln := by decide,
      nm := fun n hn => by
        simp only [List.mem_cons, List.not_mem_nil, or_false] at hn
        rcases hn with rfl
        · exact ⟨by decide +kernel, x8_n0⟩
      fn := ⟨_, _, _, _, _, _, _, _, _, _, _, _, _, _, _, _, _, _, _, _, _, _, _, y8_l, y8_c, by decide +kernel, fun us hl => match us, hl with | [_, _], _ => rfl, fun x us hl => match us, hl with | [_], _ => ⟨rfl, rfl⟩, ⟨rfl, rfl, rfl, by decide +kernel⟩, by decide +kernel, by decide +kernel, by decide +kernel, rfl, rfl, y8_h, y8_f, y8_p, y8_d, by decide +kernel⟩ }
  have si9 : PySem.MpX.SiT PySem.Challenge.pw_wheelrace_k09_errors K C9 g9 ["reason", "names"] :=
    { cls := ⟨_, _, _, _, _, _, _, _, _, _, _, _, _, _, _, y9_x, y9_bm⟩, sa := x9_sa, iC := y9_i, tC := y9_t, kC := x9_kp, exC := x9_sb, vE := y9_v, sC := y9_m, tyC := x9_ty, sup := y9_u, op := op, ne := (fun z => nomatch z), nd := by decide +kernel, ln := by decide,
      nm := fun n hn => by
        simp only [List.mem_cons, List.not_mem_nil, or_false] at hn
        rcases hn with rfl | rfl
        · exact ⟨by decide +kernel, x9_n4⟩
        · exact ⟨by decide +kernel, x9_n5⟩
      fn := ⟨_, _, _, _, _, _, _, _, _, _, _, _, _, _, _, _, _, _, _, _, _, _, _, y9_l, y9_c, by decide +kernel, fun us hl => match us, hl with | [_, _, _], _ => rfl, fun x us hl => match us, hl with | [_, _], _ => ⟨rfl, rfl⟩, ⟨rfl, rfl, rfl, by decide +kernel⟩, by decide +kernel, by decide +kernel, by decide +kernel, rfl, rfl, y9_h, y9_f, y9_p, y9_d, by decide +kernel⟩ }
  have T : LawTx PySem.Challenge.pw_wheelrace_k09_errors w K mg (LK K [f0, f1, f2, f3, f4] [C0, C1, C2, C3, C4, C5, C6, C7, C8, C9, C10]) Pk09.prog Pk09.nms :=
    { KL := rfl
      blt := fun x hx => by
        simp only [bltN, List.mem_cons, List.not_mem_nil, or_false] at hx
        rcases hx with rfl | rfl | rfl | rfl | rfl | rfl | rfl | rfl | rfl | rfl | rfl | rfl | rfl | rfl | rfl | rfl | rfl | rfl | rfl | rfl | rfl | rfl | rfl
        · exact PySem.W.mg_none_of X G z_len
        · exact PySem.W.mg_none_of X G z_abs
        · exact PySem.W.mg_none_of X G z_int
        · exact PySem.W.mg_none_of X G z_tuple
        · exact PySem.W.mg_none_of X G z_min
        · exact PySem.W.mg_none_of X G z_max
        · exact PySem.W.mg_none_of X G z_sum
        · exact PySem.W.mg_none_of X G z_any
        · exact PySem.W.mg_none_of X G z_all
        · exact PySem.W.mg_none_of X G z_isinstance
        · exact PySem.W.mg_none_of X G z_list
        · exact PySem.W.mg_none_of X G z_range
        · exact PySem.W.mg_none_of X G z_repr
        · exact PySem.W.mg_none_of X G z_bool
        · exact PySem.W.mg_none_of X G z_str
        · exact PySem.W.mg_none_of X G z_dict
        · exact PySem.W.mg_none_of X G z_sorted
        · exact PySem.W.mg_none_of X G z_set
        · exact PySem.W.mg_none_of X G z_enumerate
        · exact PySem.W.mg_none_of X G z_zip
        · exact PySem.W.mg_none_of X G z_ValueError
        · exact PySem.W.mg_none_of X G z_LookupError
        · exact PySem.W.mg_none_of X G z_RuntimeError
      fng := fun f x hx => by
        match f, hx with
        | 0, hx => cases hx; exact ⟨PySem.W.mg_of X G a0, rfl⟩
        | 1, hx => cases hx; exact ⟨PySem.W.mg_of X G a1, rfl⟩
        | 2, hx => cases hx; exact ⟨PySem.W.mg_of X G a2, rfl⟩
        | 3, hx => cases hx; exact ⟨PySem.W.mg_of X G a3, rfl⟩
        | 4, hx => cases hx; exact ⟨PySem.W.mg_of X G a4, rfl⟩
        | n + 5, hx => cases hx
      fns := fun f fd hx => by
        match f, hx with
        | 0, hx => cases hx; exact ⟨k0, _, _, ftx_mk rfl l0 c0 Pk09.sc__law_taken Pk09.ck__law_taken rfl rfl rfl fun us hl => match us, hl with | [_, _], _ => rfl⟩
        | 1, hx => cases hx; exact ⟨k1, _, _, ftx_mk rfl l1 c1 Pk09.sc__law_pick Pk09.ck__law_pick rfl rfl rfl fun us hl => match us, hl with | [_, _], _ => rfl⟩
        | 2, hx => cases hx; exact ⟨k2, _, _, ftx_mk rfl l2 c2 Pk09.sc__law_alike Pk09.ck__law_alike rfl rfl rfl fun us hl => match us, hl with | [_, _], _ => rfl⟩
        | 3, hx => cases hx; exact ⟨k3, _, _, ftx_mk rfl l3 c3 Pk09.sc__law_raised Pk09.ck__law_raised rfl rfl rfl fun us hl => match us, hl with | [_, _, _], _ => rfl⟩
        | 4, hx => cases hx; exact ⟨k4, _, _, ftx_mk rfl l4 c4 Pk09.sc_law Pk09.ck_law rfl rfl rfl fun us hl => match us, hl with | [_], _ => rfl⟩
        | n + 5, hx => cases hx
      oc := fun n c k h => by
        match c, h with
        | 0, h => cases h
        | 1, h => cases h
        | 2, h => cases h
        | 3, h => cases h
        | 4, h => cases h
        | 5, h => cases h
        | 6, h => cases h
        | 7, h => cases h
        | 8, h => cases h
        | 9, h => cases h
        | 10, h => cases h
        | n + 11, h => cases h
      mt := fun n c m k h => by
        match c, h with
        | 0, h => cases h
        | 1, h => cases h
        | 2, h => cases h
        | 3, h => cases h
        | 4, h => cases h
        | 5, h => cases h
        | 6, h => cases h
        | 7, h => cases h
        | 8, h => cases h
        | 9, h => cases h
        | 10, h => cases h
        | n + 11, h => cases h
      mkc := fun c h => by
        cases h
      cl := fun c x h => by
        match c, h with
        | 0, h => cases h; exact PySem.W.mg_of X G x0_a
        | 1, h => cases h; exact PySem.W.mg_of X G x1_a
        | 2, h => cases h; exact PySem.W.mg_of X G x2_a
        | 3, h => cases h; exact PySem.W.mg_of X G x3_a
        | 4, h => cases h; exact PySem.W.mg_of X G x4_a
        | 5, h => cases h; exact PySem.W.mg_of X G x5_a
        | 6, h => cases h; exact PySem.W.mg_of X G x6_a
        | 7, h => cases h; exact PySem.W.mg_of X G x7_a
        | 8, h => cases h; exact PySem.W.mg_of X G x8_a
        | 9, h => cases h; exact PySem.W.mg_of X G x9_a
        | 10, h => cases h; exact PySem.W.mg_of X G x10_a
        | n + 11, h => cases h
      xk := fun n c h => by
        match c, h with
        | 0, h =>
          refine ⟨⟨x0_ga, x0_gg, x0_sb, x0_hd, x0_ca, sn, tk, x0_mo⟩, ⟨x0_ga, x0_gg, x0_sb, x0_hd⟩, fun k hk => ?_, fun t v b ht e1 e2 => ?_⟩
          · cases hk
          · cases t with
            | verr => cases e1; cases e2; exact x0_kV
            | lerr => cases e1; cases e2; exact x0_kL
            | rerr => cases e1; cases e2; exact x0_kR
            | cls c2 => match c2, ht c2 rfl, e1, e2 with
              | 0, _, e1, e2 => cases e1; cases e2; exact x0_k0
              | 1, _, e1, e2 => cases e1; cases e2; exact x0_k1
              | 2, _, e1, e2 => cases e1; cases e2; exact x0_k2
              | 3, _, e1, e2 => cases e1; cases e2; exact x0_k3
              | 4, _, e1, e2 => cases e1; cases e2; exact x0_k4
              | 5, _, e1, e2 => cases e1; cases e2; exact x0_k5
              | 6, _, e1, e2 => cases e1; cases e2; exact x0_k6
              | 7, _, e1, e2 => cases e1; cases e2; exact x0_k7
              | 8, _, e1, e2 => cases e1; cases e2; exact x0_k8
              | 9, _, e1, e2 => cases e1; cases e2; exact x0_k9
              | 10, _, e1, e2 => cases e1; cases e2; exact x0_k10
              | n + 11, hlt, _, _ => exact absurd hlt (by show ¬ (n + 11 < 11); omega)
            | _ => cases e1
        | 1, h =>
          refine ⟨⟨x1_ga, x1_gg, x1_sb, x1_hd, x1_ca, sn, tk, x1_mo⟩, ⟨x1_ga, x1_gg, x1_sb, x1_hd⟩, fun k hk => ?_, fun t v b ht e1 e2 => ?_⟩
          · have hk : k ∈ [0] := hk
            simp only [List.mem_cons, List.not_mem_nil, or_false] at hk
            rcases hk with rfl
            · exact x1_n0
          · cases t with
            | verr => cases e1; cases e2; exact x1_kV
            | lerr => cases e1; cases e2; exact x1_kL
            | rerr => cases e1; cases e2; exact x1_kR
            | cls c2 => match c2, ht c2 rfl, e1, e2 with
              | 0, _, e1, e2 => cases e1; cases e2; exact x1_k0
              | 1, _, e1, e2 => cases e1; cases e2; exact x1_k1
              | 2, _, e1, e2 => cases e1; cases e2; exact x1_k2
              | 3, _, e1, e2 => cases e1; cases e2; exact x1_k3
              | 4, _, e1, e2 => cases e1; cases e2; exact x1_k4
              | 5, _, e1, e2 => cases e1; cases e2; exact x1_k5
              | 6, _, e1, e2 => cases e1; cases e2; exact x1_k6
              | 7, _, e1, e2 => cases e1; cases e2; exact x1_k7
              | 8, _, e1, e2 => cases e1; cases e2; exact x1_k8
              | 9, _, e1, e2 => cases e1; cases e2; exact x1_k9
              | 10, _, e1, e2 => cases e1; cases e2; exact x1_k10
              | n + 11, hlt, _, _ => exact absurd hlt (by show ¬ (n + 11 < 11); omega)
            | _ => cases e1
        | 2, h =>
          refine ⟨⟨x2_ga, x2_gg, x2_sb, x2_hd, x2_ca, sn, tk, x2_mo⟩, ⟨x2_ga, x2_gg, x2_sb, x2_hd⟩, fun k hk => ?_, fun t v b ht e1 e2 => ?_⟩
          · have hk : k ∈ [0] := hk
            simp only [List.mem_cons, List.not_mem_nil, or_false] at hk
            rcases hk with rfl
            · exact x2_n0
          · cases t with
            | verr => cases e1; cases e2; exact x2_kV
            | lerr => cases e1; cases e2; exact x2_kL
            | rerr => cases e1; cases e2; exact x2_kR
            | cls c2 => match c2, ht c2 rfl, e1, e2 with
              | 0, _, e1, e2 => cases e1; cases e2; exact x2_k0
              | 1, _, e1, e2 => cases e1; cases e2; exact x2_k1
              | 2, _, e1, e2 => cases e1; cases e2; exact x2_k2
              | 3, _, e1, e2 => cases e1; cases e2; exact x2_k3
              | 4, _, e1, e2 => cases e1; cases e2; exact x2_k4
              | 5, _, e1, e2 => cases e1; cases e2; exact x2_k5
              | 6, _, e1, e2 => cases e1; cases e2; exact x2_k6
              | 7, _, e1, e2 => cases e1; cases e2; exact x2_k7
              | 8, _, e1, e2 => cases e1; cases e2; exact x2_k8
              | 9, _, e1, e2 => cases e1; cases e2; exact x2_k9
              | 10, _, e1, e2 => cases e1; cases e2; exact x2_k10
              | n + 11, hlt, _, _ => exact absurd hlt (by show ¬ (n + 11 < 11); omega)
            | _ => cases e1
        | 3, h =>
          refine ⟨⟨x3_ga, x3_gg, x3_sb, x3_hd, x3_ca, sn, tk, x3_mo⟩, ⟨x3_ga, x3_gg, x3_sb, x3_hd⟩, fun k hk => ?_, fun t v b ht e1 e2 => ?_⟩
          · have hk : k ∈ [1] := hk
            simp only [List.mem_cons, List.not_mem_nil, or_false] at hk
            rcases hk with rfl
            · exact x3_n1
          · cases t with
            | verr => cases e1; cases e2; exact x3_kV
            | lerr => cases e1; cases e2; exact x3_kL
            | rerr => cases e1; cases e2; exact x3_kR
            | cls c2 => match c2, ht c2 rfl, e1, e2 with
              | 0, _, e1, e2 => cases e1; cases e2; exact x3_k0
              | 1, _, e1, e2 => cases e1; cases e2; exact x3_k1
              | 2, _, e1, e2 => cases e1; cases e2; exact x3_k2
              | 3, _, e1, e2 => cases e1; cases e2; exact x3_k3
              | 4, _, e1, e2 => cases e1; cases e2; exact x3_k4
              | 5, _, e1, e2 => cases e1; cases e2; exact x3_k5
              | 6, _, e1, e2 => cases e1; cases e2; exact x3_k6
              | 7, _, e1, e2 => cases e1; cases e2; exact x3_k7
              | 8, _, e1, e2 => cases e1; cases e2; exact x3_k8
              | 9, _, e1, e2 => cases e1; cases e2; exact x3_k9
              | 10, _, e1, e2 => cases e1; cases e2; exact x3_k10
              | n + 11, hlt, _, _ => exact absurd hlt (by show ¬ (n + 11 < 11); omega)
            | _ => cases e1
        | 4, h =>
          refine ⟨⟨x4_ga, x4_gg, x4_sb, x4_hd, x4_ca, sn, tk, x4_mo⟩, ⟨x4_ga, x4_gg, x4_sb, x4_hd⟩, fun k hk => ?_, fun t v b ht e1 e2 => ?_⟩
          · have hk : k ∈ [0] := hk
            simp only [List.mem_cons, List.not_mem_nil, or_false] at hk
            rcases hk with rfl
            · exact x4_n0
          · cases t with
            | verr => cases e1; cases e2; exact x4_kV
            | lerr => cases e1; cases e2; exact x4_kL
            | rerr => cases e1; cases e2; exact x4_kR
            | cls c2 => match c2, ht c2 rfl, e1, e2 with
              | 0, _, e1, e2 => cases e1; cases e2; exact x4_k0
              | 1, _, e1, e2 => cases e1; cases e2; exact x4_k1
              | 2, _, e1, e2 => cases e1; cases e2; exact x4_k2
              | 3, _, e1, e2 => cases e1; cases e2; exact x4_k3
              | 4, _, e1, e2 => cases e1; cases e2; exact x4_k4
              | 5, _, e1, e2 => cases e1; cases e2; exact x4_k5
              | 6, _, e1, e2 => cases e1; cases e2; exact x4_k6
              | 7, _, e1, e2 => cases e1; cases e2; exact x4_k7
              | 8, _, e1, e2 => cases e1; cases e2; exact x4_k8
              | 9, _, e1, e2 => cases e1; cases e2; exact x4_k9
              | 10, _, e1, e2 => cases e1; cases e2; exact x4_k10
              | n + 11, hlt, _, _ => exact absurd hlt (by show ¬ (n + 11 < 11); omega)
            | _ => cases e1
        | 5, h =>
          refine ⟨⟨x5_ga, x5_gg, x5_sb, x5_hd, x5_ca, sn, tk, x5_mo⟩, ⟨x5_ga, x5_gg, x5_sb, x5_hd⟩, fun k hk => ?_, fun t v b ht e1 e2 => ?_⟩
          · have hk : k ∈ [2] := hk
            simp only [List.mem_cons, List.not_mem_nil, or_false] at hk
            rcases hk with rfl
            · exact x5_n2
          · cases t with
            | verr => cases e1; cases e2; exact x5_kV
            | lerr => cases e1; cases e2; exact x5_kL
            | rerr => cases e1; cases e2; exact x5_kR
            | cls c2 => match c2, ht c2 rfl, e1, e2 with
              | 0, _, e1, e2 => cases e1; cases e2; exact x5_k0
              | 1, _, e1, e2 => cases e1; cases e2; exact x5_k1
              | 2, _, e1, e2 => cases e1; cases e2; exact x5_k2
              | 3, _, e1, e2 => cases e1; cases e2; exact x5_k3
              | 4, _, e1, e2 => cases e1; cases e2; exact x5_k4
              | 5, _, e1, e2 => cases e1; cases e2; exact x5_k5
              | 6, _, e1, e2 => cases e1; cases e2; exact x5_k6
              | 7, _, e1, e2 => cases e1; cases e2; exact x5_k7
              | 8, _, e1, e2 => cases e1; cases e2; exact x5_k8
              | 9, _, e1, e2 => cases e1; cases e2; exact x5_k9
              | 10, _, e1, e2 => cases e1; cases e2; exact x5_k10
              | n + 11, hlt, _, _ => exact absurd hlt (by show ¬ (n + 11 < 11); omega)
            | _ => cases e1
        | 6, h =>
          refine ⟨⟨x6_ga, x6_gg, x6_sb, x6_hd, x6_ca, sn, tk, x6_mo⟩, ⟨x6_ga, x6_gg, x6_sb, x6_hd⟩, fun k hk => ?_, fun t v b ht e1 e2 => ?_⟩
          · have hk : k ∈ [3] := hk
            simp only [List.mem_cons, List.not_mem_nil, or_false] at hk
            rcases hk with rfl
            · exact x6_n3
          · cases t with
            | verr => cases e1; cases e2; exact x6_kV
            | lerr => cases e1; cases e2; exact x6_kL
            | rerr => cases e1; cases e2; exact x6_kR
            | cls c2 => match c2, ht c2 rfl, e1, e2 with
              | 0, _, e1, e2 => cases e1; cases e2; exact x6_k0
              | 1, _, e1, e2 => cases e1; cases e2; exact x6_k1
              | 2, _, e1, e2 => cases e1; cases e2; exact x6_k2
              | 3, _, e1, e2 => cases e1; cases e2; exact x6_k3
              | 4, _, e1, e2 => cases e1; cases e2; exact x6_k4
              | 5, _, e1, e2 => cases e1; cases e2; exact x6_k5
              | 6, _, e1, e2 => cases e1; cases e2; exact x6_k6
              | 7, _, e1, e2 => cases e1; cases e2; exact x6_k7
              | 8, _, e1, e2 => cases e1; cases e2; exact x6_k8
              | 9, _, e1, e2 => cases e1; cases e2; exact x6_k9
              | 10, _, e1, e2 => cases e1; cases e2; exact x6_k10
              | n + 11, hlt, _, _ => exact absurd hlt (by show ¬ (n + 11 < 11); omega)
            | _ => cases e1
        | 7, h =>
          refine ⟨⟨x7_ga, x7_gg, x7_sb, x7_hd, x7_ca, sn, tk, x7_mo⟩, ⟨x7_ga, x7_gg, x7_sb, x7_hd⟩, fun k hk => ?_, fun t v b ht e1 e2 => ?_⟩
          · have hk : k ∈ [0] := hk
            simp only [List.mem_cons, List.not_mem_nil, or_false] at hk
            rcases hk with rfl
            · exact x7_n0
          · cases t with
            | verr => cases e1; cases e2; exact x7_kV
            | lerr => cases e1; cases e2; exact x7_kL
            | rerr => cases e1; cases e2; exact x7_kR
            | cls c2 => match c2, ht c2 rfl, e1, e2 with
              | 0, _, e1, e2 => cases e1; cases e2; exact x7_k0
              | 1, _, e1, e2 => cases e1; cases e2; exact x7_k1
              | 2, _, e1, e2 => cases e1; cases e2; exact x7_k2
              | 3, _, e1, e2 => cases e1; cases e2; exact x7_k3
              | 4, _, e1, e2 => cases e1; cases e2; exact x7_k4
              | 5, _, e1, e2 => cases e1; cases e2; exact x7_k5
              | 6, _, e1, e2 => cases e1; cases e2; exact x7_k6
              | 7, _, e1, e2 => cases e1; cases e2; exact x7_k7
              | 8, _, e1, e2 => cases e1; cases e2; exact x7_k8
              | 9, _, e1, e2 => cases e1; cases e2; exact x7_k9
              | 10, _, e1, e2 => cases e1; cases e2; exact x7_k10
              | n + 11, hlt, _, _ => exact absurd hlt (by show ¬ (n + 11 < 11); omega)
            | _ => cases e1
        | 8, h =>
          refine ⟨⟨x8_ga, x8_gg, x8_sb, x8_hd, x8_ca, sn, tk, x8_mo⟩, ⟨x8_ga, x8_gg, x8_sb, x8_hd⟩, fun k hk => ?_, fun t v b ht e1 e2 => ?_⟩
          · have hk : k ∈ [0] := hk
            simp only [List.mem_cons, List.not_mem_nil, or_false] at hk
            rcases hk with rfl
            · exact x8_n0
          · cases t with
            | verr => cases e1; cases e2; exact x8_kV
            | lerr => cases e1; cases e2; exact x8_kL
            | rerr => cases e1; cases e2; exact x8_kR
            | cls c2 => match c2, ht c2 rfl, e1, e2 with
              | 0, _, e1, e2 => cases e1; cases e2; exact x8_k0
              | 1, _, e1, e2 => cases e1; cases e2; exact x8_k1
              | 2, _, e1, e2 => cases e1; cases e2; exact x8_k2
              | 3, _, e1, e2 => cases e1; cases e2; exact x8_k3
              | 4, _, e1, e2 => cases e1; cases e2; exact x8_k4
              | 5, _, e1, e2 => cases e1; cases e2; exact x8_k5
              | 6, _, e1, e2 => cases e1; cases e2; exact x8_k6
              | 7, _, e1, e2 => cases e1; cases e2; exact x8_k7
              | 8, _, e1, e2 => cases e1; cases e2; exact x8_k8
              | 9, _, e1, e2 => cases e1; cases e2; exact x8_k9
              | 10, _, e1, e2 => cases e1; cases e2; exact x8_k10
              | n + 11, hlt, _, _ => exact absurd hlt (by show ¬ (n + 11 < 11); omega)
            | _ => cases e1
        | 9, h =>
          refine ⟨⟨x9_ga, x9_gg, x9_sb, x9_hd, x9_ca, sn, tk, x9_mo⟩, ⟨x9_ga, x9_gg, x9_sb, x9_hd⟩, fun k hk => ?_, fun t v b ht e1 e2 => ?_⟩
          · have hk : k ∈ [4, 5] := hk
            simp only [List.mem_cons, List.not_mem_nil, or_false] at hk
            rcases hk with rfl | rfl
            · exact x9_n4
            · exact x9_n5
          · cases t with
            | verr => cases e1; cases e2; exact x9_kV
            | lerr => cases e1; cases e2; exact x9_kL
            | rerr => cases e1; cases e2; exact x9_kR
            | cls c2 => match c2, ht c2 rfl, e1, e2 with
              | 0, _, e1, e2 => cases e1; cases e2; exact x9_k0
              | 1, _, e1, e2 => cases e1; cases e2; exact x9_k1
              | 2, _, e1, e2 => cases e1; cases e2; exact x9_k2
              | 3, _, e1, e2 => cases e1; cases e2; exact x9_k3
              | 4, _, e1, e2 => cases e1; cases e2; exact x9_k4
              | 5, _, e1, e2 => cases e1; cases e2; exact x9_k5
              | 6, _, e1, e2 => cases e1; cases e2; exact x9_k6
              | 7, _, e1, e2 => cases e1; cases e2; exact x9_k7
              | 8, _, e1, e2 => cases e1; cases e2; exact x9_k8
              | 9, _, e1, e2 => cases e1; cases e2; exact x9_k9
              | 10, _, e1, e2 => cases e1; cases e2; exact x9_k10
              | n + 11, hlt, _, _ => exact absurd hlt (by show ¬ (n + 11 < 11); omega)
            | _ => cases e1
        | 10, h =>
          refine ⟨⟨x10_ga, x10_gg, x10_sb, x10_hd, x10_ca, sn, tk, x10_mo⟩, ⟨x10_ga, x10_gg, x10_sb, x10_hd⟩, fun k hk => ?_, fun t v b ht e1 e2 => ?_⟩
          · cases hk
          · cases t with
            | verr => cases e1; cases e2; exact x10_kV
            | lerr => cases e1; cases e2; exact x10_kL
            | rerr => cases e1; cases e2; exact x10_kR
            | cls c2 => match c2, ht c2 rfl, e1, e2 with
              | 0, _, e1, e2 => cases e1; cases e2; exact x10_k0
              | 1, _, e1, e2 => cases e1; cases e2; exact x10_k1
              | 2, _, e1, e2 => cases e1; cases e2; exact x10_k2
              | 3, _, e1, e2 => cases e1; cases e2; exact x10_k3
              | 4, _, e1, e2 => cases e1; cases e2; exact x10_k4
              | 5, _, e1, e2 => cases e1; cases e2; exact x10_k5
              | 6, _, e1, e2 => cases e1; cases e2; exact x10_k6
              | 7, _, e1, e2 => cases e1; cases e2; exact x10_k7
              | 8, _, e1, e2 => cases e1; cases e2; exact x10_k8
              | 9, _, e1, e2 => cases e1; cases e2; exact x10_k9
              | 10, _, e1, e2 => cases e1; cases e2; exact x10_k10
              | n + 11, hlt, _, _ => exact absurd hlt (by show ¬ (n + 11 < 11); omega)
            | _ => cases e1
        | n + 11, h => cases h
      xf := fun n c k h => by
        match c, h with
        | 0, h => cases h
        | 1, h => rfl
        | 2, h => rfl
        | 3, h => rfl
        | 4, h => rfl
        | 5, h => rfl
        | 6, h => rfl
        | 7, h => rfl
        | 8, h => rfl
        | 9, h => rfl
        | 10, h => cases h
        | n + 11, h => cases h
      fi := nmOf_inj (by decide +kernel) (by decide +kernel)
      nmf := fun k y hy => nmOf_get hy
      eq := fun n c k h => by
        match c, h with
        | 0, h => cases h
        | 1, h => cases h
        | 2, h => cases h
        | 3, h => cases h
        | 4, h => cases h
        | 5, h => cases h
        | 6, h => cases h
        | 7, h => cases h
        | 8, h => cases h
        | 9, h => cases h
        | 10, h => cases h
        | n + 11, h => cases h
      con := fun c x h => by
        match c, h with
        | n + 0, h => cases h
      xfm := fun hk n c x base A h hr => by
        match c, h with
        | 0, h => cases h; exact xfm_0 rfl
        | 1, h =>
                   cases h
                   refine xfm_si si1 ⟨x1_ga, x1_gg, x1_sb, x1_hd⟩ (fun f hf => ?_) hr (PySem.W.mg_of X G x1_a) (PySem.W.mg_none_of X G z_super) rfl
                   simp only [List.mem_cons, List.not_mem_nil, or_false] at hf
                   rcases hf with rfl
                   · exact x1_n0
        | 2, h =>
                   cases h
                   refine xfm_si si2 ⟨x2_ga, x2_gg, x2_sb, x2_hd⟩ (fun f hf => ?_) hr (PySem.W.mg_of X G x2_a) (PySem.W.mg_none_of X G z_super) rfl
                   simp only [List.mem_cons, List.not_mem_nil, or_false] at hf
                   rcases hf with rfl
                   · exact x2_n0
        | 3, h =>
                   cases h
                   refine xfm_si si3 ⟨x3_ga, x3_gg, x3_sb, x3_hd⟩ (fun f hf => ?_) hr (PySem.W.mg_of X G x3_a) (PySem.W.mg_none_of X G z_super) rfl
                   simp only [List.mem_cons, List.not_mem_nil, or_false] at hf
                   rcases hf with rfl
                   · exact x3_n1
        | 4, h =>
                   cases h
                   refine xfm_si si4 ⟨x4_ga, x4_gg, x4_sb, x4_hd⟩ (fun f hf => ?_) hr (PySem.W.mg_of X G x4_a) (PySem.W.mg_none_of X G z_super) rfl
                   simp only [List.mem_cons, List.not_mem_nil, or_false] at hf
                   rcases hf with rfl
                   · exact x4_n0
        | 5, h =>
                   cases h
                   refine xfm_si si5 ⟨x5_ga, x5_gg, x5_sb, x5_hd⟩ (fun f hf => ?_) hr (PySem.W.mg_of X G x5_a) (PySem.W.mg_none_of X G z_super) rfl
                   simp only [List.mem_cons, List.not_mem_nil, or_false] at hf
                   rcases hf with rfl
                   · exact x5_n2
        | 6, h =>
                   cases h
                   refine xfm_si si6 ⟨x6_ga, x6_gg, x6_sb, x6_hd⟩ (fun f hf => ?_) hr (PySem.W.mg_of X G x6_a) (PySem.W.mg_none_of X G z_super) rfl
                   simp only [List.mem_cons, List.not_mem_nil, or_false] at hf
                   rcases hf with rfl
                   · exact x6_n3
        | 7, h =>
                   cases h
                   refine xfm_si si7 ⟨x7_ga, x7_gg, x7_sb, x7_hd⟩ (fun f hf => ?_) hr (PySem.W.mg_of X G x7_a) (PySem.W.mg_none_of X G z_super) rfl
                   simp only [List.mem_cons, List.not_mem_nil, or_false] at hf
                   rcases hf with rfl
                   · exact x7_n0
        | 8, h =>
                   cases h
                   refine xfm_si si8 ⟨x8_ga, x8_gg, x8_sb, x8_hd⟩ (fun f hf => ?_) hr (PySem.W.mg_of X G x8_a) (PySem.W.mg_none_of X G z_super) rfl
                   simp only [List.mem_cons, List.not_mem_nil, or_false] at hf
                   rcases hf with rfl
                   · exact x8_n0
        | 9, h =>
                   cases h
                   refine xfm_si si9 ⟨x9_ga, x9_gg, x9_sb, x9_hd⟩ (fun f hf => ?_) hr (PySem.W.mg_of X G x9_a) (PySem.W.mg_none_of X G z_super) rfl
                   simp only [List.mem_cons, List.not_mem_nil, or_false] at hf
                   rcases hf with rfl | rfl
                   · exact x9_n4
                   · exact x9_n5
        | 10, h => cases h; exact xfm_0 rfl
        | n + 11, h => cases h
      mkx := fun n c x base A hx hs har hr => by
        match c, hx, hs, har with
        | 0, hx, hs, har => exact absurd (Option.some.inj har) (by show ¬ ((99999 : Nat) = 0); decide)
        | 1, hx, hs, har => cases hx; exact xcm_si si1 hr (PySem.W.mg_of X G x1_a) (PySem.W.mg_none_of X G z_super) rfl rfl (fun z => nomatch z)
        | 2, hx, hs, har => cases hx; exact xcm_si si2 hr (PySem.W.mg_of X G x2_a) (PySem.W.mg_none_of X G z_super) rfl rfl (fun z => nomatch z)
        | 3, hx, hs, har => cases hx; exact xcm_si si3 hr (PySem.W.mg_of X G x3_a) (PySem.W.mg_none_of X G z_super) rfl rfl (fun z => nomatch z)
        | 4, hx, hs, har => cases hx; exact xcm_si si4 hr (PySem.W.mg_of X G x4_a) (PySem.W.mg_none_of X G z_super) rfl rfl (fun z => nomatch z)
        | 5, hx, hs, har => cases hx; exact xcm_si si5 hr (PySem.W.mg_of X G x5_a) (PySem.W.mg_none_of X G z_super) rfl rfl (fun z => nomatch z)
        | 6, hx, hs, har => cases hx; exact xcm_si si6 hr (PySem.W.mg_of X G x6_a) (PySem.W.mg_none_of X G z_super) rfl rfl (fun z => nomatch z)
        | 7, hx, hs, har => cases hx; exact xcm_si si7 hr (PySem.W.mg_of X G x7_a) (PySem.W.mg_none_of X G z_super) rfl rfl (fun z => nomatch z)
        | 8, hx, hs, har => cases hx; exact xcm_si si8 hr (PySem.W.mg_of X G x8_a) (PySem.W.mg_none_of X G z_super) rfl rfl (fun z => nomatch z)
        | 9, hx, hs, har => cases hx; exact xcm_si si9 hr (PySem.W.mg_of X G x9_a) (PySem.W.mg_none_of X G z_super) rfl rfl (fun z => nomatch z)
        | 10, hx, hs, har => cases hx; exact xcm_0 PySem.F.excBase_ValueError x10_ex x10_kp x10_sb x10_ty (PySem.W.mg_of X G x10_a) rfl rfl
        | n + 11, hx, hs, har => cases hx
      ar := fun n c k hk h => by
        match c, h with
        | 0, h => cases h; first | rfl | exact absurd hk (by decide)
        | 1, h => cases h; first | rfl | exact absurd hk (by decide)
        | 2, h => cases h; first | rfl | exact absurd hk (by decide)
        | 3, h => cases h; first | rfl | exact absurd hk (by decide)
        | 4, h => cases h; first | rfl | exact absurd hk (by decide)
        | 5, h => cases h; first | rfl | exact absurd hk (by decide)
        | 6, h => cases h; first | rfl | exact absurd hk (by decide)
        | 7, h => cases h; first | rfl | exact absurd hk (by decide)
        | 8, h => cases h; first | rfl | exact absurd hk (by decide)
        | 9, h => cases h; first | rfl | exact absurd hk (by decide)
        | 10, h => cases h; first | rfl | exact absurd hk (by decide)
        | n + 11, h => cases h
      em := fun n c2 c x hx hs => by
        match c2, hs, c, hx with
        | 0, _, 0, _ => exact PySem.W.exm_ref x0_sb x0_hd x0_ty x0_s0
        | 0, _, 1, _ => exact PySem.W.exm_ref x1_sb x1_hd x1_ty x0_s1
        | 0, _, 2, _ => exact PySem.W.exm_ref x2_sb x2_hd x2_ty x0_s2
        | 0, _, 3, _ => exact PySem.W.exm_ref x3_sb x3_hd x3_ty x0_s3
        | 0, _, 4, _ => exact PySem.W.exm_ref x4_sb x4_hd x4_ty x0_s4
        | 0, _, 5, _ => exact PySem.W.exm_ref x5_sb x5_hd x5_ty x0_s5
        | 0, _, 6, _ => exact PySem.W.exm_ref x6_sb x6_hd x6_ty x0_s6
        | 0, _, 7, _ => exact PySem.W.exm_ref x7_sb x7_hd x7_ty x0_s7
        | 0, _, 8, _ => exact PySem.W.exm_ref x8_sb x8_hd x8_ty x0_s8
        | 0, _, 9, _ => exact PySem.W.exm_ref x9_sb x9_hd x9_ty x0_s9
        | 0, _, 10, _ => exact PySem.W.exm_ref x10_sb x10_hd x10_ty x0_s10
        | 0, _, n + 11, hx => cases hx
        | 1, _, 0, _ => exact PySem.W.exm_ref x0_sb x0_hd x0_ty x1_s0
        | 1, _, 1, _ => exact PySem.W.exm_ref x1_sb x1_hd x1_ty x1_s1
        | 1, _, 2, _ => exact PySem.W.exm_ref x2_sb x2_hd x2_ty x1_s2
        | 1, _, 3, _ => exact PySem.W.exm_ref x3_sb x3_hd x3_ty x1_s3
        | 1, _, 4, _ => exact PySem.W.exm_ref x4_sb x4_hd x4_ty x1_s4
        | 1, _, 5, _ => exact PySem.W.exm_ref x5_sb x5_hd x5_ty x1_s5
        | 1, _, 6, _ => exact PySem.W.exm_ref x6_sb x6_hd x6_ty x1_s6
        | 1, _, 7, _ => exact PySem.W.exm_ref x7_sb x7_hd x7_ty x1_s7
        | 1, _, 8, _ => exact PySem.W.exm_ref x8_sb x8_hd x8_ty x1_s8
        | 1, _, 9, _ => exact PySem.W.exm_ref x9_sb x9_hd x9_ty x1_s9
        | 1, _, 10, _ => exact PySem.W.exm_ref x10_sb x10_hd x10_ty x1_s10
        | 1, _, n + 11, hx => cases hx
        | 2, _, 0, _ => exact PySem.W.exm_ref x0_sb x0_hd x0_ty x2_s0
        | 2, _, 1, _ => exact PySem.W.exm_ref x1_sb x1_hd x1_ty x2_s1
        | 2, _, 2, _ => exact PySem.W.exm_ref x2_sb x2_hd x2_ty x2_s2
        | 2, _, 3, _ => exact PySem.W.exm_ref x3_sb x3_hd x3_ty x2_s3
        | 2, _, 4, _ => exact PySem.W.exm_ref x4_sb x4_hd x4_ty x2_s4
        | 2, _, 5, _ => exact PySem.W.exm_ref x5_sb x5_hd x5_ty x2_s5
        | 2, _, 6, _ => exact PySem.W.exm_ref x6_sb x6_hd x6_ty x2_s6
        | 2, _, 7, _ => exact PySem.W.exm_ref x7_sb x7_hd x7_ty x2_s7
        | 2, _, 8, _ => exact PySem.W.exm_ref x8_sb x8_hd x8_ty x2_s8
        | 2, _, 9, _ => exact PySem.W.exm_ref x9_sb x9_hd x9_ty x2_s9
        | 2, _, 10, _ => exact PySem.W.exm_ref x10_sb x10_hd x10_ty x2_s10
        | 2, _, n + 11, hx => cases hx
        | 3, _, 0, _ => exact PySem.W.exm_ref x0_sb x0_hd x0_ty x3_s0
        | 3, _, 1, _ => exact PySem.W.exm_ref x1_sb x1_hd x1_ty x3_s1
        | 3, _, 2, _ => exact PySem.W.exm_ref x2_sb x2_hd x2_ty x3_s2
        | 3, _, 3, _ => exact PySem.W.exm_ref x3_sb x3_hd x3_ty x3_s3
        | 3, _, 4, _ => exact PySem.W.exm_ref x4_sb x4_hd x4_ty x3_s4
        | 3, _, 5, _ => exact PySem.W.exm_ref x5_sb x5_hd x5_ty x3_s5
        | 3, _, 6, _ => exact PySem.W.exm_ref x6_sb x6_hd x6_ty x3_s6
        | 3, _, 7, _ => exact PySem.W.exm_ref x7_sb x7_hd x7_ty x3_s7
        | 3, _, 8, _ => exact PySem.W.exm_ref x8_sb x8_hd x8_ty x3_s8
        | 3, _, 9, _ => exact PySem.W.exm_ref x9_sb x9_hd x9_ty x3_s9
        | 3, _, 10, _ => exact PySem.W.exm_ref x10_sb x10_hd x10_ty x3_s10
        | 3, _, n + 11, hx => cases hx
        | 4, _, 0, _ => exact PySem.W.exm_ref x0_sb x0_hd x0_ty x4_s0
        | 4, _, 1, _ => exact PySem.W.exm_ref x1_sb x1_hd x1_ty x4_s1
        | 4, _, 2, _ => exact PySem.W.exm_ref x2_sb x2_hd x2_ty x4_s2
        | 4, _, 3, _ => exact PySem.W.exm_ref x3_sb x3_hd x3_ty x4_s3
        | 4, _, 4, _ => exact PySem.W.exm_ref x4_sb x4_hd x4_ty x4_s4
        | 4, _, 5, _ => exact PySem.W.exm_ref x5_sb x5_hd x5_ty x4_s5
        | 4, _, 6, _ => exact PySem.W.exm_ref x6_sb x6_hd x6_ty x4_s6
        | 4, _, 7, _ => exact PySem.W.exm_ref x7_sb x7_hd x7_ty x4_s7
        | 4, _, 8, _ => exact PySem.W.exm_ref x8_sb x8_hd x8_ty x4_s8
        | 4, _, 9, _ => exact PySem.W.exm_ref x9_sb x9_hd x9_ty x4_s9
        | 4, _, 10, _ => exact PySem.W.exm_ref x10_sb x10_hd x10_ty x4_s10
        | 4, _, n + 11, hx => cases hx
        | 5, _, 0, _ => exact PySem.W.exm_ref x0_sb x0_hd x0_ty x5_s0
        | 5, _, 1, _ => exact PySem.W.exm_ref x1_sb x1_hd x1_ty x5_s1
        | 5, _, 2, _ => exact PySem.W.exm_ref x2_sb x2_hd x2_ty x5_s2
        | 5, _, 3, _ => exact PySem.W.exm_ref x3_sb x3_hd x3_ty x5_s3
        | 5, _, 4, _ => exact PySem.W.exm_ref x4_sb x4_hd x4_ty x5_s4
        | 5, _, 5, _ => exact PySem.W.exm_ref x5_sb x5_hd x5_ty x5_s5
        | 5, _, 6, _ => exact PySem.W.exm_ref x6_sb x6_hd x6_ty x5_s6
        | 5, _, 7, _ => exact PySem.W.exm_ref x7_sb x7_hd x7_ty x5_s7
        | 5, _, 8, _ => exact PySem.W.exm_ref x8_sb x8_hd x8_ty x5_s8
        | 5, _, 9, _ => exact PySem.W.exm_ref x9_sb x9_hd x9_ty x5_s9
        | 5, _, 10, _ => exact PySem.W.exm_ref x10_sb x10_hd x10_ty x5_s10
        | 5, _, n + 11, hx => cases hx
        | 6, _, 0, _ => exact PySem.W.exm_ref x0_sb x0_hd x0_ty x6_s0
        | 6, _, 1, _ => exact PySem.W.exm_ref x1_sb x1_hd x1_ty x6_s1
        | 6, _, 2, _ => exact PySem.W.exm_ref x2_sb x2_hd x2_ty x6_s2
        | 6, _, 3, _ => exact PySem.W.exm_ref x3_sb x3_hd x3_ty x6_s3
        | 6, _, 4, _ => exact PySem.W.exm_ref x4_sb x4_hd x4_ty x6_s4
        | 6, _, 5, _ => exact PySem.W.exm_ref x5_sb x5_hd x5_ty x6_s5
        | 6, _, 6, _ => exact PySem.W.exm_ref x6_sb x6_hd x6_ty x6_s6
        | 6, _, 7, _ => exact PySem.W.exm_ref x7_sb x7_hd x7_ty x6_s7
        | 6, _, 8, _ => exact PySem.W.exm_ref x8_sb x8_hd x8_ty x6_s8
        | 6, _, 9, _ => exact PySem.W.exm_ref x9_sb x9_hd x9_ty x6_s9
        | 6, _, 10, _ => exact PySem.W.exm_ref x10_sb x10_hd x10_ty x6_s10
        | 6, _, n + 11, hx => cases hx
        | 7, _, 0, _ => exact PySem.W.exm_ref x0_sb x0_hd x0_ty x7_s0
        | 7, _, 1, _ => exact PySem.W.exm_ref x1_sb x1_hd x1_ty x7_s1
        | 7, _, 2, _ => exact PySem.W.exm_ref x2_sb x2_hd x2_ty x7_s2
        | 7, _, 3, _ => exact PySem.W.exm_ref x3_sb x3_hd x3_ty x7_s3
        | 7, _, 4, _ => exact PySem.W.exm_ref x4_sb x4_hd x4_ty x7_s4
        | 7, _, 5, _ => exact PySem.W.exm_ref x5_sb x5_hd x5_ty x7_s5
        | 7, _, 6, _ => exact PySem.W.exm_ref x6_sb x6_hd x6_ty x7_s6
        | 7, _, 7, _ => exact PySem.W.exm_ref x7_sb x7_hd x7_ty x7_s7
        | 7, _, 8, _ => exact PySem.W.exm_ref x8_sb x8_hd x8_ty x7_s8
        | 7, _, 9, _ => exact PySem.W.exm_ref x9_sb x9_hd x9_ty x7_s9
        | 7, _, 10, _ => exact PySem.W.exm_ref x10_sb x10_hd x10_ty x7_s10
        | 7, _, n + 11, hx => cases hx
        | 8, _, 0, _ => exact PySem.W.exm_ref x0_sb x0_hd x0_ty x8_s0
        | 8, _, 1, _ => exact PySem.W.exm_ref x1_sb x1_hd x1_ty x8_s1
        | 8, _, 2, _ => exact PySem.W.exm_ref x2_sb x2_hd x2_ty x8_s2
        | 8, _, 3, _ => exact PySem.W.exm_ref x3_sb x3_hd x3_ty x8_s3
        | 8, _, 4, _ => exact PySem.W.exm_ref x4_sb x4_hd x4_ty x8_s4
        | 8, _, 5, _ => exact PySem.W.exm_ref x5_sb x5_hd x5_ty x8_s5
        | 8, _, 6, _ => exact PySem.W.exm_ref x6_sb x6_hd x6_ty x8_s6
        | 8, _, 7, _ => exact PySem.W.exm_ref x7_sb x7_hd x7_ty x8_s7
        | 8, _, 8, _ => exact PySem.W.exm_ref x8_sb x8_hd x8_ty x8_s8
        | 8, _, 9, _ => exact PySem.W.exm_ref x9_sb x9_hd x9_ty x8_s9
        | 8, _, 10, _ => exact PySem.W.exm_ref x10_sb x10_hd x10_ty x8_s10
        | 8, _, n + 11, hx => cases hx
        | 9, _, 0, _ => exact PySem.W.exm_ref x0_sb x0_hd x0_ty x9_s0
        | 9, _, 1, _ => exact PySem.W.exm_ref x1_sb x1_hd x1_ty x9_s1
        | 9, _, 2, _ => exact PySem.W.exm_ref x2_sb x2_hd x2_ty x9_s2
        | 9, _, 3, _ => exact PySem.W.exm_ref x3_sb x3_hd x3_ty x9_s3
        | 9, _, 4, _ => exact PySem.W.exm_ref x4_sb x4_hd x4_ty x9_s4
        | 9, _, 5, _ => exact PySem.W.exm_ref x5_sb x5_hd x5_ty x9_s5
        | 9, _, 6, _ => exact PySem.W.exm_ref x6_sb x6_hd x6_ty x9_s6
        | 9, _, 7, _ => exact PySem.W.exm_ref x7_sb x7_hd x7_ty x9_s7
        | 9, _, 8, _ => exact PySem.W.exm_ref x8_sb x8_hd x8_ty x9_s8
        | 9, _, 9, _ => exact PySem.W.exm_ref x9_sb x9_hd x9_ty x9_s9
        | 9, _, 10, _ => exact PySem.W.exm_ref x10_sb x10_hd x10_ty x9_s10
        | 9, _, n + 11, hx => cases hx
        | 10, _, 0, _ => exact PySem.W.exm_ref x0_sb x0_hd x0_ty x10_s0
        | 10, _, 1, _ => exact PySem.W.exm_ref x1_sb x1_hd x1_ty x10_s1
        | 10, _, 2, _ => exact PySem.W.exm_ref x2_sb x2_hd x2_ty x10_s2
        | 10, _, 3, _ => exact PySem.W.exm_ref x3_sb x3_hd x3_ty x10_s3
        | 10, _, 4, _ => exact PySem.W.exm_ref x4_sb x4_hd x4_ty x10_s4
        | 10, _, 5, _ => exact PySem.W.exm_ref x5_sb x5_hd x5_ty x10_s5
        | 10, _, 6, _ => exact PySem.W.exm_ref x6_sb x6_hd x6_ty x10_s6
        | 10, _, 7, _ => exact PySem.W.exm_ref x7_sb x7_hd x7_ty x10_s7
        | 10, _, 8, _ => exact PySem.W.exm_ref x8_sb x8_hd x8_ty x10_s8
        | 10, _, 9, _ => exact PySem.W.exm_ref x9_sb x9_hd x9_ty x10_s9
        | 10, _, 10, _ => exact PySem.W.exm_ref x10_sb x10_hd x10_ty x10_s10
        | 10, _, n + 11, hx => cases hx
        | n + 11, hs, _, _ => cases hs }
  refine ⟨_, fun vs H Q E => vs.length = 1 ∧ spM (LK K [f0, f1, f2, f3, f4] [C0, C1, C2, C3, C4, C5, C6, C7, C8, C9, C10]) (callN Pk09.prog 6 false 4) vs H Q E, fun s v => ?_, fun base _ _ => fn_all T base 6 4 _ _ ["script"] rfl (ftx_mk rfl l4 c4 Pk09.sc_law Pk09.ck_law rfl rfl rfl fun us hl => match us, hl with | [_], _ => rfl), fun H a ns hl hO hS => ⟨rfl, law_sp rfl (by decide) (Pk09.pure_law) H a ns hl hS⟩⟩
  exact BindsTo.of_eq rfl
end Pk09H

end
section
set_option Elab.async false
set_option maxRecDepth 100000
open PySem PySem.W PyProof.Rows
set_option maxRecDepth 100000 in
set_option maxHeartbeats 0 in
theorem PySem.Challenge.cw_wheelrace_k09_errors_holds : PySem.Challenge.rw_wheelrace_k09_errors.Holds := by
  w_on; o_law; k_head; (case hw => w_witness2)
  k_fill
  refine Mp.walk_G (n := 63) (k := 12) (x := "script") (l := PySem.Challenge.rw_wheelrace_k09_errors) rfl (by decide) rfl ⟨⟨rfl, by decide, by decide⟩, rfl⟩ (fun w h Y => PySem.W.kIn_of Y) ?F
  case F =>
    intro w mg fa h KX G hmg
    refine' Pk09H.all_mk rfl KX G hmg ?a0 ?l0 ?c0 ?k0 ?a1 ?l1 ?c1 ?k1 ?a2 ?l2 ?c2 ?k2 ?a3 ?l3 ?c3 ?k3 ?a4 ?l4 ?c4 ?k4 ?z_len ?z_abs ?z_int ?z_tuple ?z_min ?z_max ?z_sum ?z_any ?z_all ?z_isinstance ?z_list ?z_range ?z_repr ?z_bool ?z_str ?z_dict ?z_sorted ?z_set ?z_enumerate ?z_zip ?z_ValueError ?z_LookupError ?z_RuntimeError ?z_super ?sn ?tk ?op ?x0_a ?x0_hd ?x0_sa ?x0_kp ?x0_ga ?x0_gg ?x0_sb ?x0_ca ?x0_mo ?x0_ty ?x0_kV ?x0_kL ?x0_kR ?x0_k0 ?x0_s0 ?x0_k1 ?x0_s1 ?x0_k2 ?x0_s2 ?x0_k3 ?x0_s3 ?x0_k4 ?x0_s4 ?x0_k5 ?x0_s5 ?x0_k6 ?x0_s6 ?x0_k7 ?x0_s7 ?x0_k8 ?x0_s8 ?x0_k9 ?x0_s9 ?x0_k10 ?x0_s10 ?x1_a ?x1_hd ?x1_sa ?x1_kp ?x1_ga ?x1_gg ?x1_sb ?x1_ca ?x1_mo ?x1_ty ?x1_kV ?x1_kL ?x1_kR ?x1_k0 ?x1_s0 ?x1_k1 ?x1_s1 ?x1_k2 ?x1_s2 ?x1_k3 ?x1_s3 ?x1_k4 ?x1_s4 ?x1_k5 ?x1_s5 ?x1_k6 ?x1_s6 ?x1_k7 ?x1_s7 ?x1_k8 ?x1_s8 ?x1_k9 ?x1_s9 ?x1_k10 ?x1_s10 ?x1_n0 ?y1_x ?y1_bm ?y1_i ?y1_t ?y1_v ?y1_m ?y1_u ?y1_l ?y1_c ?y1_h ?y1_f ?y1_p ?y1_d ?x2_a ?x2_hd ?x2_sa ?x2_kp ?x2_ga ?x2_gg ?x2_sb ?x2_ca ?x2_mo ?x2_ty ?x2_kV ?x2_kL ?x2_kR ?x2_k0 ?x2_s0 ?x2_k1 ?x2_s1 ?x2_k2 ?x2_s2 ?x2_k3 ?x2_s3 ?x2_k4 ?x2_s4 ?x2_k5 ?x2_s5 ?x2_k6 ?x2_s6 ?x2_k7 ?x2_s7 ?x2_k8 ?x2_s8 ?x2_k9 ?x2_s9 ?x2_k10 ?x2_s10 ?x2_n0 ?y2_x ?y2_bm ?y2_i ?y2_t ?y2_v ?y2_m ?y2_u ?y2_l ?y2_c ?y2_h ?y2_f ?y2_p ?y2_d ?x3_a ?x3_hd ?x3_sa ?x3_kp ?x3_ga ?x3_gg ?x3_sb ?x3_ca ?x3_mo ?x3_ty ?x3_kV ?x3_kL ?x3_kR ?x3_k0 ?x3_s0 ?x3_k1 ?x3_s1 ?x3_k2 ?x3_s2 ?x3_k3 ?x3_s3 ?x3_k4 ?x3_s4 ?x3_k5 ?x3_s5 ?x3_k6 ?x3_s6 ?x3_k7 ?x3_s7 ?x3_k8 ?x3_s8 ?x3_k9 ?x3_s9 ?x3_k10 ?x3_s10 ?x3_n1 ?y3_x ?y3_bm ?y3_i ?y3_t ?y3_v ?y3_m ?y3_u ?y3_l ?y3_c ?y3_h ?y3_f ?y3_p ?y3_d ?x4_a ?x4_hd ?x4_sa ?x4_kp ?x4_ga ?x4_gg ?x4_sb ?x4_ca ?x4_mo ?x4_ty ?x4_kV ?x4_kL ?x4_kR ?x4_k0 ?x4_s0 ?x4_k1 ?x4_s1 ?x4_k2 ?x4_s2 ?x4_k3 ?x4_s3 ?x4_k4 ?x4_s4 ?x4_k5 ?x4_s5 ?x4_k6 ?x4_s6 ?x4_k7 ?x4_s7 ?x4_k8 ?x4_s8 ?x4_k9 ?x4_s9 ?x4_k10 ?x4_s10 ?x4_n0 ?y4_x ?y4_bm ?y4_i ?y4_t ?y4_v ?y4_m ?y4_u ?y4_l ?y4_c ?y4_h ?y4_f ?y4_p ?y4_d ?x5_a ?x5_hd ?x5_sa ?x5_kp ?x5_ga ?x5_gg ?x5_sb ?x5_ca ?x5_mo ?x5_ty ?x5_kV ?x5_kL ?x5_kR ?x5_k0 ?x5_s0 ?x5_k1 ?x5_s1 ?x5_k2 ?x5_s2 ?x5_k3 ?x5_s3 ?x5_k4 ?x5_s4 ?x5_k5 ?x5_s5 ?x5_k6 ?x5_s6 ?x5_k7 ?x5_s7 ?x5_k8 ?x5_s8 ?x5_k9 ?x5_s9 ?x5_k10 ?x5_s10 ?x5_n2 ?y5_x ?y5_bm ?y5_i ?y5_t ?y5_v ?y5_m ?y5_u ?y5_l ?y5_c ?y5_h ?y5_f ?y5_p ?y5_d ?x6_a ?x6_hd ?x6_sa ?x6_kp ?x6_ga ?x6_gg ?x6_sb ?x6_ca ?x6_mo ?x6_ty ?x6_kV ?x6_kL ?x6_kR ?x6_k0 ?x6_s0 ?x6_k1 ?x6_s1 ?x6_k2 ?x6_s2 ?x6_k3 ?x6_s3 ?x6_k4 ?x6_s4 ?x6_k5 ?x6_s5 ?x6_k6 ?x6_s6 ?x6_k7 ?x6_s7 ?x6_k8 ?x6_s8 ?x6_k9 ?x6_s9 ?x6_k10 ?x6_s10 ?x6_n3 ?y6_x ?y6_bm ?y6_i ?y6_t ?y6_v ?y6_m ?y6_u ?y6_l ?y6_c ?y6_h ?y6_f ?y6_p ?y6_d ?x7_a ?x7_hd ?x7_sa ?x7_kp ?x7_ga ?x7_gg ?x7_sb ?x7_ca ?x7_mo ?x7_ty ?x7_kV ?x7_kL ?x7_kR ?x7_k0 ?x7_s0 ?x7_k1 ?x7_s1 ?x7_k2 ?x7_s2 ?x7_k3 ?x7_s3 ?x7_k4 ?x7_s4 ?x7_k5 ?x7_s5 ?x7_k6 ?x7_s6 ?x7_k7 ?x7_s7 ?x7_k8 ?x7_s8 ?x7_k9 ?x7_s9 ?x7_k10 ?x7_s10 ?x7_n0 ?y7_x ?y7_bm ?y7_i ?y7_t ?y7_v ?y7_m ?y7_u ?y7_l ?y7_c ?y7_h ?y7_f ?y7_p ?y7_d ?x8_a ?x8_hd ?x8_sa ?x8_kp ?x8_ga ?x8_gg ?x8_sb ?x8_ca ?x8_mo ?x8_ty ?x8_kV ?x8_kL ?x8_kR ?x8_k0 ?x8_s0 ?x8_k1 ?x8_s1 ?x8_k2 ?x8_s2 ?x8_k3 ?x8_s3 ?x8_k4 ?x8_s4 ?x8_k5 ?x8_s5 ?x8_k6 ?x8_s6 ?x8_k7 ?x8_s7 ?x8_k8 ?x8_s8 ?x8_k9 ?x8_s9 ?x8_k10 ?x8_s10 ?x8_n0 ?y8_x ?y8_bm ?y8_i ?y8_t ?y8_v ?y8_m ?y8_u ?y8_l ?y8_c ?y8_h ?y8_f ?y8_p ?y8_d ?x9_a ?x9_hd ?x9_sa ?x9_kp ?x9_ga ?x9_gg ?x9_sb ?x9_ca ?x9_mo ?x9_ty ?x9_kV ?x9_kL ?x9_kR ?x9_k0 ?x9_s0 ?x9_k1 ?x9_s1 ?x9_k2 ?x9_s2 ?x9_k3 ?x9_s3 ?x9_k4 ?x9_s4 ?x9_k5 ?x9_s5 ?x9_k6 ?x9_s6 ?x9_k7 ?x9_s7 ?x9_k8 ?x9_s8 ?x9_k9 ?x9_s9 ?x9_k10 ?x9_s10 ?x9_n4 ?x9_n5 ?y9_x ?y9_bm ?y9_i ?y9_t ?y9_v ?y9_m ?y9_u ?y9_l ?y9_c ?y9_h ?y9_f ?y9_p ?y9_d ?x10_a ?x10_hd ?x10_sa ?x10_kp ?x10_ga ?x10_gg ?x10_sb ?x10_ca ?x10_mo ?x10_ty ?x10_kV ?x10_kL ?x10_kR ?x10_k0 ?x10_s0 ?x10_k1 ?x10_s1 ?x10_k2 ?x10_s2 ?x10_k3 ?x10_s3 ?x10_k4 ?x10_s4 ?x10_k5 ?x10_s5 ?x10_k6 ?x10_s6 ?x10_k7 ?x10_s7 ?x10_k8 ?x10_s8 ?x10_k9 ?x10_s9 ?x10_k10 ?x10_s10 ?x10_ex
    (case a0 => first | k_is | rfl | decide +kernel)
    (case a1 => first | k_is | rfl | decide +kernel)
    (case a2 => first | k_is | rfl | decide +kernel)
    (case a3 => first | k_is | rfl | decide +kernel)
    (case a4 => first | k_is | rfl | decide +kernel)
    (case x0_a => first | k_is | rfl | decide +kernel)
    (case x1_a => first | k_is | rfl | decide +kernel)
    (case x2_a => first | k_is | rfl | decide +kernel)
    (case x3_a => first | k_is | rfl | decide +kernel)
    (case x4_a => first | k_is | rfl | decide +kernel)
    (case x5_a => first | k_is | rfl | decide +kernel)
    (case x6_a => first | k_is | rfl | decide +kernel)
    (case x7_a => first | k_is | rfl | decide +kernel)
    (case x8_a => first | k_is | rfl | decide +kernel)
    (case x9_a => first | k_is | rfl | decide +kernel)
    (case x10_a => first | k_is | rfl | decide +kernel)
    (case y1_i => first | k_is | rfl | decide +kernel)
    (case y2_i => first | k_is | rfl | decide +kernel)
    (case y3_i => first | k_is | rfl | decide +kernel)
    (case y4_i => first | k_is | rfl | decide +kernel)
    (case y5_i => first | k_is | rfl | decide +kernel)
    (case y6_i => first | k_is | rfl | decide +kernel)
    (case y7_i => first | k_is | rfl | decide +kernel)
    (case y8_i => first | k_is | rfl | decide +kernel)
    (case y9_i => first | k_is | rfl | decide +kernel)
    (case l0 => first | k_is | rfl | decide +kernel)
    (case k0 => first | k_is | rfl | decide +kernel)
    (case l1 => first | k_is | rfl | decide +kernel)
    (case k1 => first | k_is | rfl | decide +kernel)
    (case l2 => first | k_is | rfl | decide +kernel)
    (case k2 => first | k_is | rfl | decide +kernel)
    (case l3 => first | k_is | rfl | decide +kernel)
    (case k3 => first | k_is | rfl | decide +kernel)
    (case l4 => first | k_is | rfl | decide +kernel)
    (case k4 => first | k_is | rfl | decide +kernel)
    (case z_len => first | k_is | rfl | decide +kernel)
    (case z_abs => first | k_is | rfl | decide +kernel)
    (case z_int => first | k_is | rfl | decide +kernel)
    (case z_tuple => first | k_is | rfl | decide +kernel)
    (case z_min => first | k_is | rfl | decide +kernel)
    (case z_max => first | k_is | rfl | decide +kernel)
    (case z_sum => first | k_is | rfl | decide +kernel)
    (case z_any => first | k_is | rfl | decide +kernel)
    (case z_all => first | k_is | rfl | decide +kernel)
    (case z_isinstance => first | k_is | rfl | decide +kernel)
    (case z_list => first | k_is | rfl | decide +kernel)
    (case z_range => first | k_is | rfl | decide +kernel)
    (case z_repr => first | k_is | rfl | decide +kernel)
    (case z_bool => first | k_is | rfl | decide +kernel)
    (case z_str => first | k_is | rfl | decide +kernel)
    (case z_dict => first | k_is | rfl | decide +kernel)
    (case z_sorted => first | k_is | rfl | decide +kernel)
    (case z_set => first | k_is | rfl | decide +kernel)
    (case z_enumerate => first | k_is | rfl | decide +kernel)
    (case z_zip => first | k_is | rfl | decide +kernel)
    (case z_ValueError => first | k_is | rfl | decide +kernel)
    (case z_LookupError => first | k_is | rfl | decide +kernel)
    (case z_RuntimeError => first | k_is | rfl | decide +kernel)
    (case z_super => first | k_is | rfl | decide +kernel)
    (case sn => first | k_is | rfl | decide +kernel)
    (case tk => first | k_is | rfl | decide +kernel)
    (case op => first | k_is | rfl | decide +kernel)
    (case x0_hd => first | k_is | rfl | decide +kernel)
    (case x0_sa => first | k_is | rfl | decide +kernel)
    (case x0_kp => first | k_is | rfl | decide +kernel)
    (case x0_ga => first | k_is | rfl | decide +kernel)
    (case x0_gg => first | k_is | rfl | decide +kernel)
    (case x0_sb => first | k_is | rfl | decide +kernel)
    (case x0_ca => first | k_is | rfl | decide +kernel)
    (case x0_mo => first | k_is | rfl | decide +kernel)
    (case x0_ty => first | k_is | rfl | decide +kernel)
    (case x0_kV => first | k_is | rfl | decide +kernel)
    (case x0_kL => first | k_is | rfl | decide +kernel)
    (case x0_kR => first | k_is | rfl | decide +kernel)
    (case x0_k0 => first | k_is | rfl | decide +kernel)
    (case x0_s0 => first | k_is | rfl | decide +kernel)
    (case x0_k1 => first | k_is | rfl | decide +kernel)
    (case x0_s1 => first | k_is | rfl | decide +kernel)
    (case x0_k2 => first | k_is | rfl | decide +kernel)
    (case x0_s2 => first | k_is | rfl | decide +kernel)
    (case x0_k3 => first | k_is | rfl | decide +kernel)
    (case x0_s3 => first | k_is | rfl | decide +kernel)
    (case x0_k4 => first | k_is | rfl | decide +kernel)
    (case x0_s4 => first | k_is | rfl | decide +kernel)
    (case x0_k5 => first | k_is | rfl | decide +kernel)
    (case x0_s5 => first | k_is | rfl | decide +kernel)
    (case x0_k6 => first | k_is | rfl | decide +kernel)
    (case x0_s6 => first | k_is | rfl | decide +kernel)
    (case x0_k7 => first | k_is | rfl | decide +kernel)
    (case x0_s7 => first | k_is | rfl | decide +kernel)
    (case x0_k8 => first | k_is | rfl | decide +kernel)
    (case x0_s8 => first | k_is | rfl | decide +kernel)
    (case x0_k9 => first | k_is | rfl | decide +kernel)
    (case x0_s9 => first | k_is | rfl | decide +kernel)
    (case x0_k10 => first | k_is | rfl | decide +kernel)
    (case x0_s10 => first | k_is | rfl | decide +kernel)
    (case x1_hd => first | k_is | rfl | decide +kernel)
    (case x1_sa => first | k_is | rfl | decide +kernel)
    (case x1_kp => first | k_is | rfl | decide +kernel)
    (case x1_ga => first | k_is | rfl | decide +kernel)
    (case x1_gg => first | k_is | rfl | decide +kernel)
    (case x1_sb => first | k_is | rfl | decide +kernel)
    (case x1_ca => first | k_is | rfl | decide +kernel)
    (case x1_mo => first | k_is | rfl | decide +kernel)
    (case x1_ty => first | k_is | rfl | decide +kernel)
    (case x1_kV => first | k_is | rfl | decide +kernel)
    (case x1_kL => first | k_is | rfl | decide +kernel)
    (case x1_kR => first | k_is | rfl | decide +kernel)
    (case x1_k0 => first | k_is | rfl | decide +kernel)
    (case x1_s0 => first | k_is | rfl | decide +kernel)
    (case x1_k1 => first | k_is | rfl | decide +kernel)
    (case x1_s1 => first | k_is | rfl | decide +kernel)
    (case x1_k2 => first | k_is | rfl | decide +kernel)
    (case x1_s2 => first | k_is | rfl | decide +kernel)
    (case x1_k3 => first | k_is | rfl | decide +kernel)
    (case x1_s3 => first | k_is | rfl | decide +kernel)
    (case x1_k4 => first | k_is | rfl | decide +kernel)
    (case x1_s4 => first | k_is | rfl | decide +kernel)
    (case x1_k5 => first | k_is | rfl | decide +kernel)
    (case x1_s5 => first | k_is | rfl | decide +kernel)
    (case x1_k6 => first | k_is | rfl | decide +kernel)
    (case x1_s6 => first | k_is | rfl | decide +kernel)
    (case x1_k7 => first | k_is | rfl | decide +kernel)
    (case x1_s7 => first | k_is | rfl | decide +kernel)
    (case x1_k8 => first | k_is | rfl | decide +kernel)
    (case x1_s8 => first | k_is | rfl | decide +kernel)
    (case x1_k9 => first | k_is | rfl | decide +kernel)
    (case x1_s9 => first | k_is | rfl | decide +kernel)
    (case x1_k10 => first | k_is | rfl | decide +kernel)
    (case x1_s10 => first | k_is | rfl | decide +kernel)
    (case x1_n0 => first | k_is | rfl | decide +kernel)
    (case y1_x => first | k_is | rfl | decide +kernel)
    (case y1_t => first | k_is | rfl | decide +kernel)
    (case y1_v => first | k_is | rfl | decide +kernel)
    (case y1_m => first | k_is | rfl | decide +kernel)
    (case y1_u => first | k_is | rfl | decide +kernel)
    (case y1_l => first | k_is | rfl | decide +kernel)
    (case x2_hd => first | k_is | rfl | decide +kernel)
    (case x2_sa => first | k_is | rfl | decide +kernel)
    (case x2_kp => first | k_is | rfl | decide +kernel)
    (case x2_ga => first | k_is | rfl | decide +kernel)
    (case x2_gg => first | k_is | rfl | decide +kernel)
    (case x2_sb => first | k_is | rfl | decide +kernel)
    (case x2_ca => first | k_is | rfl | decide +kernel)
    (case x2_mo => first | k_is | rfl | decide +kernel)
    (case x2_ty => first | k_is | rfl | decide +kernel)
    (case x2_kV => first | k_is | rfl | decide +kernel)
    (case x2_kL => first | k_is | rfl | decide +kernel)
    (case x2_kR => first | k_is | rfl | decide +kernel)
    (case x2_k0 => first | k_is | rfl | decide +kernel)
    (case x2_s0 => first | k_is | rfl | decide +kernel)
    (case x2_k1 => first | k_is | rfl | decide +kernel)
    (case x2_s1 => first | k_is | rfl | decide +kernel)
    (case x2_k2 => first | k_is | rfl | decide +kernel)
    (case x2_s2 => first | k_is | rfl | decide +kernel)
    (case x2_k3 => first | k_is | rfl | decide +kernel)
    (case x2_s3 => first | k_is | rfl | decide +kernel)
    (case x2_k4 => first | k_is | rfl | decide +kernel)
    (case x2_s4 => first | k_is | rfl | decide +kernel)
    (case x2_k5 => first | k_is | rfl | decide +kernel)
    (case x2_s5 => first | k_is | rfl | decide +kernel)
    (case x2_k6 => first | k_is | rfl | decide +kernel)
    (case x2_s6 => first | k_is | rfl | decide +kernel)
    (case x2_k7 => first | k_is | rfl | decide +kernel)
    (case x2_s7 => first | k_is | rfl | decide +kernel)
    (case x2_k8 => first | k_is | rfl | decide +kernel)
    (case x2_s8 => first | k_is | rfl | decide +kernel)
    (case x2_k9 => first | k_is | rfl | decide +kernel)
    (case x2_s9 => first | k_is | rfl | decide +kernel)
    (case x2_k10 => first | k_is | rfl | decide +kernel)
    (case x2_s10 => first | k_is | rfl | decide +kernel)
    (case x2_n0 => first | k_is | rfl | decide +kernel)
    (case y2_x => first | k_is | rfl | decide +kernel)
    (case y2_t => first | k_is | rfl | decide +kernel)
    (case y2_v => first | k_is | rfl | decide +kernel)
    (case y2_m => first | k_is | rfl | decide +kernel)
    (case y2_u => first | k_is | rfl | decide +kernel)
    (case y2_l => first | k_is | rfl | decide +kernel)
    (case x3_hd => first | k_is | rfl | decide +kernel)
    (case x3_sa => first | k_is | rfl | decide +kernel)
    (case x3_kp => first | k_is | rfl | decide +kernel)
    (case x3_ga => first | k_is | rfl | decide +kernel)
    (case x3_gg => first | k_is | rfl | decide +kernel)
    (case x3_sb => first | k_is | rfl | decide +kernel)
    (case x3_ca => first | k_is | rfl | decide +kernel)
    (case x3_mo => first | k_is | rfl | decide +kernel)
    (case x3_ty => first | k_is | rfl | decide +kernel)
    (case x3_kV => first | k_is | rfl | decide +kernel)
    (case x3_kL => first | k_is | rfl | decide +kernel)
    (case x3_kR => first | k_is | rfl | decide +kernel)
    (case x3_k0 => first | k_is | rfl | decide +kernel)
    (case x3_s0 => first | k_is | rfl | decide +kernel)
    (case x3_k1 => first | k_is | rfl | decide +kernel)
    (case x3_s1 => first | k_is | rfl | decide +kernel)
    (case x3_k2 => first | k_is | rfl | decide +kernel)
    (case x3_s2 => first | k_is | rfl | decide +kernel)
    (case x3_k3 => first | k_is | rfl | decide +kernel)
    (case x3_s3 => first | k_is | rfl | decide +kernel)
    (case x3_k4 => first | k_is | rfl | decide +kernel)
    (case x3_s4 => first | k_is | rfl | decide +kernel)
    (case x3_k5 => first | k_is | rfl | decide +kernel)
    (case x3_s5 => first | k_is | rfl | decide +kernel)
    (case x3_k6 => first | k_is | rfl | decide +kernel)
    (case x3_s6 => first | k_is | rfl | decide +kernel)
    (case x3_k7 => first | k_is | rfl | decide +kernel)
    (case x3_s7 => first | k_is | rfl | decide +kernel)
    (case x3_k8 => first | k_is | rfl | decide +kernel)
    (case x3_s8 => first | k_is | rfl | decide +kernel)
    (case x3_k9 => first | k_is | rfl | decide +kernel)
    (case x3_s9 => first | k_is | rfl | decide +kernel)
    (case x3_k10 => first | k_is | rfl | decide +kernel)
    (case x3_s10 => first | k_is | rfl | decide +kernel)
    (case x3_n1 => first | k_is | rfl | decide +kernel)
    (case y3_x => first | k_is | rfl | decide +kernel)
    (case y3_t => first | k_is | rfl | decide +kernel)
    (case y3_v => first | k_is | rfl | decide +kernel)
    (case y3_m => first | k_is | rfl | decide +kernel)
    (case y3_u => first | k_is | rfl | decide +kernel)
    (case y3_l => first | k_is | rfl | decide +kernel)
    (case x4_hd => first | k_is | rfl | decide +kernel)
    (case x4_sa => first | k_is | rfl | decide +kernel)
    (case x4_kp => first | k_is | rfl | decide +kernel)
    (case x4_ga => first | k_is | rfl | decide +kernel)
    (case x4_gg => first | k_is | rfl | decide +kernel)
    (case x4_sb => first | k_is | rfl | decide +kernel)
    (case x4_ca => first | k_is | rfl | decide +kernel)
    (case x4_mo => first | k_is | rfl | decide +kernel)
    (case x4_ty => first | k_is | rfl | decide +kernel)
    (case x4_kV => first | k_is | rfl | decide +kernel)
    (case x4_kL => first | k_is | rfl | decide +kernel)
    (case x4_kR => first | k_is | rfl | decide +kernel)
    (case x4_k0 => first | k_is | rfl | decide +kernel)
    (case x4_s0 => first | k_is | rfl | decide +kernel)
    (case x4_k1 => first | k_is | rfl | decide +kernel)
    (case x4_s1 => first | k_is | rfl | decide +kernel)
    (case x4_k2 => first | k_is | rfl | decide +kernel)
    (case x4_s2 => first | k_is | rfl | decide +kernel)
    (case x4_k3 => first | k_is | rfl | decide +kernel)
    (case x4_s3 => first | k_is | rfl | decide +kernel)
    (case x4_k4 => first | k_is | rfl | decide +kernel)
    (case x4_s4 => first | k_is | rfl | decide +kernel)
    (case x4_k5 => first | k_is | rfl | decide +kernel)
    (case x4_s5 => first | k_is | rfl | decide +kernel)
    (case x4_k6 => first | k_is | rfl | decide +kernel)
    (case x4_s6 => first | k_is | rfl | decide +kernel)
    (case x4_k7 => first | k_is | rfl | decide +kernel)
    (case x4_s7 => first | k_is | rfl | decide +kernel)
    (case x4_k8 => first | k_is | rfl | decide +kernel)
    (case x4_s8 => first | k_is | rfl | decide +kernel)
    (case x4_k9 => first | k_is | rfl | decide +kernel)
    (case x4_s9 => first | k_is | rfl | decide +kernel)
    (case x4_k10 => first | k_is | rfl | decide +kernel)
    (case x4_s10 => first | k_is | rfl | decide +kernel)
    (case x4_n0 => first | k_is | rfl | decide +kernel)
    (case y4_x => first | k_is | rfl | decide +kernel)
    (case y4_t => first | k_is | rfl | decide +kernel)
    (case y4_v => first | k_is | rfl | decide +kernel)
    (case y4_m => first | k_is | rfl | decide +kernel)
    (case y4_u => first | k_is | rfl | decide +kernel)
    (case y4_l => first | k_is | rfl | decide +kernel)
    (case x5_hd => first | k_is | rfl | decide +kernel)
    (case x5_sa => first | k_is | rfl | decide +kernel)
    (case x5_kp => first | k_is | rfl | decide +kernel)
    (case x5_ga => first | k_is | rfl | decide +kernel)
    (case x5_gg => first | k_is | rfl | decide +kernel)
    (case x5_sb => first | k_is | rfl | decide +kernel)
    (case x5_ca => first | k_is | rfl | decide +kernel)
    (case x5_mo => first | k_is | rfl | decide +kernel)
    (case x5_ty => first | k_is | rfl | decide +kernel)
    (case x5_kV => first | k_is | rfl | decide +kernel)
    (case x5_kL => first | k_is | rfl | decide +kernel)
    (case x5_kR => first | k_is | rfl | decide +kernel)
    (case x5_k0 => first | k_is | rfl | decide +kernel)
    (case x5_s0 => first | k_is | rfl | decide +kernel)
    (case x5_k1 => first | k_is | rfl | decide +kernel)
    (case x5_s1 => first | k_is | rfl | decide +kernel)
    (case x5_k2 => first | k_is | rfl | decide +kernel)
    (case x5_s2 => first | k_is | rfl | decide +kernel)
    (case x5_k3 => first | k_is | rfl | decide +kernel)
    (case x5_s3 => first | k_is | rfl | decide +kernel)
    (case x5_k4 => first | k_is | rfl | decide +kernel)
    (case x5_s4 => first | k_is | rfl | decide +kernel)
    (case x5_k5 => first | k_is | rfl | decide +kernel)
    (case x5_s5 => first | k_is | rfl | decide +kernel)
    (case x5_k6 => first | k_is | rfl | decide +kernel)
    (case x5_s6 => first | k_is | rfl | decide +kernel)
    (case x5_k7 => first | k_is | rfl | decide +kernel)
    (case x5_s7 => first | k_is | rfl | decide +kernel)
    (case x5_k8 => first | k_is | rfl | decide +kernel)
    (case x5_s8 => first | k_is | rfl | decide +kernel)
    (case x5_k9 => first | k_is | rfl | decide +kernel)
    (case x5_s9 => first | k_is | rfl | decide +kernel)
    (case x5_k10 => first | k_is | rfl | decide +kernel)
    (case x5_s10 => first | k_is | rfl | decide +kernel)
    (case x5_n2 => first | k_is | rfl | decide +kernel)
    (case y5_x => first | k_is | rfl | decide +kernel)
    (case y5_t => first | k_is | rfl | decide +kernel)
    (case y5_v => first | k_is | rfl | decide +kernel)
    (case y5_m => first | k_is | rfl | decide +kernel)
    (case y5_u => first | k_is | rfl | decide +kernel)
    (case y5_l => first | k_is | rfl | decide +kernel)
    (case x6_hd => first | k_is | rfl | decide +kernel)
    (case x6_sa => first | k_is | rfl | decide +kernel)
    (case x6_kp => first | k_is | rfl | decide +kernel)
    (case x6_ga => first | k_is | rfl | decide +kernel)
    (case x6_gg => first | k_is | rfl | decide +kernel)
    (case x6_sb => first | k_is | rfl | decide +kernel)
    (case x6_ca => first | k_is | rfl | decide +kernel)
    (case x6_mo => first | k_is | rfl | decide +kernel)
    (case x6_ty => first | k_is | rfl | decide +kernel)
    (case x6_kV => first | k_is | rfl | decide +kernel)
    (case x6_kL => first | k_is | rfl | decide +kernel)
    (case x6_kR => first | k_is | rfl | decide +kernel)
    (case x6_k0 => first | k_is | rfl | decide +kernel)
    (case x6_s0 => first | k_is | rfl | decide +kernel)
    (case x6_k1 => first | k_is | rfl | decide +kernel)
    (case x6_s1 => first | k_is | rfl | decide +kernel)
    (case x6_k2 => first | k_is | rfl | decide +kernel)
    (case x6_s2 => first | k_is | rfl | decide +kernel)
    (case x6_k3 => first | k_is | rfl | decide +kernel)
    (case x6_s3 => first | k_is | rfl | decide +kernel)
    (case x6_k4 => first | k_is | rfl | decide +kernel)
    (case x6_s4 => first | k_is | rfl | decide +kernel)
    (case x6_k5 => first | k_is | rfl | decide +kernel)
    (case x6_s5 => first | k_is | rfl | decide +kernel)
    (case x6_k6 => first | k_is | rfl | decide +kernel)
    (case x6_s6 => first | k_is | rfl | decide +kernel)
    (case x6_k7 => first | k_is | rfl | decide +kernel)
    (case x6_s7 => first | k_is | rfl | decide +kernel)
    (case x6_k8 => first | k_is | rfl | decide +kernel)
    (case x6_s8 => first | k_is | rfl | decide +kernel)
    (case x6_k9 => first | k_is | rfl | decide +kernel)
    (case x6_s9 => first | k_is | rfl | decide +kernel)
    (case x6_k10 => first | k_is | rfl | decide +kernel)
    (case x6_s10 => first | k_is | rfl | decide +kernel)
    (case x6_n3 => first | k_is | rfl | decide +kernel)
    (case y6_x => first | k_is | rfl | decide +kernel)
    (case y6_t => first | k_is | rfl | decide +kernel)
    (case y6_v => first | k_is | rfl | decide +kernel)
    (case y6_m => first | k_is | rfl | decide +kernel)
    (case y6_u => first | k_is | rfl | decide +kernel)
    (case y6_l => first | k_is | rfl | decide +kernel)
    (case x7_hd => first | k_is | rfl | decide +kernel)
    (case x7_sa => first | k_is | rfl | decide +kernel)
    (case x7_kp => first | k_is | rfl | decide +kernel)
    (case x7_ga => first | k_is | rfl | decide +kernel)
    (case x7_gg => first | k_is | rfl | decide +kernel)
    (case x7_sb => first | k_is | rfl | decide +kernel)
    (case x7_ca => first | k_is | rfl | decide +kernel)
    (case x7_mo => first | k_is | rfl | decide +kernel)
    (case x7_ty => first | k_is | rfl | decide +kernel)
    (case x7_kV => first | k_is | rfl | decide +kernel)
    (case x7_kL => first | k_is | rfl | decide +kernel)
    (case x7_kR => first | k_is | rfl | decide +kernel)
    (case x7_k0 => first | k_is | rfl | decide +kernel)
    (case x7_s0 => first | k_is | rfl | decide +kernel)
    (case x7_k1 => first | k_is | rfl | decide +kernel)
    (case x7_s1 => first | k_is | rfl | decide +kernel)
    (case x7_k2 => first | k_is | rfl | decide +kernel)
    (case x7_s2 => first | k_is | rfl | decide +kernel)
    (case x7_k3 => first | k_is | rfl | decide +kernel)
    (case x7_s3 => first | k_is | rfl | decide +kernel)
    (case x7_k4 => first | k_is | rfl | decide +kernel)
    (case x7_s4 => first | k_is | rfl | decide +kernel)
    (case x7_k5 => first | k_is | rfl | decide +kernel)
    (case x7_s5 => first | k_is | rfl | decide +kernel)
    (case x7_k6 => first | k_is | rfl | decide +kernel)
    (case x7_s6 => first | k_is | rfl | decide +kernel)
    (case x7_k7 => first | k_is | rfl | decide +kernel)
    (case x7_s7 => first | k_is | rfl | decide +kernel)
    (case x7_k8 => first | k_is | rfl | decide +kernel)
    (case x7_s8 => first | k_is | rfl | decide +kernel)
    (case x7_k9 => first | k_is | rfl | decide +kernel)
    (case x7_s9 => first | k_is | rfl | decide +kernel)
    (case x7_k10 => first | k_is | rfl | decide +kernel)
    (case x7_s10 => first | k_is | rfl | decide +kernel)
    (case x7_n0 => first | k_is | rfl | decide +kernel)
    (case y7_x => first | k_is | rfl | decide +kernel)
    (case y7_t => first | k_is | rfl | decide +kernel)
    (case y7_v => first | k_is | rfl | decide +kernel)
    (case y7_m => first | k_is | rfl | decide +kernel)
    (case y7_u => first | k_is | rfl | decide +kernel)
    (case y7_l => first | k_is | rfl | decide +kernel)
    (case x8_hd => first | k_is | rfl | decide +kernel)
    (case x8_sa => first | k_is | rfl | decide +kernel)
    (case x8_kp => first | k_is | rfl | decide +kernel)
    (case x8_ga => first | k_is | rfl | decide +kernel)
    (case x8_gg => first | k_is | rfl | decide +kernel)
    (case x8_sb => first | k_is | rfl | decide +kernel)
    (case x8_ca => first | k_is | rfl | decide +kernel)
    (case x8_mo => first | k_is | rfl | decide +kernel)
    (case x8_ty => first | k_is | rfl | decide +kernel)
    (case x8_kV => first | k_is | rfl | decide +kernel)
    (case x8_kL => first | k_is | rfl | decide +kernel)
    (case x8_kR => first | k_is | rfl | decide +kernel)
    (case x8_k0 => first | k_is | rfl | decide +kernel)
    (case x8_s0 => first | k_is | rfl | decide +kernel)
    (case x8_k1 => first | k_is | rfl | decide +kernel)
    (case x8_s1 => first | k_is | rfl | decide +kernel)
    (case x8_k2 => first | k_is | rfl | decide +kernel)
    (case x8_s2 => first | k_is | rfl | decide +kernel)
    (case x8_k3 => first | k_is | rfl | decide +kernel)
    (case x8_s3 => first | k_is | rfl | decide +kernel)
    (case x8_k4 => first | k_is | rfl | decide +kernel)
    (case x8_s4 => first | k_is | rfl | decide +kernel)
    (case x8_k5 => first | k_is | rfl | decide +kernel)
    (case x8_s5 => first | k_is | rfl | decide +kernel)
    (case x8_k6 => first | k_is | rfl | decide +kernel)
    (case x8_s6 => first | k_is | rfl | decide +kernel)
    (case x8_k7 => first | k_is | rfl | decide +kernel)
    (case x8_s7 => first | k_is | rfl | decide +kernel)
    (case x8_k8 => first | k_is | rfl | decide +kernel)
    (case x8_s8 => first | k_is | rfl | decide +kernel)
    (case x8_k9 => first | k_is | rfl | decide +kernel)
    (case x8_s9 => first | k_is | rfl | decide +kernel)
    (case x8_k10 => first | k_is | rfl | decide +kernel)
    (case x8_s10 => first | k_is | rfl | decide +kernel)
    (case x8_n0 => first | k_is | rfl | decide +kernel)
    (case y8_x => first | k_is | rfl | decide +kernel)
    (case y8_t => first | k_is | rfl | decide +kernel)
    (case y8_v => first | k_is | rfl | decide +kernel)
    (case y8_m => first | k_is | rfl | decide +kernel)
    (case y8_u => first | k_is | rfl | decide +kernel)
    (case y8_l => first | k_is | rfl | decide +kernel)
    (case x9_hd => first | k_is | rfl | decide +kernel)
    (case x9_sa => first | k_is | rfl | decide +kernel)
    (case x9_kp => first | k_is | rfl | decide +kernel)
    (case x9_ga => first | k_is | rfl | decide +kernel)
    (case x9_gg => first | k_is | rfl | decide +kernel)
    (case x9_sb => first | k_is | rfl | decide +kernel)
    (case x9_ca => first | k_is | rfl | decide +kernel)
    (case x9_mo => first | k_is | rfl | decide +kernel)
    (case x9_ty => first | k_is | rfl | decide +kernel)
    (case x9_kV => first | k_is | rfl | decide +kernel)
    (case x9_kL => first | k_is | rfl | decide +kernel)
    (case x9_kR => first | k_is | rfl | decide +kernel)
    (case x9_k0 => first | k_is | rfl | decide +kernel)
    (case x9_s0 => first | k_is | rfl | decide +kernel)
    (case x9_k1 => first | k_is | rfl | decide +kernel)
    (case x9_s1 => first | k_is | rfl | decide +kernel)
    (case x9_k2 => first | k_is | rfl | decide +kernel)
    (case x9_s2 => first | k_is | rfl | decide +kernel)
    (case x9_k3 => first | k_is | rfl | decide +kernel)
    (case x9_s3 => first | k_is | rfl | decide +kernel)
    (case x9_k4 => first | k_is | rfl | decide +kernel)
    (case x9_s4 => first | k_is | rfl | decide +kernel)
    (case x9_k5 => first | k_is | rfl | decide +kernel)
    (case x9_s5 => first | k_is | rfl | decide +kernel)
    (case x9_k6 => first | k_is | rfl | decide +kernel)
    (case x9_s6 => first | k_is | rfl | decide +kernel)
    (case x9_k7 => first | k_is | rfl | decide +kernel)
    (case x9_s7 => first | k_is | rfl | decide +kernel)
    (case x9_k8 => first | k_is | rfl | decide +kernel)
    (case x9_s8 => first | k_is | rfl | decide +kernel)
    (case x9_k9 => first | k_is | rfl | decide +kernel)
    (case x9_s9 => first | k_is | rfl | decide +kernel)
    (case x9_k10 => first | k_is | rfl | decide +kernel)
    (case x9_s10 => first | k_is | rfl | decide +kernel)
    (case x9_n4 => first | k_is | rfl | decide +kernel)
    (case x9_n5 => first | k_is | rfl | decide +kernel)
    (case y9_x => first | k_is | rfl | decide +kernel)
    (case y9_t => first | k_is | rfl | decide +kernel)
    (case y9_v => first | k_is | rfl | decide +kernel)
    (case y9_m => first | k_is | rfl | decide +kernel)
    (case y9_u => first | k_is | rfl | decide +kernel)
    (case y9_l => first | k_is | rfl | decide +kernel)
    (case x10_hd => first | k_is | rfl | decide +kernel)
    (case x10_sa => first | k_is | rfl | decide +kernel)
    (case x10_kp => first | k_is | rfl | decide +kernel)
    (case x10_ga => first | k_is | rfl | decide +kernel)
    (case x10_gg => first | k_is | rfl | decide +kernel)
    (case x10_sb => first | k_is | rfl | decide +kernel)
    (case x10_ca => first | k_is | rfl | decide +kernel)
    (case x10_mo => first | k_is | rfl | decide +kernel)
    (case x10_ty => first | k_is | rfl | decide +kernel)
    (case x10_kV => first | k_is | rfl | decide +kernel)
    (case x10_kL => first | k_is | rfl | decide +kernel)
    (case x10_kR => first | k_is | rfl | decide +kernel)
    (case x10_k0 => first | k_is | rfl | decide +kernel)
    (case x10_s0 => first | k_is | rfl | decide +kernel)
    (case x10_k1 => first | k_is | rfl | decide +kernel)
    (case x10_s1 => first | k_is | rfl | decide +kernel)
    (case x10_k2 => first | k_is | rfl | decide +kernel)
    (case x10_s2 => first | k_is | rfl | decide +kernel)
    (case x10_k3 => first | k_is | rfl | decide +kernel)
    (case x10_s3 => first | k_is | rfl | decide +kernel)
    (case x10_k4 => first | k_is | rfl | decide +kernel)
    (case x10_s4 => first | k_is | rfl | decide +kernel)
    (case x10_k5 => first | k_is | rfl | decide +kernel)
    (case x10_s5 => first | k_is | rfl | decide +kernel)
    (case x10_k6 => first | k_is | rfl | decide +kernel)
    (case x10_s6 => first | k_is | rfl | decide +kernel)
    (case x10_k7 => first | k_is | rfl | decide +kernel)
    (case x10_s7 => first | k_is | rfl | decide +kernel)
    (case x10_k8 => first | k_is | rfl | decide +kernel)
    (case x10_s8 => first | k_is | rfl | decide +kernel)
    (case x10_k9 => first | k_is | rfl | decide +kernel)
    (case x10_s9 => first | k_is | rfl | decide +kernel)
    (case x10_k10 => first | k_is | rfl | decide +kernel)
    (case x10_s10 => first | k_is | rfl | decide +kernel)
    (case x10_ex => first | k_exc | k_is | rfl | decide +kernel)
    (case c0 => first | k_is | rfl | decide +kernel)
    (case c1 => first | k_is | rfl | decide +kernel)
    (case c2 => first | k_is | rfl | decide +kernel)
    (case c3 => first | k_is | rfl | decide +kernel)
    (case c4 => first | k_is | rfl | decide +kernel)
    (case y1_bm => decide +kernel)
    (case y1_c => first | k_is | rfl | decide +kernel)
    (case y1_h => first | k_is | rfl | decide +kernel)
    (case y1_d => first | k_is | rfl | decide +kernel)
    (case y2_bm => decide +kernel)
    (case y2_c => first | k_is | rfl | decide +kernel)
    (case y2_h => first | k_is | rfl | decide +kernel)
    (case y2_d => first | k_is | rfl | decide +kernel)
    (case y3_bm => decide +kernel)
    (case y3_c => first | k_is | rfl | decide +kernel)
    (case y3_h => first | k_is | rfl | decide +kernel)
    (case y3_d => first | k_is | rfl | decide +kernel)
    (case y4_bm => decide +kernel)
    (case y4_c => first | k_is | rfl | decide +kernel)
    (case y4_h => first | k_is | rfl | decide +kernel)
    (case y4_d => first | k_is | rfl | decide +kernel)
    (case y5_bm => decide +kernel)
    (case y5_c => first | k_is | rfl | decide +kernel)
    (case y5_h => first | k_is | rfl | decide +kernel)
    (case y5_d => first | k_is | rfl | decide +kernel)
    (case y6_bm => decide +kernel)
    (case y6_c => first | k_is | rfl | decide +kernel)
    (case y6_h => first | k_is | rfl | decide +kernel)
    (case y6_d => first | k_is | rfl | decide +kernel)
    (case y7_bm => decide +kernel)
    (case y7_c => first | k_is | rfl | decide +kernel)
    (case y7_h => first | k_is | rfl | decide +kernel)
    (case y7_d => first | k_is | rfl | decide +kernel)
    (case y8_bm => decide +kernel)
    (case y8_c => first | k_is | rfl | decide +kernel)
    (case y8_h => first | k_is | rfl | decide +kernel)
    (case y8_d => first | k_is | rfl | decide +kernel)
    (case y9_bm => decide +kernel)
    (case y9_c => first | k_is | rfl | decide +kernel)
    (case y9_h => first | k_is | rfl | decide +kernel)
    (case y9_d => first | k_is | rfl | decide +kernel)
    (case y1_f => first | rfl | decide +kernel)
    (case y2_f => first | rfl | decide +kernel)
    (case y3_f => first | rfl | decide +kernel)
    (case y4_f => first | rfl | decide +kernel)
    (case y5_f => first | rfl | decide +kernel)
    (case y6_f => first | rfl | decide +kernel)
    (case y7_f => first | rfl | decide +kernel)
    (case y8_f => first | rfl | decide +kernel)
    (case y9_f => first | rfl | decide +kernel)
    (case y1_p => decide +kernel)
    (case y2_p => decide +kernel)
    (case y3_p => decide +kernel)
    (case y4_p => decide +kernel)
    (case y5_p => decide +kernel)
    (case y6_p => decide +kernel)
    (case y7_p => decide +kernel)
    (case y8_p => decide +kernel)
    (case y9_p => decide +kernel)

end
