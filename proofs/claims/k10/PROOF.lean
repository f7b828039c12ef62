import PyProof.Rows.All
import Wide.All
import OpenK.AllK
import Wide.FinOn
import HandS.Base
import HandS.Call
import HandS.List
import HandS.Dict
import HandS.Exc
import HandS.ExcOwn
import HandS.Wide
import HandS.TupMul
import HandS.IsInst
import HandS.Comp
import PyProof.P3Eq
import HandS.TupAny
import HandS.Text
import HandS.WordsDict
import HandS.ExcCtx
import HandS.Ends
import HandS.EndOwn
import HandS.ExcIs
import HandS.ExcField
import KE.KExcIs
import HandS.Conv
import PyProof.ReprRoads
import PyProof.ReprLen
import PyProof.CallFns
import PyProof.Rows.RegStrFacts
import HandS.More
import HandS.ExcInit
import KE.KExcSuper
import KE.KSuper
import HandS.Words
import PySem.Challenge.RW_wheelrace_k10_whole_fractions
section
/-! Mini: a small Python on plain data. Containers are values; a variable may own one; cells are shared.
    An evaluator by structural recursion over the syntax, the calls of defs given. -/
namespace Mp

inductive D where
  | non | bl (b : Bool) | int (i : Int) | str (s : List Nat)
  | tup (xs : List D) | lst (xs : List D) | dct (kvs : List (D × D)) | set (xs : List D)
  | obj (c : Nat) (fs : List (Nat × D)) | ref (n : Nat) | fn (f : Nat) | scr (xs : List Int) | bad
  deriving Inhabited

/-- a value: data; a container just made (or owned by its variable); one that is only looked at; a caught exception -/
inductive Val where
  | dat (d : D) | new (d : D) | bor (d : D) | xv (c : Nat) (fs : List (Nat × D))
  deriving Inhabited
abbrev Env := List (Option Val)
abbrev Sto := List D
structure Exc where
  c : Nat
  fs : List (Nat × D)

inductive ER (α : Type) where
  | ok (a : α) (st : Sto) | ex (x : Exc) (st : Sto) | bad
inductive SR where
  | nx (E : Env) (st : Sto) | rt (v : Val) (st : Sto) | bk (E : Env) (st : Sto) | ct (E : Env) (st : Sto) | ex (x : Exc) (E : Env) (st : Sto) | bad

def Val.d : Val → D | .dat d => d | .new d => d | .bor d => d | .xv _ _ => .bad
/-- as a result: what a variable owned is handed over -/
def Val.out : Val → Val | .bor d => .new d | .xv _ _ => .dat .bad | v => v
/-- as data that may be kept -/
def D.isSet : D → Bool | .set _ => true | _ => false
def Val.kp : Val → Option D | .dat d => some d | .new d => if d.isSet then none else some d | .bor _ => none | .xv _ _ => none

/-- what a walk goes over: kept (k), or looked at -/
def Val.it (k : Bool) (v : Val) : Option D := if k then v.kp else match v with | .xv _ _ => none | v => some v.d
def ER.bind {α β : Type} (r : ER α) (f : α → Sto → ER β) : ER β := match r with | .ok a st => f a st | .ex x st => .ex x st | .bad => .bad
/-- by a truth -/
def ifV {α : Type} (v : Val) (x y z : α) : α := match v with | .dat (.bl b) => if b then x else y | _ => z
def D.isNon : D → Option Bool | .non => some true | .bad => none | _ => some false
def SR.seq (r : SR) (k : Env → Sto → SR) : SR := match r with | .nx E st => k E st | r => r
/-- a turn's end -/
def SR.lp (r : SR) (k : Env → Sto → SR) : SR := match r with | .nx E st => k E st | .ct E st => k E st | .bk E st => .nx E st | r => r
def SR.try (r : SR) (k : Exc → Env → Sto → SR) : SR := match r with | .ex x E st => k x E st | r => r
/-- no error leaves -/
def ER.nox {α : Type} (r : ER α) : ER α := match r with | .ex _ _ => .bad | r => r
def SR.nox (r : SR) : SR := match r with | .ex _ _ _ => .bad | r => r
/-- a suite's end, its name let go -/
def SR.del (r : SR) (i : Nat) : SR := match r with | .nx E st => .nx (E.set i none) st | .bk E st => .bk (E.set i none) st | .ct E st => .ct (E.set i none) st | r => r
/-- a suite's end, the error raised again -/
def SR.rer (r : SR) (x : Exc) : SR := match r with | .nx E st => .ex x E st | _ => .bad
def ER.opt {α : Type} (o : Option α) (st : Sto) : ER α := match o with | some a => .ok a st | none => .bad

/-! ### comparisons -/
def b2i (b : Bool) : Int := if b then 1 else 0
mutual
/-- plain data of at most that depth -/
def pd : D → Nat → Bool
  | .non, _ => true
  | .bl _, _ => true
  | .int _, _ => true
  | .str _, _ => true
  | .tup xs, n => match n with | 0 => false | n + 1 => pdL xs n
  | .lst xs, n => match n with | 0 => false | n + 1 => pdL xs n
  | .dct _, _ => false
  | .set _, _ => false
  | .obj _ _, _ => false
  | .ref _, _ => false
  | .fn _, _ => false
  | .scr _, _ => false
  | .bad, _ => false
def pdL : List D → Nat → Bool
  | [], _ => true
  | x :: r, n => pd x n && pdL r n
end
def pdMax : Nat := 40
mutual
/-- == of plain data -/
def eqD : D → D → Bool
  | .non, d => match d with | .non => true | _ => false
  | .bl a, d => match d with | .bl b => a == b | .int i => b2i a == i | _ => false
  | .int i, d => match d with | .int j => i == j | .bl b => i == b2i b | _ => false
  | .str a, d => match d with | .str b => a == b | _ => false
  | .tup a, d => match d with | .tup b => eqL a b | _ => false
  | .lst a, d => match d with | .lst b => eqL a b | _ => false
  | .dct _, _ => false
  | .set _, _ => false
  | .obj _ _, _ => false
  | .ref _, _ => false
  | .fn _, _ => false
  | .scr _, _ => false
  | .bad, _ => false
def eqL : List D → List D → Bool
  | [], l => match l with | [] => true | _ => false
  | x :: xs, l => match l with | [] => false | y :: ys => eqD x y && eqL xs ys
end
def eqT (a b : D) : Option Bool := if pd a pdMax && pd b pdMax then some (eqD a b) else none

def ltS : List Nat → List Nat → Bool
  | [], [] => false
  | [], _ :: _ => true
  | _ :: _, [] => false
  | a :: as, b :: bs => if a < b then true else if a == b then ltS as bs else false
def numD : D → Option Int | .int i => some i | _ => none
mutual
/-- < of plain data, where there is one -/
def ltD : D → D → Option Bool
  | .int i, d => match d with | .int j => some (decide (i < j)) | _ => none
  | .str a, d => match d with | .str b => some (ltS a b) | _ => none
  | .tup a, d => match d with | .tup b => ltL a b | _ => none
  | .lst a, d => match d with | .lst b => ltL a b | _ => none
  | _, _ => none
def ltL : List D → List D → Option Bool
  | [], l => match l with | [] => some false | _ => some true
  | x :: xs, l => match l with | [] => some false | y :: ys => if eqD x y then ltL xs ys else ltD x y
end
def ltT (a b : D) : Option Bool := if pd a pdMax && pd b pdMax then ltD a b else none
mutual
/-- the same structure at every place (what repr tells) -/
def same : D → D → Bool
  | .non, .non => true
  | .bl a, .bl b => a == b
  | .int a, .int b => a == b
  | .str a, .str b => a == b
  | .tup a, .tup b => sameL a b
  | .lst a, .lst b => sameL a b
  | _, _ => false
def sameL : List D → List D → Bool
  | [], [] => true
  | x :: xs, y :: ys => same x y && sameL xs ys
  | _, _ => false
end

mutual
/-- how long it is, told -/
def wt : D → Nat
  | .int i => if i == 0 then 0 else i.natAbs.log2 + 1
  | .str s => s.length
  | .tup xs => wtL xs
  | .lst xs => wtL xs
  | _ => 0
def wtL : List D → Nat
  | [] => 0
  | x :: r => wt x + 1 + wtL r
end
mutual
/-- its ints are not great -/
def shO : D → Bool
  | .int i => decide (i.natAbs.log2 < 1920)
  | .tup xs => shOL xs
  | .lst xs => shOL xs
  | _ => true
def shOL : List D → Bool
  | [] => true
  | x :: r => shO x && shOL r
end
/-- may be told by repr -/
def repOk (d : D) : Bool := pd d pdMax && shO d && decide (wt d ≤ 8000)
/-! ### built-ins on data -/
def szMax : Nat := 5000000
def ltB (a b : D) : Bool := ltD a b == some true
/-- into its place behind those that are not greater -/
def insO {α : Type} (lt : α → α → Bool) (x : α) : List α → List α
  | [] => [x]
  | y :: ys => if lt x y then x :: y :: ys else y :: insO lt x ys
/-- stable -/
def isort {α : Type} (lt : α → α → Bool) (xs : List α) : List α := xs.foldl (fun acc x => insO lt x acc) []
/-- all can be compared -/
def cmpOk (xs : List D) : Bool := xs.all fun x => pd x pdMax && xs.all fun y => (ltD x y).isSome
/-- may be a key -/
def isKey : D → Bool
  | .int _ => true
  | .str _ => true
  | _ => false
def dGet (k : D) (kvs : List (D × D)) : Option D := (kvs.find? fun p => eqD p.1 k).map (·.2)
def dPut (k v : D) : List (D × D) → List (D × D)
  | [] => [(k, v)]
  | (a, w) :: r => if eqD a k then (a, v) :: r else (a, w) :: dPut k v r
def pairOf : D → Option (D × D)
  | .tup [k, v] => if isKey k then some (k, v) else none
  | _ => none
def dOfL : List D → List (D × D) → Option (List (D × D))
  | [], acc => some acc
  | x :: r, acc => match pairOf x with | some (k, v) => dOfL r (dPut k v acc) | none => none
def allPd (xs : List D) : Bool := xs.all fun x => pd x pdMax
def memD (x : D) (ys : List D) : Option Bool := if pd x pdMax && allPd ys then some (ys.any fun y => eqD y x) else none
def uniqL (xs : List D) : List D := xs.foldl (fun acc x => if acc.any (fun y => eqD y x) then acc else acc ++ [x]) []
def uniq (xs : List D) : Option (List D) := if xs.all (fun x => match x with | .int _ => true | _ => false) || xs.all (fun x => match x with | .str _ => true | _ => false) then some (uniqL xs) else none
def idxAt (n : Nat) (i : Int) : Option Nat := if 0 ≤ i then (if i < n then some i.toNat else none) else if 0 ≤ i + n then some (i + n).toNat else none
def getAt {α : Type} (xs : List α) (i : Int) : Option α := match idxAt xs.length i with | some k => xs[k]? | none => none
def clampI (n : Nat) (i : Int) : Nat := if i < 0 then (i + n).toNat else min i.toNat n
def cut {α : Type} (xs : List α) (lo hi : Option Int) : List α :=
  let a := match lo with | some i => clampI xs.length i | none => 0
  let b := match hi with | some i => clampI xs.length i | none => xs.length
  (xs.take b).drop a
def digits (n : Nat) : List Nat := (Nat.toDigits 10 n).map Char.toNat
def strOfInt (i : Int) : List Nat := if i < 0 then 45 :: digits i.natAbs else digits i.natAbs
def joinS (sep : List Nat) : List (List Nat) → List Nat
  | [] => []
  | [x] => x
  | x :: r => x ++ sep ++ joinS sep r
def strs? : List D → Option (List (List Nat))
  | [] => some []
  | .str s :: r => (strs? r).map (s :: ·)
  | _ :: _ => none
def ints? : List D → Option (List Int)
  | [] => some []
  | .int i :: r => (ints? r).map (i :: ·)
  | _ :: _ => none
def bls? : List D → Option (List Bool)
  | [] => some []
  | .bl b :: r => (bls? r).map (b :: ·)
  | _ :: _ => none
def splitS (sep : Nat) : List Nat → List Nat → List (List Nat)
  | [], acc => [acc.reverse]
  | c :: r, acc => if c == sep then acc.reverse :: splitS sep r [] else splitS sep r (c :: acc)
/-- the first of the least, of the greatest -/
def minB : D → List D → D
  | x, [] => x
  | x, y :: r => if ltB y x then minB y r else minB x r
def maxB : D → List D → D
  | x, [] => x
  | x, y :: r => if ltB x y then maxB y r else maxB x r
def minD (x : D) (r : List D) : Option D := if cmpOk (x :: r) then some (minB x r) else none
def maxD (x : D) (r : List D) : Option D := if cmpOk (x :: r) then some (maxB x r) else none
def indexD (x : D) (ys : List D) : Option Nat := if pd x pdMax && allPd ys then ys.findIdx? (fun y => eqD y x) else none
def countD (x : D) (ys : List D) : Option Nat := if pd x pdMax && allPd ys then some (ys.countP fun y => eqD y x) else none
/-- the items that a walk over it yields -/
def itemsOf : D → Option (List D)
  | .lst xs => some xs
  | .tup xs => some xs
  | .set _ => none
  | _ => none
def seqOf : D → Option (List D)
  | .lst xs => some xs
  | .tup xs => some xs
  | _ => none

inductive Op where | add | sub | mul | fdiv | mod | pow
  deriving DecidableEq
inductive Cp where | eq | ne | lt | le | gt | ge | isin | notin
  deriving DecidableEq
inductive Ty where | int | bool | str | list | tuple | dict | cls (c : Nat) | verr | lerr | rerr
inductive BI where
  | len | abs | minA | maxA | minL | maxL | sum | sumS | all | any | sorted | set | tuple | dictP | str | int | index | count | get1 | get2 | join | split
  deriving DecidableEq

def big (i : Int) : Bool := decide (i.natAbs < 2 ^ 4000)
def repL {α : Type} (xs : List α) (n : Int) : Option (List α) := if xs.length * n.toNat ≤ szMax ∧ (-(2 ^ 63) ≤ n ∧ n < 2 ^ 63) ∧ True then some ((List.replicate n.toNat xs).flatten) else none
def binF : Op → D → D → Option Val
  | .add, .int a, .int b => some (.dat (.int (a + b)))
  | .add, .str a, .str b => if a.length + b.length ≤ szMax then some (.dat (.str (a ++ b))) else none
  | .add, .lst a, .lst b => if a.length + b.length ≤ szMax then some (.new (.lst (a ++ b))) else none
  | .add, .tup a, .tup b => if a.length + b.length ≤ szMax then some (.dat (.tup (a ++ b))) else none
  | .sub, .int a, .int b => some (.dat (.int (a - b)))
  | .mul, .int a, .int b => if big a && big b then some (.dat (.int (a * b))) else none
  | .mul, .lst a, .int n => (repL a n).map fun l => .new (.lst l)
  | .fdiv, .int a, .int b => if 0 < b ∧ big b = true then some (.dat (.int (a / b))) else none
  | .mod, .int a, .int b => if 0 < b then some (.dat (.int (a % b))) else none
  | .pow, .int a, .int b => if 0 ≤ b ∧ b ≤ 1000 ∧ a.natAbs < 2 ^ 64 then some (.dat (.int (a ^ b.toNat))) else none
  | _, _, _ => none
def ordF (f : Int → Int → Bool) (g : Option Bool → Option Bool → Option Bool) (a b : D) : Option Bool := match numD a, numD b with
  | some i, some j => some (f i j)
  | _, _ => none
def cmpF : Cp → D → D → Option Bool
  | .eq, a, b => eqT a b
  | .ne, a, b => (eqT a b).map not
  | .lt, a, b => ordF (fun i j => decide (i < j)) (fun l _ => l) a b
  | .gt, a, b => ordF (fun i j => decide (j < i)) (fun _ g => g) a b
  | .le, a, b => ordF (fun i j => decide (i ≤ j)) (fun _ _ => none) a b
  | .ge, a, b => ordF (fun i j => decide (j ≤ i)) (fun _ _ => none) a b
  | .isin, a, .lst xs => memD a xs
  | .isin, a, .tup xs => memD a xs
  | .isin, .str a, .str b => match a with | [c] => some (b.contains c) | _ => none
  | .isin, a, .dct kvs => if isKey a then some (dGet a kvs).isSome else none
  | .notin, a, .lst xs => (memD a xs).map not
  | .notin, a, .tup xs => (memD a xs).map not
  | .notin, .str a, .str b => match a with | [c] => some (!b.contains c) | _ => none
  | .notin, a, .dct kvs => if isKey a then some (!(dGet a kvs).isSome) else none
  | _, _, _ => none
def getF : D → D → Option D
  | .lst xs, .int i => getAt xs i
  | .tup xs, .int i => getAt xs i
  | .scr xs, .int i => (getAt xs i).map .int
  | .str s, .int i => match idxAt s.length i with | some k => (s[k]?).map fun c => .str [c] | none => none
  | .dct kvs, k => if isKey k then dGet k kvs else none
  | _, _ => none
def slcF : D → Option Int → Option Int → Option Val
  | .lst xs, lo, hi => some (.new (.lst (cut xs lo hi)))
  | .tup xs, lo, hi => some (.dat (.tup (cut xs lo hi)))
  | .str s, lo, hi => some (.dat (.str (cut s lo hi)))
  | _, _, _ => none
def revF : D → Option Val
  | .lst xs => some (.new (.lst xs.reverse))
  | .tup xs => some (.dat (.tup xs.reverse))
  | .str s => some (.dat (.str s.reverse))
  | _ => none
def bi1 : BI → D → Option Val
  | .len, .lst xs => some (.dat (.int xs.length))
  | .len, .tup xs => some (.dat (.int xs.length))
  | .len, .str s => some (.dat (.int s.length))
  | .len, .dct kvs => some (.dat (.int kvs.length))
  | .len, .scr xs => some (.dat (.int xs.length))
  | .abs, .int i => some (.dat (.int i.natAbs))
  | .minL, .lst xs => match ints? xs with | some l => (l.min?).map fun i => .dat (.int i) | none => none
  | .maxL, .lst xs => match ints? xs with | some l => (l.max?).map fun i => .dat (.int i) | none => none
  | .sum, .lst xs => (ints? xs).map fun l => .dat (.int l.sum)
  | .all, .lst xs => (bls? xs).map fun l => .dat (.bl (l.all id))
  | .any, .lst xs => (bls? xs).map fun l => .dat (.bl (l.any id))
  | .sorted, .set xs => if cmpOk xs then some (.new (.lst (isort ltB xs))) else none
  | .sorted, d => match seqOf d with | some xs => if cmpOk xs then some (.new (.lst (isort ltB xs))) else none | none => none
  | .set, d => match seqOf d with | some xs => (uniq xs).map fun l => .new (.set l) | none => none
  | .tuple, d => (seqOf d).map fun l => .dat (.tup l)
  | .dictP, .lst xs => (dOfL xs []).map fun l => .new (.dct l)
  | .dictP, .dct kvs => some (.new (.dct kvs))
  | .str, .str s => some (.dat (.str s))
  | .int, .int i => some (.dat (.int i))
  | .int, .bl b => some (.dat (.int (if b then 1 else 0)))
  | _, _ => none
def biF : BI → List D → Option Val
  | .minA, [.int a, .int b] => some (.dat (.int (min a b)))
  | .maxA, [.int a, .int b] => some (.dat (.int (max a b)))
  | .minA, [.int a, .int b, .int c] => some (.dat (.int (min (min a b) c)))
  | .minA, [.int a, .int b, .int c, .int d] => some (.dat (.int (min (min (min a b) c) d)))
  | .sumS, [d, .lst []] => match seqOf d with
    | some xs => xs.foldl (fun acc x => match acc, x with | some (.new (.lst l)), .lst m => if l.length + m.length ≤ szMax then some (.new (.lst (l ++ m))) else none | _, _ => none) (some (.new (.lst [])))
    | none => none
  | .index, [.str s, .str [c]] => (s.findIdx? (· == c)).map fun k => .dat (.int k)
  | .index, [d, x] => match seqOf d with | some xs => (indexD x xs).map fun (k : Nat) => .dat (.int k) | none => none
  | .count, [.lst xs, x] => (countD x xs).map fun (k : Nat) => .dat (.int k)
  | .get1, [.dct kvs, k] => if isKey k then some (.dat ((dGet k kvs).getD .non)) else none
  | .get2, [.dct kvs, k, d] => if isKey k then some (.dat ((dGet k kvs).getD d)) else none
  | .join, [.str sep, d] => (((seqOf d).bind strs?)).bind fun ss => if (joinS sep ss).length ≤ szMax then some (.dat (.str (joinS sep ss))) else none
  | .split, [.str s, .str [c]] => some (.new (.lst ((splitS c s []).map .str)))
  | b, [d] => bi1 b d
  | _, _ => none
def tyF (sup : Nat → List Nat) : Ty → D → Option Bool
  | .int, .int _ => some true
  | .int, .bl _ => some true
  | .bool, .bl _ => some true
  | .str, .str _ => some true
  | .list, .lst _ => some true
  | .tuple, .tup _ => some true
  | .dict, .dct _ => some true
  | .verr, _ => none
  | .lerr, _ => none
  | .rerr, _ => none
  | .cls _, _ => none
  | _, .obj _ _ => none
  | _, .set _ => none
  | _, .ref _ => none
  | _, .fn _ => none
  | _, .scr _ => none
  | _, .bad => none
  | _, _ => some false
def tysF (sup : Nat → List Nat) : List Ty → D → Option Bool
  | [], _ => some false
  | t :: r, d => match tyF sup t d with | some true => some true | some false => tysF sup r d | none => none
/-- of an exception of the class k -/
def tyX (sup : List Nat) : Ty → Option Bool
  | .cls c => some (sup.contains c)
  | .verr => some true
  | .lerr => some false
  | .rerr => some false
  | _ => none

/-! ### syntax -/
inductive Pat where | v (i : Nat) | t (ps : List Pat)
mutual
inductive ME where
  | non | bl (b : Bool) | int (i : Int) | str (s : List Nat) | fnv (f : Nat) | con (c : Nat)
  | var (i : Nat)
  | bin (op : Op) (a b : ME) | neg (a : ME)
  | cmp (op : Cp) (a b : ME) | chn (o1 o2 : Cp) (a b c : ME) | isN (a : ME) | notN (a : ME) | neR (a b : ME)
  | and (es : List ME) | or (es : List ME) | not (a : ME) | ife (c a b : ME)
  | tup (es : List ME) | lst (es : List ME) | dct (ks vs : List ME)
  | fld (o : ME) (k : Nat) | sub (o i : ME) | slU (o hi : ME) | slL (o lo : ME) | slB (o lo hi : ME) | rev (o : ME)
  | call (f : Nat) (es : List ME) | calv (i : Nat) (es : List ME) | meth (o : ME) (m : Nat) (es : List ME) | make (c : Nat) (es : List ME) | xfl (c : Nat) (es : List ME) (k : Nat)
  | bi (b : BI) (es : List ME) | lenO (e : ME) | isi (a : ME) (ts : List Ty) | srtk (a : ME) (f : Nat) | lsI (it : MI)
  | lc (e : ME) (p : Pat) (it : MI) | lcf (e : ME) (p : Pat) (it : MI) (c : ME)
  | fs (es : List ME) | cell (e : ME)
inductive MI where
  | ex (e : ME) | rg1 (a : ME) | rg2 (a b : ME) | rgd (a b : ME) | enum (e : ME) | zip (a b : ME) | items (e : ME) | vals (e : ME)
end
inductive Tg where | v (i : Nat) | fld (o : ME) (k : Nat) | sub (o i : ME) | t (ts : List Tg)
inductive MS where
  | asg (t : Tg) (e : ME) | par (ts : List Tg) (es : List ME) | aug (t : Tg) (op : Op) (e : ME)
  | expr (e : ME) | app (o e : ME) | ext (o e : ME) | ins (o i e : ME) | popT (t o : Nat)
  | ite (c : ME) (a b : List MS) | whl (c : ME) (b : List MS) | fr (p : Pat) (it : MI) (b : List MS)
  | ret (e : ME) | retN | rais (c : Nat) (es : List ME)
  | tr (b : List MS) (hs : List (Nat × Option Nat × List MS)) | trR (b : List MS) (c : Nat) (h : List MS)
  | pass | brk | cont | frz (i : Nat)

/-! ### the program -/
structure FnD where
  np : Nat
  nv : Nat
  df : List D
  tmp : Bool
  body : List MS
structure Cls where
  ini : Option Nat
  mth : List (Nat × Nat)
  eqm : Option Nat
  lenm : Option Nat
  sup : List Nat
  flds : List Nat
structure Prog where
  fns : List FnD
  cls : List Cls
  con : List D

/-- calls of defs, makings of instances -/
structure Orc where
  call : Nat → List D → Sto → ER Val
  make : Nat → List D → Sto → ER Val
  eqm : Nat → Option Nat
  lenm : Nat → Option Nat
  mth : Nat → Nat → Option Nat
  sup : Nat → List Nat
  flds : Nat → List Nat
  con : Nat → Option D

def drf (st : Sto) : D → Option D | .ref n => st[n]? | .bad => none | d => some d
def fldF : D → Nat → Option D
  | .obj _ fs, k => fs.lookup k
  | _, _ => none
def fldV (fl : Nat → List Nat) (st : Sto) : Val → Nat → Option D
  | .xv c fs, k => if (fl c).contains k then fs.lookup k else none
  | _, _ => none
def isiV (o : Nat → List Nat) (ts : List Ty) (st : Sto) : Val → Option Bool
  | .xv c _ => match ts with | [t] => if (o c).contains c then tyX (o c) t else none | _ => none
  | v => (drf st v.d).bind fun d => tysF o ts d
def kpL : List Val → Option (List D)
  | [] => some []
  | v :: r => match v.kp, kpL r with | some d, some ds => some (d :: ds) | _, _ => none
/-- a built-in's arguments: the first is looked at, the others may be kept -/
def biV (st : Sto) : List Val → Option (List D)
  | [] => none
  | v :: r => match drf st v.d, kpL r with | some z, some ds => some (z :: ds) | _, _ => none
mutual
/-- a value laid into variables: what each gets -/
def patA : Pat → D → Option (List (Nat × D))
  | .v i, d => some [(i, d)]
  | .t ps, d => match d with | .tup ds => patAL ps ds | _ => none
def patAL : List Pat → List D → Option (List (Nat × D))
  | [], ds => match ds with | [] => some [] | _ => none
  | p :: ps, ds => match ds with | d :: r => (match patA p d, patAL ps r with | some a, some b => some (a ++ b) | _, _ => none) | _ => none
end
def setL : List (Nat × D) → Env → Option Env
  | [], E => some E
  | (i, d) :: r, E => if i < E.length then setL r (E.set i (some (.dat d))) else none
def patF (p : Pat) (d : D) (E : Env) : Option Env := match patA p d with | some l => setL l E | none => none
def compL (ev : Env → Sto → ER Val) (cf : Env → Sto → ER Val) (p : Pat) (E : Env) : List D → Sto → List D → ER (List D)
  | [], st, acc => .ok acc.reverse st
  | d :: ds, st, acc => match patF p d E with
    | none => .bad
    | some E' => (cf E' st).nox.bind fun v st1 => ifV v
        ((ev E' st1).nox.bind fun v st2 => (ER.opt v.kp st2).bind fun r st3 => compL ev cf p E ds st3 (r :: acc))
        (compL ev cf p E ds st1 acc) .bad
def keysL (o : Orc) (f : Nat) : List D → Sto → List (D × D) → ER (List (D × D))
  | [], st, acc => .ok acc.reverse st
  | d :: ds, st, acc => (o.call f [d] st).nox.bind fun v st1 => (ER.opt v.kp st1).bind fun k st2 => keysL o f ds st2 ((k, d) :: acc)
def rangeL (lo hi : Int) : Option (List D) := if (hi - lo).toNat ≤ szMax ∧ -(2 ^ 60) ≤ lo ∧ lo ≤ 2 ^ 60 ∧ -(2 ^ 60) ≤ hi ∧ hi ≤ 2 ^ 60 then some ((List.range (hi - lo).toNat).map fun (k : Nat) => .int (lo + k)) else none
def rangeD (hi lo : Int) : Option (List D) := if (hi - lo).toNat ≤ szMax ∧ -(2 ^ 60) ≤ lo ∧ lo ≤ 2 ^ 60 ∧ -(2 ^ 60) ≤ hi ∧ hi ≤ 2 ^ 60 then some ((List.range (hi - lo).toNat).map fun (k : Nat) => .int (hi - k)) else none
def enumL (xs : List D) : List D := xs.zipIdx.map fun p => .tup [.int p.2, p.1]
def fsStr : D → Option (List Nat) | .str s => some s | .int i => some (strOfInt i) | _ => none
def fsL : List D → Option (List Nat)
  | [] => some []
  | d :: r => match fsStr d, fsL r with | some a, some b => some (a ++ b) | _, _ => none
def notV (v : Val) (st : Sto) : ER Val := match v with | .dat (.bl b) => .ok (.dat (.bl (!b))) st | _ => .bad
/-- == of dicts of plain data -/
def eqK (x y : List (D × D)) : Option Bool := if x.all (fun p => pd p.2 pdMax) && y.all (fun p => pd p.2 pdMax) then
  some (x.length == y.length && x.all fun p => match dGet p.1 y with | some v => eqD p.2 v | none => false) else none
/-- == of data, or by __eq__ -/
def eqC (o : Orc) (a b : D) (st : Sto) : ER Val := ER.opt ((eqT a b).map fun t => .dat (.bl t)) st
/-- fields of an exception by the class's order -/
def excF (o : Orc) (c : Nat) (ds : List D) : Option (List (Nat × D)) := if (o.flds c).length == ds.length then some ((o.flds c).zip ds) else none
def clsOf (st : Sto) (d : D) : Option Nat := match drf st d with | some (.obj c _) => some c | _ => none

mutual
def evE (o : Orc) : ME → Env → Sto → ER Val
  | .non, _, st => .ok (.dat .non) st
  | .bl b, _, st => .ok (.dat (.bl b)) st
  | .int i, _, st => .ok (.dat (.int i)) st
  | .str s, _, st => .ok (.dat (.str s)) st
  | .fnv f, _, st => .ok (.dat (.fn f)) st
  | .con c, _, st => ER.opt ((o.con c).map .dat) st
  | .var i, E, st => match E[i]? with
    | some (some (.dat d)) => .ok (.dat d) st
    | some (some (.new d)) => .ok (.bor d) st
    | some (some (.xv c fs)) => .ok (.xv c fs) st
    | _ => .bad
  | .bin op a b, E, st => (evE o a E st).bind fun x st1 => (evE o b E st1).bind fun y st2 => ER.opt (binF op x.d y.d) st2
  | .neg a, E, st => (evE o a E st).bind fun x st1 => match x.d with | .int i => .ok (.dat (.int (-i))) st1 | _ => .bad
  | .cmp op a b, E, st => (evE o a E st).bind fun x st1 => (evE o b E st1).bind fun y st2 => match op with
    | .eq => eqC o x.d y.d st2
    | .ne => (eqC o x.d y.d st2).bind fun t st3 => notV t st3
    | _ => ER.opt ((drf st2 y.d).bind fun z => (cmpF op x.d z).map fun t => .dat (.bl t)) st2
  | .chn o1 o2 a b c, E, st => (evE o a E st).bind fun x st1 => (evE o b E st1).bind fun y st2 => (ER.opt (cmpF o1 x.d y.d) st2).bind fun r st3 =>
      if r then (evE o c E st3).bind fun z st4 => ER.opt ((cmpF o2 y.d z.d).map fun t => .dat (.bl t)) st4 else .ok (.dat (.bl false)) st3
  | .isN a, E, st => (evE o a E st).bind fun x st1 => ER.opt (x.d.isNon.map fun t => .dat (.bl t)) st1
  | .notN a, E, st => (evE o a E st).bind fun x st1 => ER.opt (x.d.isNon.map fun t => .dat (.bl (!t))) st1
  | .neR a b, E, st => (evE o a E st).bind fun x st1 => if repOk x.d then (evE o b E st1).bind fun y st2 => if repOk y.d && same x.d y.d then .ok (.dat (.bl false)) st2 else .bad else .bad
  | .and es, E, st => evAnd o es E st
  | .or es, E, st => evOr o es E st
  | .not a, E, st => (evE o a E st).bind fun x st1 => notV x st1
  | .ife c a b, E, st => (evE o c E st).bind fun x st1 => ifV x (evE o a E st1) (evE o b E st1) .bad
  | .tup es, E, st => (evL o es E st).bind fun vs st1 => ER.opt ((kpL vs).map fun ds => .dat (.tup ds)) st1
  | .lst es, E, st => (evL o es E st).bind fun vs st1 => ER.opt ((kpL vs).map fun ds => .new (.lst ds)) st1
  | .dct ks vs, E, st => (evL o ks E st).bind fun a st1 => (evL o vs E st1).bind fun b st2 => match kpL a, kpL b with
    | some ks, some vs => ER.opt ((dOfL ((ks.zip vs).map fun p => .tup [p.1, p.2]) []).map fun l => .new (.dct l)) st2
    | _, _ => .bad
  | .fld a k, E, st => (evE o a E st).bind fun x st1 => ER.opt ((fldV o.flds st1 x k).map .dat) st1
  | .sub a i, E, st => (evE o a E st).bind fun x st1 => (evE o i E st1).bind fun y st2 => ER.opt (((drf st2 x.d).bind fun d => getF d y.d).map .dat) st2
  | .slU a hi, E, st => (evE o a E st).bind fun x st1 => (evE o hi E st1).bind fun y st2 => match y.d with | .int j => ER.opt ((drf st2 x.d).bind fun d => slcF d none (some j)) st2 | _ => .bad
  | .slL a lo, E, st => (evE o a E st).bind fun x st1 => (evE o lo E st1).bind fun y st2 => match y.d with | .int i => ER.opt ((drf st2 x.d).bind fun d => slcF d (some i) none) st2 | _ => .bad
  | .slB a lo hi, E, st => (evE o a E st).bind fun x st1 => (evE o lo E st1).bind fun y st2 => match y.d with
    | .int i => (evE o hi E st2).bind fun z st3 => (match z.d with | .int j => ER.opt ((drf st3 x.d).bind fun d => slcF d (some i) (some j)) st3 | _ => .bad)
    | _ => .bad
  | .rev a, E, st => (evE o a E st).bind fun x st1 => ER.opt ((drf st1 x.d).bind revF) st1
  | .call f es, E, st => (evL o es E st).bind fun vs st1 => match kpL vs with | some ds => o.call f ds st1 | none => .bad
  | .calv i es, E, st => (evL o es E st).bind fun vs st1 => match E[i]?, kpL vs with | some (some (.dat (.fn f))), some ds => o.call f ds st1 | _, _ => .bad
  | .meth a m es, E, st => (evE o a E st).bind fun x st1 => (evL o es E st1).bind fun vs st2 => match x.kp, kpL vs with
    | some d, some ds => match (clsOf st2 d).bind fun c => o.mth c m with | some f => o.call f (d :: ds) st2 | none => .bad
    | _, _ => .bad
  | .make c es, E, st => (evL o es E st).bind fun vs st1 => match kpL vs with | some ds => o.make c ds st1 | none => .bad
  | .xfl c es k, E, st => (evL o es E st).bind fun vs st1 => ER.opt ((kpL vs).bind fun ds => (excF o c ds).bind fun fs => (fs.lookup k).map .dat) st1
  | .bi b es, E, st => (evL o es E st).bind fun vs st1 => ER.opt ((biV st1 vs).bind (biF b)) st1
  | .lenO e, E, st => (evE o e E st).bind fun v st1 => (ER.opt v.kp st1).bind fun d st2 => match (clsOf st2 d).bind o.lenm with | some f => o.call f [d] st2 | none => .bad
  | .isi a ts, E, st => (evE o a E st).bind fun x st1 => ER.opt ((isiV o.sup ts st1 x).map fun t => .dat (.bl t)) st1
  | .srtk a f, E, st => (evE o a E st).bind fun x st1 => match seqOf x.d with
    | some xs => (keysL o f xs st1 []).bind fun ks st2 => if cmpOk (ks.map (·.1)) then .ok (.new (.lst ((isort (fun a b => ltB a.1 b.1) ks).map (·.2)))) st2 else .bad
    | none => .bad
  | .lsI it, E, st => (evI o false it E st).bind fun ds st1 => .ok (.new (.lst ds)) st1
  | .lc e p it, E, st => (evI o false it E st).bind fun ds st1 => (compL (fun E' st' => evE o e E' st') (fun _ st' => .ok (.dat (.bl true)) st') p E ds st1 []).bind fun l st2 => .ok (.new (.lst l)) st2
  | .lcf e p it c, E, st => (evI o false it E st).bind fun ds st1 => (compL (fun E' st' => evE o e E' st') (fun E' st' => evE o c E' st') p E ds st1 []).bind fun l st2 => .ok (.new (.lst l)) st2
  | .fs es, E, st => (evL o es E st).bind fun vs st1 => ER.opt ((kpL vs).bind fun ds => (fsL ds).map fun s => .dat (.str s)) st1
  | .cell e, E, st => (evE o e E st).bind fun v st1 => match v with | .new d => .ok (.dat (.ref st1.length)) (st1 ++ [d]) | _ => .bad
def evL (o : Orc) : List ME → Env → Sto → ER (List Val)
  | [], _, st => .ok [] st
  | e :: es, E, st => (evE o e E st).bind fun v st1 => (evL o es E st1).bind fun vs st2 => .ok (v :: vs) st2
def evAnd (o : Orc) : List ME → Env → Sto → ER Val
  | [], _, _ => .bad
  | [e], E, st => evE o e E st
  | e :: f :: es, E, st => (evE o e E st).bind fun v st1 => ifV v (evAnd o (f :: es) E st1) (.ok (.dat (.bl false)) st1) .bad
def evOr (o : Orc) : List ME → Env → Sto → ER Val
  | [], _, _ => .bad
  | [e], E, st => evE o e E st
  | e :: f :: es, E, st => (evE o e E st).bind fun v st1 => ifV v (.ok (.dat (.bl true)) st1) (evOr o (f :: es) E st1) .bad
def evI (o : Orc) (k : Bool) : MI → Env → Sto → ER (List D)
  | .ex e, E, st => (evE o e E st).bind fun v st1 => ER.opt ((v.it k).bind itemsOf) st1
  | .rg1 a, E, st => (evE o a E st).bind fun v st1 => match v.d with | .int n => ER.opt (rangeL 0 n) st1 | _ => .bad
  | .rg2 a b, E, st => (evE o a E st).bind fun v st1 => (evE o b E st1).bind fun w st2 => match v.d, w.d with | .int m, .int n => ER.opt (rangeL m n) st2 | _, _ => .bad
  | .rgd a b, E, st => (evE o a E st).bind fun v st1 => (evE o b E st1).bind fun w st2 => match v.d, w.d with | .int m, .int n => ER.opt (rangeD m n) st2 | _, _ => .bad
  | .enum e, E, st => (evE o e E st).bind fun v st1 => ER.opt (((v.it k).bind itemsOf).map enumL) st1
  | .zip a b, E, st => (evE o a E st).bind fun v st1 => (evE o b E st1).bind fun w st2 => match (v.it k).bind seqOf, (w.it k).bind seqOf with
    | some xs, some ys => .ok ((xs.zip ys).map fun p => .tup [p.1, p.2]) st2
    | _, _ => .bad
  | .items e, E, st => (evE o e E st).bind fun v st1 => match v.it k with | some (.dct kvs) => .ok (kvs.map fun p => .tup [p.1, p.2]) st1 | _ => .bad
  | .vals e, E, st => (evE o e E st).bind fun v st1 => match v.it k with | some (.dct kvs) => .ok (kvs.map (·.2)) st1 | _ => .bad
end

/-! ### statements -/
def putFld (k : Nat) (d : D) : List (Nat × D) → List (Nat × D)
  | [] => [(k, d)]
  | (j, e) :: r => if j == k then (k, d) :: r else (j, e) :: putFld k d r
def setFld : D → Nat → D → Option D
  | .obj c fs, k, d => some (.obj c (putFld k d fs))
  | _, _, _ => none
def setSub : D → D → D → Option D
  | .lst xs, .int i, d => (idxAt xs.length i).map fun k => .lst (xs.set k d)
  | _, _, _ => none
/-- change what a place holds: a variable's own container, or a cell -/
def chgE (o : Orc) (b : ME) (f : D → Option D) (E : Env) (st : Sto) : ER Env :=
  match b with
  | .var i => match E[i]? with
    | some (some (.new d)) => (ER.opt (f d) st).bind fun d' st1 => .ok (E.set i (some (.new d'))) st1
    | some (some (.dat (.ref n))) => (ER.opt ((st[n]?).bind f) st).bind fun d' st1 => .ok E (st1.set n d')
    | _ => .bad
  | b => (evE o b E st).bind fun v st1 => match v with
    | .dat (.ref n) => (ER.opt ((st1[n]?).bind f) st1).bind fun d' st2 => .ok E (st2.set n d')
    | _ => .bad
/-- the place's variable is bound; .. is a list -/
def plcB (b : ME) (E : Env) : Bool := match b with | .var k => (match E[k]? with | some (some _) => true | _ => false) | _ => true
def plcL (b : ME) (E : Env) (st : Sto) : Bool := match b with
  | .var k => (match E[k]? with | some (some (.new (.lst _))) => true | some (some (.dat (.ref n))) => (match st[n]? with | some (.lst _) => true | _ => false) | _ => false)
  | _ => true
mutual
def tgF (o : Orc) : Tg → Val → Env → Sto → ER Env
  | .v i, v, E, st => match v with | .bor _ => .bad | .xv _ _ => .bad | v => if i < E.length then .ok (E.set i (some v)) st else .bad
  | .fld b k, v, E, st => match v.kp with | some d => chgE o b (fun c => setFld c k d) E st | none => .bad
  | .sub b i, v, E, st => if plcB b E then (ER.opt v.kp st).bind fun d st0 => (evE o i E st0).bind fun x st1 => (ER.opt x.kp st1).bind fun j st2 => chgE o b (fun c => setSub c j d) E st2 else .bad
  | .t ts, v, E, st => match seqOf v.d with
    | some ds => tgL o ts (ds.map .dat) E st
    | none => .bad
def tgL (o : Orc) : List Tg → List Val → Env → Sto → ER Env
  | [], [], E, st => .ok E st
  | t :: ts, v :: vs, E, st => (tgF o t v E st).bind fun E' st1 => tgL o ts vs E' st1
  | _, _, _, _ => .bad
end
def ER.sr {α : Type} (r : ER α) (E : Env) (f : α → Sto → SR) : SR := match r with | .ok a st => f a st | .ex x st => .ex x E st | .bad => .bad
def forL (p : Pat) (b : Env → Sto → SR) : List D → Env → Sto → SR
  | [], E, st => .nx E st
  | d :: ds, E, st => match patF p d E with
    | none => .bad
    | some E1 => (b E1 st).lp fun E2 st2 => forL p b ds E2 st2
def whlL (c : Env → Sto → ER Val) (b : Env → Sto → SR) : Nat → Env → Sto → SR
  | 0, _, _ => .bad
  | n + 1, E, st => (c E st).sr E fun v st1 => ifV v ((b E st1).lp fun E2 st2 => whlL c b n E2 st2) (.nx E st1) .bad
def whlMax : Nat := 1000000
def oneD : Val → D := Val.d
mutual
def exS (o : Orc) : MS → Env → Sto → SR
  | .asg t e, E, st => (evE o e E st).sr E fun v st1 => (tgF o t v E st1).sr E fun E' st2 => .nx E' st2
  | .par ts es, E, st => (evL o es E st).sr E fun vs st1 => (tgL o ts vs E st1).sr E fun E' st2 => .nx E' st2
  | .aug t op e, E, st => match t with
    | .v i => match E[i]? with
      | some (some (.dat x)) => (evE o e E st).sr E fun y st1 => match binF op x y.d with | some (.dat z) => .nx (E.set i (some (.dat z))) st1 | _ => .bad
      | _ => .bad
    | .fld b k => (evE o (.fld b k) E st).sr E fun x st1 => (evE o e E st1).sr E fun y st2 => match binF op x.d y.d with
      | some (.dat z) => (chgE o b (fun c => setFld c k z) E st2).sr E fun E' st3 => .nx E' st3
      | _ => .bad
    | .sub b i => (evE o i E st).sr E fun j st1 => (evE o b E st1).sr E fun c st2 => match j.kp, (drf st2 c.d).bind (fun d => getF d j.d) with
      | some jd, some x => (evE o e E st2).sr E fun y st3 => match binF op x y.d with
        | some (.dat z) => (chgE o b (fun c => setSub c jd z) E st3).sr E fun E' st4 => .nx E' st4
        | _ => .bad
      | _, _ => .bad
    | .t _ => .bad
  | .expr e, E, st => (evE o e E st).sr E fun _ st1 => .nx E st1
  | .app b e, E, st => if !plcL b E st then .bad else (evE o e E st).sr E fun v st1 => match v.kp with
    | some d => (chgE o b (fun c => match c with | .lst xs => if xs.length < szMax then some (.lst (xs ++ [d])) else none | _ => none) E st1).sr E fun E' st2 => .nx E' st2
    | none => .bad
  | .ext b e, E, st => if !plcL b E st then .bad else (evE o e E st).sr E fun v st1 => match (drf st1 v.d).bind seqOf with
    | some ds => (chgE o b (fun c => match c with | .lst xs => if xs.length + ds.length ≤ szMax then some (.lst (xs ++ ds)) else none | _ => none) E st1).sr E fun E' st2 => .nx E' st2
    | none => .bad
  | .ins b i e, E, st => if !plcL b E st then .bad else (evE o i E st).sr E fun j st1 => (evE o e E st1).sr E fun v st2 => match j.d, v.kp with
    | .int k, some d => (chgE o b (fun c => match c with | .lst xs => if xs.length < szMax ∧ 0 ≤ k ∧ k < 2 ^ 62 then some (.lst (xs.take (clampI xs.length k) ++ d :: xs.drop (clampI xs.length k))) else none | _ => none) E st2).sr E fun E' st3 => .nx E' st3
    | _, _ => .bad
  | .popT t i, E, st => match E[i]? with
    | some (some (.new (.lst xs))) => match xs.getLast? with
      | some (.ref n) => match st[n]? with
        | some (.lst ds) => if t < E.length then .nx ((E.set i (some (.new (.lst xs.dropLast)))).set t (some (.dat (.tup ds)))) st else .bad
        | _ => .bad
      | _ => .bad
    | _ => .bad
  | .ite c a b, E, st => (evE o c E st).sr E fun v st1 => ifV v (exB o a E st1) (exB o b E st1) .bad
  | .whl c b, E, st => whlL (fun E' st' => evE o c E' st') (fun E' st' => exB o b E' st') whlMax E st
  | .fr p it b, E, st => (evI o true it E st).sr E fun ds st1 => forL p (fun E' st' => exB o b E' st') ds E st1
  | .ret e, E, st => (evE o e E st).sr E fun v st1 => match v with | .xv _ _ => .bad | v => .rt v.out st1
  | .retN, _, st => .rt (.dat .non) st
  | .rais c es, E, st => if !(o.sup c).contains c then .bad else (evL o es E st).sr E fun vs st1 => match (kpL vs).bind (excF o c) with | some fs => .ex ⟨c, fs⟩ E st1 | none => .bad
  | .tr b hs, E, st => (exB o b E st).try fun x E1 st1 => if (o.sup x.c).contains x.c then exH o x hs E1 st1 else .bad
  | .trR b c h, E, st => (exB o b E st).try fun x E1 st1 => if (o.sup x.c).contains c then (exB o h E1 st1).rer x else .ex x E1 st1
  | .pass, E, st => .nx E st
  | .brk, E, st => .bk E st
  | .cont, E, st => .ct E st
  | .frz i, E, st => match E[i]? with
    | some (some (.new d)) => if d.isSet then .bad else .nx (E.set i (some (.dat d))) st
    | _ => .nx E st
def exB (o : Orc) : List MS → Env → Sto → SR
  | [], E, st => .nx E st
  | s :: ss, E, st => (exS o s E st).seq fun E1 st1 => exB o ss E1 st1
def exH (o : Orc) (x : Exc) : List (Nat × Option Nat × List MS) → Env → Sto → SR
  | [], E, st => .ex x E st
  | (c, sl, h) :: r, E, st => if (o.sup x.c).contains c then
      match sl with
      | none => (exB o h E st).nox
      | some i => if i < E.length then (exB o h (E.set i (some (.xv x.c x.fs))) st).nox.del i else .bad
    else exH o x r E st
end

/-! ### calls -/
mutual
def noRef (n : Nat) : D → Bool
  | .ref k => decide (k < n)
  | .tup xs => noRefL n xs
  | .lst xs => noRefL n xs
  | .set xs => noRefL n xs
  | .dct kvs => noRefK n kvs
  | .obj _ fs => noRefF n fs
  | _ => true
def noRefL (n : Nat) : List D → Bool
  | [] => true
  | x :: r => noRef n x && noRefL n r
def noRefK (n : Nat) : List (D × D) → Bool
  | [] => true
  | (k, v) :: r => noRef n k && noRef n v && noRefK n r
def noRefF (n : Nat) : List (Nat × D) → Bool
  | [] => true
  | (_, v) :: r => noRef n v && noRefF n r
end
/-- cells made in a call are dropped where nothing tells of them -/
def trim (t : Bool) (n : Nat) (r : ER Val) : ER Val := match r with
  | .ok v st => if t then (if noRef n v.d && noRefL n (st.take n) then .ok v (st.take n) else .bad) else .ok v st
  | r => r
def runF (o : Orc) (b : List MS) (E : Env) (st : Sto) : ER Val := match exB o b E st with
  | .nx _ st1 => .ok (.dat .non) st1
  | .rt v st1 => .ok v st1
  | .ex x _ st1 => .ex x st1
  | _ => .bad
def runI (o : Orc) (b : List MS) (E : Env) (st : Sto) : ER Val := match exB o b E st with
  | .nx E1 st1 => match E1.head? with | some (some (.new d)) => .ok (.new d) st1 | _ => .bad
  | .ex x _ st1 => .ex x st1
  | _ => .bad
def envOf (fd : FnD) (vs : List Val) : Option Env :=
  if vs.length ≤ fd.np ∧ fd.np ≤ vs.length + fd.df.length then some (vs.map some ++ (fd.df.drop (vs.length + fd.df.length - fd.np)).map (fun d => some (.dat d)) ++ List.replicate (fd.nv - fd.np) none) else none
def orc (p : Prog) (call make : Nat → List D → Sto → ER Val) : Orc where
  call := call
  make := make
  eqm := fun c => (p.cls[c]?).bind (·.eqm)
  lenm := fun c => (p.cls[c]?).bind (·.lenm)
  mth := fun c m => (p.cls[c]?).bind fun k => k.mth.lookup m
  sup := fun c => match p.cls[c]? with | some k => k.sup | none => []
  flds := fun c => match p.cls[c]? with | some k => k.flds | none => []
  con := fun c => p.con[c]?
def callN (p : Prog) : Nat → Bool → Nat → List D → Sto → ER Val
  | 0, _, _, _, _ => .bad
  | n + 1, false, f, ds, st => match p.fns[f]? with
    | none => .bad
    | some fd => match envOf fd (ds.map .dat) with
      | none => .bad
      | some E => trim fd.tmp st.length (runF (orc p (callN p n false) (callN p n true)) fd.body E st)
  | n + 1, true, c, ds, st => match (p.cls[c]?).bind (·.ini) with
    | none => .bad
    | some f => match p.fns[f]? with
      | none => .bad
      | some fd => match envOf fd (.new (.obj c []) :: ds.map .dat) with
        | none => .bad
        | some E => runI (orc p (callN p n false) (callN p n true)) fd.body E st
abbrev O (p : Prog) (n : Nat) : Orc := orc p (callN p n false) (callN p n true)
end Mp

end
section
set_option Elab.async false
set_option linter.all false
set_option maxRecDepth 100000
set_option maxHeartbeats 4000000
/-! S1: how data lies in the heap; what is kept; the simulation. -/
namespace Mp
open PySem PySem.Spec PyProof.Rows L2

/-- the text's link: names, the addresses of classes and defs -/
structure Lk where
  K : PySem.W.Frag
  nm : Nat → Str
  cad : Nat → Addr
  fad : Nat → Addr

/-- a tuple, a list of the module's own -/
def KT (K : PySem.W.Frag) (a : Addr) (xs : List V) : Prop := ∃ (o : Obj) (its : Array Value) (n : Nat), K.lookup a = some o ∧ o.cls = .type "tuple" ∧ o.data = .seq its n ∧ its.size ≤ sizeLine ∧ Vals xs its.toList
def KL (K : PySem.W.Frag) (a : Addr) (xs : List V) : Prop := ∃ (o : Obj) (its : Array Value) (n : Nat), K.lookup a = some o ∧ o.cls = .type "list" ∧ o.dict = none ∧ o.data = .seq its n ∧ its.size ≤ sizeLine ∧ Vals xs its.toList
def strV (s : List Nat) : Str := ⟨s.toArray⟩
def keyOf : D → Option Key
  | .int i => some (.inl i)
  | .str s => some (.inr (strV s))
  | _ => none

mutual
/-- data that is kept: nothing in it is changed any more (F: the objects of kept data) -/
def Rep (L : Lk) (m : List Addr) (F : Addr → Prop) (H : Hp) : D → V → Prop
  | .non, v => v = .non
  | .bl b, v => v = .bl b
  | .int i, v => v = .int i
  | .str s, v => v = .str (strV s) ∧ s.length ≤ szMax ∧ ∀ c ∈ s, c < 1114112
  | .tup xs, v => ∃ a vs, v = .ref a ∧ (F a ∧ Rd H a (.tup vs) ∨ KT L.K a vs) ∧ RepL L m F H xs vs ∧ xs.length ≤ szMax
  | .lst xs, v => ∃ a vs, v = .ref a ∧ F a ∧ H a = some (.lst vs) ∧ RepL L m F H xs vs ∧ xs.length ≤ szMax
  | .dct kvs, v => ∃ a ks, v = .ref a ∧ F a ∧ Rd H a (.dK ks) ∧ RepK L m F H kvs ks ∧ kvs.length ≤ szMax
  | .set _, _ => False
  | .obj c fs, v => ∃ a dx fv, v = .ref a ∧ F a ∧ H a = some (.ins (L.cad c) dx fv) ∧ RepF L m F H fs fv
  | .ref n, v => ∃ a, v = .ref a ∧ m[n]? = some a
  | .fn f, v => v = .ref (L.fad f)
  | .scr xs, v => ∃ a, v = .ref a ∧ (F a ∧ Rd H a (.lst (xs.map V.int)) ∨ KL L.K a (xs.map V.int)) ∧ xs.length ≤ szMax
  | .bad, _ => False
def RepL (L : Lk) (m : List Addr) (F : Addr → Prop) (H : Hp) : List D → List V → Prop
  | [], [] => True
  | d :: ds, v :: vs => Rep L m F H d v ∧ RepL L m F H ds vs
  | _, _ => False
def RepK (L : Lk) (m : List Addr) (F : Addr → Prop) (H : Hp) : List (D × D) → List (Key × V) → Prop
  | [], [] => True
  | (k, d) :: r, (q, v) :: s => keyOf k = some q ∧ Rep L m F H d v ∧ RepK L m F H r s
  | _, _ => False
def RepF (L : Lk) (m : List Addr) (F : Addr → Prop) (H : Hp) : List (Nat × D) → List (Str × V) → Prop
  | [], [] => True
  | (k, d) :: r, (q, v) :: s => q = L.nm k ∧ Rep L m F H d v ∧ RepF L m F H r s
  | _, _ => False
end
/-- a container by itself: it may be changed -/
def ORep (L : Lk) (m : List Addr) (F : Addr → Prop) (H : Hp) (a : Addr) : D → Prop
  | .lst xs => ∃ vs, H a = some (.lst vs) ∧ RepL L m F H xs vs ∧ xs.length ≤ szMax
  | .dct kvs => ∃ ks, H a = some (.dK ks) ∧ RepK L m F H kvs ks ∧ kvs.length ≤ szMax
  | .obj c fs => ∃ dx fv, H a = some (.ins (L.cad c) dx fv) ∧ RepF L m F H fs fv
  | .set xs => ∃ S n, H a = some (.set S n) ∧ n = xs.length ∧ (∀ i : Int, S i = xs.any fun d => match d with | .int j => i == j | _ => false) ∧ (∀ d ∈ xs, ∃ i, d = .int i) ∧ xs.length ≤ szMax
  | _ => False
/-- data that is looked at -/
def Look (L : Lk) (m : List Addr) (F : Addr → Prop) (H : Hp) : D → V → Prop
  | .lst xs, v => ∃ a vs, v = .ref a ∧ H a = some (.lst vs) ∧ RepL L m F H xs vs ∧ xs.length ≤ szMax
  | .dct kvs, v => ∃ a ks, v = .ref a ∧ Rd H a (.dK ks) ∧ RepK L m F H kvs ks ∧ kvs.length ≤ szMax
  | .obj c fs, v => ∃ a dx fv, v = .ref a ∧ H a = some (.ins (L.cad c) dx fv) ∧ RepF L m F H fs fv
  | .set xs, v => ∃ a, v = .ref a ∧ ORep L m F H a (.set xs)
  | d, v => Rep L m F H d v

/-- an object of kept data stays (a dict may be locked) -/
def Stay (H H' : Hp) (a : Addr) : Prop := ∀ o, H a = some o → H' a = some o ∨ ∃ ob ks, o = .dK ks ∧ H' a = some (.frz ob (.dK ks))
theorem Stay.of {H H' : Hp} {a : Addr} (h : ∀ o, H a = some o → H' a = some o) : Stay H H' a := fun o e => .inl (h o e)
theorem Stay.refl {H : Hp} {a : Addr} : Stay H H a := fun o e => .inl e
theorem Stay.rd {H H' : Hp} {a : Addr} {u : HO} (s : Stay H H' a) (h : Rd H a u) : Rd H' a u := by
  rcases h with h | ⟨ob, h⟩
  · rcases s _ h with e | ⟨ob, ks, rfl, e⟩
    · exact .inl e
    · exact .inr ⟨ob, e⟩
  · rcases s _ h with e | ⟨ob', ks, e1, e⟩
    · exact .inr ⟨ob, e⟩
    · cases e1
theorem Stay.ins {H H' : Hp} {a C dx : Addr} {fs : List (Str × V)} (s : Stay H H' a) (h : H a = some (.ins C dx fs)) : H' a = some (.ins C dx fs) := by
  rcases s _ h with e | ⟨ob, ks, e1, e⟩
  · exact e
  · cases e1
theorem Stay.xd {H H' : Hp} {a : Addr} {fs : List (Str × V)} (s : Stay H H' a) (h : H a = some (.xd fs)) : H' a = some (.xd fs) := by
  rcases s _ h with e | ⟨ob, ks, e1, e⟩
  · exact e
  · cases e1
theorem Stay.lst {H H' : Hp} {a : Addr} {fs : List V} (s : Stay H H' a) (h : H a = some (.lst fs)) : H' a = some (.lst fs) := by
  rcases s _ h with e | ⟨ob, ks, e1, e⟩
  · exact e
  · cases e1
theorem Stay.sqL {K : PySem.W.Frag} {H H' : Hp} {a : Addr} {xs : List V} (s : Stay H H' a) (h : SqL K H a xs) : SqL K H' a xs := h.imp s.rd id
theorem Stay.sqT {K : PySem.W.Frag} {H H' : Hp} {a : Addr} {xs : List V} (s : Stay H H' a) (h : SqT K H a xs) : SqT K H' a xs := h.imp s.rd id
theorem Stay.trans {H H' H'' : Hp} {a : Addr} (s : Stay H H' a) (t : Stay H' H'' a) : Stay H H'' a := fun o e => by
  rcases s o e with e1 | ⟨ob, ks, rfl, e1⟩
  · exact t o e1
  · rcases t _ e1 with e2 | ⟨ob2, ks2, e3, e2⟩
    · exact .inr ⟨_, _, rfl, e2⟩
    · cases e3
theorem Stay.there {H H' : Hp} {a : Addr} (s : Stay H H' a) (h : H a ≠ none) : H' a ≠ none := by
  cases e : H a with
  | none => exact absurd e h
  | some o =>
    rcases s o e with e1 | ⟨_, _, _, e1⟩ <;> (rw [e1]; exact fun z => nomatch z)

/-- what is known may be read on: more cells, more kept, kept objects stay -/
structure Mono (m : List Addr) (F : Addr → Prop) (H : Hp) (m' : List Addr) (F' : Addr → Prop) (H' : Hp) : Prop where
  mp : ∀ (n : Nat) (a : Addr), m[n]? = some a → m'[n]? = some a
  fm : ∀ a, F a → F' a
  st : ∀ a, F a → Stay H H' a
theorem Mono.refl {m : List Addr} {F : Addr → Prop} {H : Hp} : Mono m F H m F H := ⟨fun _ _ h => h, fun _ h => h, fun _ _ => Stay.refl⟩
section
variable {L : Lk} {m m' : List Addr} {F F' : Addr → Prop} {H H' : Hp}
mutual
theorem Rep.mono (M : Mono m F H m' F' H') : ∀ (d : D) (v : V), Rep L m F H d v → Rep L m' F' H' d v
  | .non, v, h => by simpa [Rep] using h
  | .bl b, v, h => by simpa [Rep] using h
  | .int i, v, h => by simpa [Rep] using h
  | .str s, v, h => by simpa [Rep] using h
  | .tup xs, v, h => by
    simp only [Rep] at h ⊢
    obtain ⟨a, vs, e, hf, hr, hz⟩ := h
    exact ⟨a, vs, e, hf.imp (fun q => ⟨M.fm a q.1, (M.st a q.1).rd q.2⟩) id, RepL.mono M xs vs hr, hz⟩
  | .lst xs, v, h => by
    simp only [Rep] at h ⊢
    obtain ⟨a, vs, e, hf, hs, hr, hz⟩ := h
    exact ⟨a, vs, e, M.fm a hf, (M.st a hf).lst hs, RepL.mono M xs vs hr, hz⟩
  | .dct kvs, v, h => by
    simp only [Rep] at h ⊢
    obtain ⟨a, ks, e, hf, hs, hr, hz⟩ := h
    exact ⟨a, ks, e, M.fm a hf, (M.st a hf).rd hs, RepK.mono M kvs ks hr, hz⟩
  | .set xs, v, h => by simp only [Rep] at h
  | .obj c fs, v, h => by
    simp only [Rep] at h ⊢
    obtain ⟨a, dx, fv, e, hf, hs, hr⟩ := h
    exact ⟨a, dx, fv, e, M.fm a hf, (M.st a hf).ins hs, RepF.mono M fs fv hr⟩
  | .ref n, v, h => by
    simp only [Rep] at h ⊢
    obtain ⟨a, e, hm⟩ := h
    exact ⟨a, e, M.mp n a hm⟩
  | .fn f, v, h => by simpa [Rep] using h
  | .scr xs, v, h => by
    simp only [Rep] at h ⊢
    obtain ⟨a, e, hf, hz⟩ := h
    exact ⟨a, e, hf.imp (fun q => ⟨M.fm a q.1, (M.st a q.1).rd q.2⟩) id, hz⟩
  | .bad, v, h => by simp only [Rep] at h
theorem RepL.mono (M : Mono m F H m' F' H') : ∀ (ds : List D) (vs : List V), RepL L m F H ds vs → RepL L m' F' H' ds vs
  | [], [], _ => by simp only [RepL]
  | d :: ds, v :: vs, h => by
    simp only [RepL] at h ⊢
    exact ⟨Rep.mono M d v h.1, RepL.mono M ds vs h.2⟩
  | [], _ :: _, h => by simp only [RepL] at h
  | _ :: _, [], h => by simp only [RepL] at h
theorem RepK.mono (M : Mono m F H m' F' H') : ∀ (ds : List (D × D)) (vs : List (Key × V)), RepK L m F H ds vs → RepK L m' F' H' ds vs
  | [], [], _ => by simp only [RepK]
  | (k, d) :: ds, (q, v) :: vs, h => by
    simp only [RepK] at h ⊢
    exact ⟨h.1, Rep.mono M d v h.2.1, RepK.mono M ds vs h.2.2⟩
  | [], _ :: _, h => by simp only [RepK] at h
  | _ :: _, [], h => by simp only [RepK] at h
theorem RepF.mono (M : Mono m F H m' F' H') : ∀ (ds : List (Nat × D)) (vs : List (Str × V)), RepF L m F H ds vs → RepF L m' F' H' ds vs
  | [], [], _ => by simp only [RepF]
  | (k, d) :: ds, (q, v) :: vs, h => by
    simp only [RepF] at h ⊢
    exact ⟨h.1, Rep.mono M d v h.2.1, RepF.mono M ds vs h.2.2⟩
  | [], _ :: _, h => by simp only [RepF] at h
  | _ :: _, [], h => by simp only [RepF] at h
end
theorem ORep.mono {a : Addr} {d : D} (M : Mono m F H m' F' H') (he : ∀ o, H a = some o → H' a = some o) (h : ORep L m F H a d) : ORep L m' F' H' a d := by
  cases d <;> simp only [ORep] at h ⊢ <;> try exact h
  · obtain ⟨vs, e, r, z⟩ := h; exact ⟨vs, he _ e, RepL.mono M _ _ r, z⟩
  · obtain ⟨vs, e, r, z⟩ := h; exact ⟨vs, he _ e, RepK.mono M _ _ r, z⟩
  · obtain ⟨S, n, e, r⟩ := h; exact ⟨S, n, he _ e, r⟩
  · obtain ⟨dx, fv, e, r⟩ := h; exact ⟨dx, fv, he _ e, RepF.mono M _ _ r⟩
theorem ORep.there {a : Addr} {d : D} (h : ORep L m F H a d) : H a ≠ none := by
  cases d <;> simp only [ORep] at h
  · obtain ⟨vs, e, r, z⟩ := h; rw [e]; exact fun z => nomatch z
  · obtain ⟨vs, e, r, z⟩ := h; rw [e]; exact fun z => nomatch z
  · obtain ⟨S, n, e, r⟩ := h; rw [e]; exact fun z => nomatch z
  · obtain ⟨dx, fv, e, r⟩ := h; rw [e]; exact fun z => nomatch z
/-- kept from now on -/
theorem ORep.kept {a : Addr} {d : D} (hf : F a) (h : ORep L m F H a d) (ns : ∀ xs, d ≠ .set xs) : Rep L m F H d (.ref a) := by
  cases d <;> simp only [ORep, Rep] at h ⊢ <;> try exact h.elim
  · obtain ⟨vs, e, r, z⟩ := h; exact ⟨a, vs, rfl, hf, e, r, z⟩
  · obtain ⟨vs, e, r, z⟩ := h; exact ⟨a, vs, rfl, hf, .inl e, r, z⟩
  · exact ns _ rfl
  · obtain ⟨dx, fv, e, r⟩ := h; exact ⟨a, dx, fv, rfl, hf, e, r⟩
theorem ORep.look {a : Addr} {d : D} (h : ORep L m F H a d) : Look L m F H d (.ref a) := by
  cases d <;> simp only [ORep, Look] at h ⊢ <;> try exact h.elim
  · obtain ⟨vs, e, r, z⟩ := h; exact ⟨a, vs, rfl, e, r, z⟩
  · obtain ⟨vs, e, r, z⟩ := h; exact ⟨a, vs, rfl, .inl e, r, z⟩
  · exact ⟨a, rfl, h⟩
  · obtain ⟨dx, fv, e, r⟩ := h; exact ⟨a, dx, fv, rfl, e, r⟩
theorem Rep.look {d : D} {v : V} (h : Rep L m F H d v) : Look L m F H d v := by
  cases d with
  | lst xs => simp only [Rep, Look] at h ⊢; obtain ⟨a, vs, e, _, r⟩ := h; exact ⟨a, vs, e, r⟩
  | dct kvs => simp only [Rep, Look] at h ⊢; obtain ⟨a, vs, e, _, r⟩ := h; exact ⟨a, vs, e, r⟩
  | set xs => simp only [Rep] at h
  | obj c fs => simp only [Rep, Look] at h ⊢; obtain ⟨a, dx, fv, e, _, r⟩ := h; exact ⟨a, dx, fv, e, r⟩
  | _ => simpa only [Look] using h
end

/-! ### what a piece of code keeps -/
structure Ext (m : List Addr) (F : Addr → Prop) (H : Hp) (m' : List Addr) (F' : Addr → Prop) (H' : Hp) : Prop where
  mp : ∃ l, m' = m ++ l ∧ ∀ a ∈ l, H a = none
  fm : ∀ a, F a → F' a
  fn : ∀ a, F' a → F a ∨ H a = none
  kp : ∀ a o, H a = some o → a ∉ m → ¬ F a → H' a = some o
  st : ∀ a, F a → Stay H H' a
  tr : ∀ a, H' a = none → H a = none
/-- the cells and the kept objects -/
structure Wd (L : Lk) (m : List Addr) (F : Addr → Prop) (st : Sto) (H : Hp) : Prop where
  ce : ∀ (n : Nat) (d : D), st[n]? = some d → ∃ a : Addr, m[n]? = some a ∧ ORep L m F H a d
  ln : m.length = st.length
  nd : m.Nodup
  ft : ∀ a, F a → H a ≠ none ∧ a ∉ m
section
variable {L : Lk} {m m' m'' : List Addr} {F F' F'' : Addr → Prop} {H H' H'' : Hp} {st st' : Sto}
theorem Ext.refl : Ext m F H m F H := ⟨⟨[], by simp, by simp⟩, fun _ h => h, fun _ h => .inl h, fun _ _ h _ _ => h, fun _ _ => Stay.refl, fun _ h => h⟩
theorem Ext.mono (x : Ext m F H m' F' H') : Mono m F H m' F' H' := ⟨fun n a h => by
  obtain ⟨l, rfl, _⟩ := x.mp
  rw [List.getElem?_append_left (List.getElem?_eq_some_iff.mp h).1]; exact h, x.fm, x.st⟩
theorem Ext.there (x : Ext m F H m' F' H') {a : Addr} (h : H a ≠ none) : H' a ≠ none := fun z => h (x.tr a z)
theorem Ext.trans (x : Ext m F H m' F' H') (y : Ext m' F' H' m'' F'' H'') : Ext m F H m'' F'' H'' := by
  obtain ⟨l, rfl, hl⟩ := x.mp
  obtain ⟨l2, rfl, hl2⟩ := y.mp
  refine ⟨⟨l ++ l2, by rw [List.append_assoc], fun a ha => ?_⟩, fun a h => y.fm a (x.fm a h), fun a h => ?_, fun a o e hm hf => ?_, fun a h => (x.st a h).trans (y.st a (x.fm a h)), fun a h => x.tr a (y.tr a h)⟩
  · rcases List.mem_append.mp ha with ha | ha
    · exact hl a ha
    · exact x.tr a (hl2 a ha)
  · rcases y.fn a h with h | h
    · exact x.fn a h
    · exact .inr (x.tr a h)
  · refine y.kp a o (x.kp a o e hm hf) (fun z => ?_) fun z => ?_
    · rcases List.mem_append.mp z with z | z
      · exact hm z
      · have := hl a z; rw [e] at this; cases this
    · rcases x.fn a z with z | z
      · exact hf z
      · rw [e] at z; cases z
/-- an own container that is no cell and not kept stays as it is -/
theorem Ext.own (x : Ext m F H m' F' H') {a : Addr} (ha : H a ≠ none) (hm : a ∉ m) (hf : ¬ F a) : (∀ o, H a = some o → H' a = some o) ∧ ¬ F' a ∧ a ∉ m' := by
  refine ⟨fun o e => x.kp a o e hm hf, fun z => ?_, fun z => ?_⟩
  · rcases x.fn a z with z | z
    · exact hf z
    · exact ha z
  · obtain ⟨l, rfl, hl⟩ := x.mp
    rcases List.mem_append.mp z with z | z
    · exact hm z
    · exact ha (hl a z)
end
end Mp

end
section
set_option Elab.async false
set_option linter.all false
set_option maxRecDepth 100000
set_option maxHeartbeats 4000000
/-! S2: the simulation of a state; the reading of an expression by the evaluator. -/
namespace Mp
open PySem PySem.Spec PyProof.Rows L2

/-- the exception that is handled: its variable, its address, its class, its own dict -/
structure Xi where
  i : Nat
  a : Addr
  cls : Value
  d : Option Addr
/-- the state at a def's entry -/
structure Bs where
  m : List Addr
  F : Addr → Prop
  H : Hp
  x : Option Xi
def XRep (L : Lk) (m : List Addr) (F : Addr → Prop) (H : Hp) (c : Nat) (fs : List (Nat × D)) (cls : Value) (d : Option Addr) : Prop :=
  cls = .ref (L.cad c) ∧ match d with
    | none => fs = []
    | some dd => F dd ∧ ∃ fv, H dd = some (.xd fv) ∧ RepF L m F H fs fv
/-- a variable's value -/
def SlR (L : Lk) (B : Bs) (m : List Addr) (F : Addr → Prop) (H : Hp) (i : Nat) : Val → V → Prop
  | .dat d, x => Rep L m F H d x
  | .new d, x => ∃ a, x = .ref a ∧ ORep L m F H a d ∧ ¬ F a ∧ a ∉ m ∧ B.H a = none
  | .bor _, _ => False
  | .xv c fs, x => ∃ q, B.x = some q ∧ q.i = i ∧ x = .ref q.a ∧ XRep L m F H c fs q.cls q.d
def OwnAt (E : Env) (σ : L2.St) (i : Nat) (a : Addr) : Prop := (∃ d, E[i]? = some (some (.new d))) ∧ σ[i]? = some (some (.ref a))
structure Sim (L : Lk) (B : Bs) (m : List Addr) (F : Addr → Prop) (E : Env) (st : Sto) (σ : L2.St) (H : Hp) : Prop where
  wd : Wd L m F st H
  ex : Ext B.m B.F B.H m F H
  sl : ∀ (i : Nat) (v : Val), E[i]? = some (some v) → ∃ x, σ[i]? = some (some x) ∧ SlR L B m F H i v x
  ln : E.length = σ.length
  ij : ∀ i j a, OwnAt E σ i a → OwnAt E σ j a → i = j
/-- an expression's value; H0: the heap ahead of it -/
def VRep (L : Lk) (m : List Addr) (F : Addr → Prop) (H : Hp) (E : Env) (σ : L2.St) (H0 : Hp) : Val → V → Prop
  | .dat d, x => Rep L m F H d x
  | .new d, x => ∃ a, x = .ref a ∧ ORep L m F H a d ∧ ¬ F a ∧ a ∉ m ∧ H0 a = none
  | .bor d, x => ∃ i : Nat, E[i]? = some (some (.new d)) ∧ σ[i]? = some (some x)
  | .xv c fs, x => ∃ i : Nat, E[i]? = some (some (.xv c fs)) ∧ σ[i]? = some (some x)
section
variable {L : Lk} {B : Bs} {W : WX} {o : Orc} {m m0 m1 m2 m' : List Addr} {F F0 F1 F2 F' : Addr → Prop} {H H0 H1 H2 H' : Hp} {E : Env} {st st' : Sto} {σ : L2.St} {Q : V → Hp → Prop} {me : ME}

theorem XRep.mono {c : Nat} {fs : List (Nat × D)} {cls : Value} {d : Option Addr} (M : Mono m F H m' F' H') (h : XRep L m F H c fs cls d) : XRep L m' F' H' c fs cls d := by
  obtain ⟨e, h⟩ := h
  refine ⟨e, ?_⟩
  cases d with
  | none => exact h
  | some dd => obtain ⟨f, fv, e, r⟩ := h; exact ⟨M.fm _ f, fv, (M.st _ f).xd e, RepF.mono M _ _ r⟩
theorem VRep.ext {v : Val} {x : V} (X : Ext m F H m' F' H') (h : VRep L m F H E σ H0 v x) : VRep L m' F' H' E σ H0 v x := by
  cases v with
  | dat d => exact Rep.mono X.mono _ _ h
  | new d =>
    obtain ⟨a, e, r, nf, nm, n0⟩ := h
    obtain ⟨k, nf', nm'⟩ := X.own r.there nm nf
    exact ⟨a, e, r.mono X.mono k, nf', nm', n0⟩
  | bor d => exact h
  | xv c fs => exact h
theorem VRep.base {v : Val} {x : V} (n : ∀ a, H0 a = none → H1 a = none) (h : VRep L m F H E σ H0 v x) : VRep L m F H E σ H1 v x := by
  cases v with
  | dat d => exact h
  | new d => obtain ⟨a, e, r, nf, nm, n0⟩ := h; exact ⟨a, e, r, nf, nm, n a n0⟩
  | bor d => exact h
  | xv c fs => exact h
theorem VRep.look {v : Val} {x : V} (S : Sim L B m F E st σ H) (h : VRep L m F H E σ H0 v x) : Look L m F H v.d x ∨ v.d = .bad := by
  cases v with
  | dat d => exact .inl (Rep.look h)
  | new d => obtain ⟨a, rfl, r, _⟩ := h; exact .inl r.look
  | bor d =>
    obtain ⟨i, e, e2⟩ := h
    obtain ⟨y, e3, a, rfl, r, _⟩ := S.sl i _ e
    rw [e2] at e3; cases e3
    exact .inl r.look
  | xv c fs => exact .inr rfl

/-! ### a new object -/
theorem Ext.fresh {p : Addr} {u : HO} (hp : H p = none) : Ext m F H m F (upd H p u) :=
  ⟨⟨[], by simp, by simp⟩, fun _ h => h, fun _ h => .inl h, fun a o e _ _ => by rw [upd_ne (ne_of_none e hp)]; exact e, fun a _ => Stay.of fun o e => by rw [upd_ne (ne_of_none e hp)]; exact e,
    fun a h => by
      by_cases e : a = p
      · rw [e, upd_same] at h; cases h
      · rw [upd_ne e] at h; exact h⟩
theorem Sim.step (S : Sim L B m F E st σ H) (X : Ext m F H m F H') (w : ∀ (n : Nat) (a : Addr) o, m[n]? = some a → H a = some o → H' a = some o) : Sim L B m F E st σ H' := by
  have M := X.mono
  refine ⟨⟨fun n d e => ?_, S.wd.ln, S.wd.nd, fun a f => ⟨X.there (S.wd.ft a f).1, (S.wd.ft a f).2⟩⟩, S.ex.trans X, fun i v e => ?_, S.ln, S.ij⟩
  · obtain ⟨a, e1, r⟩ := S.wd.ce n d e
    exact ⟨a, e1, r.mono M fun o q => w n a o e1 q⟩
  · obtain ⟨x, e1, r⟩ := S.sl i v e
    refine ⟨x, e1, ?_⟩
    cases v with
    | dat d => exact Rep.mono M _ _ r
    | new d =>
      obtain ⟨a, e, r, nf, nm, n0⟩ := r
      exact ⟨a, e, r.mono M fun o q => X.kp a o q nm nf, nf, nm, n0⟩
    | bor d => exact r
    | xv c fs => obtain ⟨q, e, e2, e3, r⟩ := r; exact ⟨q, e, e2, e3, r.mono M⟩
theorem Sim.fresh {p : Addr} {u : HO} (S : Sim L B m F E st σ H) (hp : H p = none) : Sim L B m F E st σ (upd H p u) :=
  S.step (Ext.fresh hp) fun n a o _ e => by rw [upd_ne (ne_of_none e hp)]; exact e
def Fp (F : Addr → Prop) (p : Addr) : Addr → Prop := fun a => F a ∨ a = p
theorem Mono.fp {p : Addr} : Mono m F H m (Fp F p) H := ⟨fun _ _ h => h, fun _ h => .inl h, fun _ _ => Stay.refl⟩
/-- an object is kept from now on -/
theorem Sim.keep {p : Addr} (S : Sim L B m F E st σ H) (hp : H p ≠ none) (hm : p ∉ m) (ho : ∀ i, ¬ OwnAt E σ i p) (hb : B.H p = none) : Sim L B m (Fp F p) E st σ H := by
  have M : Mono m F H m (Fp F p) H := Mono.fp
  refine ⟨⟨fun n d e => ?_, S.wd.ln, S.wd.nd, fun a f => ?_⟩, ⟨S.ex.mp, fun a f => .inl (S.ex.fm a f), fun a f => ?_, S.ex.kp, S.ex.st, S.ex.tr⟩, fun i v e => ?_, S.ln, S.ij⟩
  · obtain ⟨a, e1, r⟩ := S.wd.ce n d e
    exact ⟨a, e1, r.mono M fun o q => q⟩
  · rcases f with f | rfl
    · exact S.wd.ft a f
    · exact ⟨hp, hm⟩
  · rcases f with f | rfl
    · exact S.ex.fn a f
    · exact .inr hb
  · obtain ⟨x, e1, r⟩ := S.sl i v e
    refine ⟨x, e1, ?_⟩
    cases v with
    | dat d => exact Rep.mono M _ _ r
    | new d =>
      obtain ⟨a, rfl, r, nf, nm, n0⟩ := r
      refine ⟨a, rfl, r.mono M fun o q => q, fun z => ?_, nm, n0⟩
      rcases z with z | rfl
      · exact nf z
      · exact ho i ⟨⟨d, e⟩, e1⟩
    | bor d => exact r
    | xv c fs => obtain ⟨q, e, e2, e3, r⟩ := r; exact ⟨q, e, e2, e3, r.mono M⟩
theorem Ext.keep {p : Addr} (X : Ext m0 F0 H0 m F H) (h0 : H0 p = none) : Ext m0 F0 H0 m (Fp F p) H :=
  ⟨X.mp, fun a f => .inl (X.fm a f), fun a f => f.elim (X.fn a) fun e => .inr (e ▸ h0), X.kp, X.st, X.tr⟩
theorem Sim.ownThere {i : Nat} {a : Addr} (S : Sim L B m F E st σ H) (h : OwnAt E σ i a) : H a ≠ none := by
  obtain ⟨⟨d, e⟩, e2⟩ := h
  obtain ⟨x, e3, b, rfl, r, _⟩ := S.sl i _ e
  rw [e2] at e3; cases e3
  exact r.there
/-- where an evaluation begins -/
structure Beg (B : Bs) (E : Env) (σ : L2.St) (H0 : Hp) : Prop where
  tr : ∀ a, H0 a = none → B.H a = none
  ow : ∀ i a, OwnAt E σ i a → H0 a ≠ none
theorem Sim.beg (S : Sim L B m F E st σ H) : Beg B E σ H := ⟨S.ex.tr, fun i a q => S.ownThere q⟩
theorem kp_new {d e : D} (k : (Val.new e).kp = some d) : e = d ∧ ∀ xs, e ≠ .set xs := by
  cases e <;> simp [Val.kp, D.isSet] at k <;> first | exact ⟨k, fun _ z => nomatch z⟩ | cases k
/-- a value that is kept -/
theorem VRep.kept {v : Val} {x : V} {d : D} (X : Ext m0 F0 H0 m F H) (G : Beg B E σ H0) (S : Sim L B m F E st σ H) (r : VRep L m F H E σ H0 v x) (k : v.kp = some d) :
    ∃ F', Ext m0 F0 H0 m F' H ∧ Sim L B m F' E st σ H ∧ Rep L m F' H d x ∧ (∀ a, F a → F' a) ∧ ∀ a, F' a → F a ∨ ((∃ d, v = .new d) ∧ x = .ref a) := by
  cases v with
  | dat e => cases k; exact ⟨F, X, S, r, fun _ h => h, fun _ h => .inl h⟩
  | new e =>
    obtain ⟨rfl, ns⟩ := kp_new k
    obtain ⟨a, rfl, r, nf, nm, n0⟩ := r
    refine ⟨Fp F a, X.keep n0, S.keep r.there nm (fun i q => G.ow i a q n0) (G.tr a n0), ?_, fun _ h => .inl h, fun b h => h.imp id fun e => ⟨⟨_, rfl⟩, by rw [e]⟩⟩
    exact (r.mono (Mono.fp) fun o q => q).kept (.inr rfl) ns
  | bor e => cases k
  | xv c fs => cases k

/-! ### the reading -/
/-- what is wanted behind an evaluation that began at (m, F, H) -/
def Post (L : Lk) (B : Bs) (W : WX) (m : List Addr) (F : Addr → Prop) (H : Hp) (E : Env) (σ : L2.St) (r : ER Val) (Q : V → Hp → Prop) : Prop :=
  match r with
  | .ok v st => ∀ m' F' x H', Ext m F H m' F' H' → Sim L B m' F' E st σ H' → VRep L m' F' H' E σ H v x → Q x H'
  | .ex xc st => ∀ m' F' H' cls d, Ext m F H m' F' H' → Sim L B m' F' E st σ H' → XRep L m' F' H' xc.c xc.fs cls d → W cls d σ H'
  | .bad => False
def tE (L : Lk) (B : Bs) (W : WX) (o : Orc) (me : ME) : TE := fun σ H Q => ∃ m F E st, Sim L B m F E st σ H ∧ Post L B W m F H E σ (evE o me E st) Q
theorem Post.mono {Q' : V → Hp → Prop} {r : ER Val} (h : Post L B W m F H E σ r Q) (q : ∀ x H, Q x H → Q' x H) : Post L B W m F H E σ r Q' := by
  cases r with
  | ok v st => exact fun m' F' x H' a b c => q _ _ (h m' F' x H' a b c)
  | ex x st => exact h
  | bad => exact h
theorem tE.mono {Q' : V → Hp → Prop} (q : ∀ x H, Q x H → Q' x H) (h : tE L B W o me σ H Q) : tE L B W o me σ H Q' := by
  obtain ⟨m, F, E, st, S, h⟩ := h
  exact ⟨m, F, E, st, S, h.mono q⟩
theorem tE_bind {f : Val → Sto → ER Val} (X : Ext m0 F0 H0 m F H) (S : Sim L B m F E st σ H) (h : Post L B W m0 F0 H0 E σ ((evE o me E st).bind f) Q) :
    tE L B W o me σ H (fun x H1 => ∃ m1 F1 st1 v, Ext m F H m1 F1 H1 ∧ Ext m0 F0 H0 m1 F1 H1 ∧ Sim L B m1 F1 E st1 σ H1 ∧ VRep L m1 F1 H1 E σ H v x ∧ Post L B W m0 F0 H0 E σ (f v st1) Q) := by
  refine ⟨m, F, E, st, S, ?_⟩
  cases e : evE o me E st with
  | ok v st1 =>
    rw [e] at h
    exact fun m1 F1 x H1 a b c => ⟨m1, F1, st1, v, a, X.trans a, b, c, h⟩
  | ex xc st1 =>
    rw [e] at h
    exact fun m1 F1 H1 cls d a b c => h m1 F1 H1 cls d (X.trans a) b c
  | bad =>
    rw [e] at h
    exact h
/-- .. an evaluation that wants nothing behind it -/
theorem Post.at {r : ER Val} (X : Ext m0 F0 H0 m F H) (h : Post L B W m0 F0 H0 E σ r Q) : Post L B W m F H E σ r Q := by
  cases r with
  | ok v st => exact fun m1 F1 x H1 a b c => h m1 F1 x H1 (X.trans a) b (c.base X.tr)
  | ex xc st => exact fun m1 F1 H1 cls d a b c => h m1 F1 H1 cls d (X.trans a) b c
  | bad => exact h
theorem Post.dat {d : D} {x : V} (X : Ext m0 F0 H0 m F H) (S : Sim L B m F E st σ H) (h : Post L B W m0 F0 H0 E σ (.ok (.dat d) st) Q) (r : Rep L m F H d x) : Q x H := h m F x H X S r
/-- a new container -/
theorem Post.new {d : D} {u : HO} {p : Addr} (X : Ext m0 F0 H0 m F H) (S : Sim L B m F E st σ H) (h : Post L B W m0 F0 H0 E σ (.ok (.new d) st) Q) (hp : H p = none)
    (r : Mono m F H m F (upd H p u) → ORep L m F (upd H p u) p d) (hm : p ∉ m) : Q (.ref p) (upd H p u) := by
  have Y : Ext m F H m F (upd H p u) := Ext.fresh hp
  exact h m F _ _ (X.trans Y) (S.fresh hp) ⟨p, rfl, r Y.mono, fun z => (S.wd.ft p z).1 hp, hm, X.tr p hp⟩
theorem Sim.notcell {p : Addr} (S : Sim L B m F E st σ H) (hp : H p = none) : p ∉ m := fun hm => by
  obtain ⟨n, hn, e⟩ := List.getElem_of_mem hm
  have e' : m[n]? = some p := List.getElem?_eq_some_iff.mpr ⟨hn, e⟩
  have hl : n < st.length := by rw [← S.wd.ln]; exact hn
  obtain ⟨a, e1, r⟩ := S.wd.ce n st[n] (List.getElem?_eq_some_iff.mpr ⟨hl, rfl⟩)
  rw [e'] at e1; cases e1
  exact r.there hp
/-- a new tuple -/
theorem Post.datNew {d : D} {u : HO} {p : Addr} (X : Ext m0 F0 H0 m F H) (S : Sim L B m F E st σ H) (h : Post L B W m0 F0 H0 E σ (.ok (.dat d) st) Q) (hp : H p = none)
    (r : Mono m F H m (Fp F p) (upd H p u) → Rep L m (Fp F p) (upd H p u) d (.ref p)) : Q (.ref p) (upd H p u) := by
  have Y : Ext m F H m F (upd H p u) := Ext.fresh hp
  have S1 := S.fresh (u := u) hp
  have S2 : Sim L B m (Fp F p) E st σ (upd H p u) := S1.keep (by rw [upd_same]; exact fun z => nomatch z) (S.notcell hp) (fun i q => by
    have := S.ownThere q
    exact this hp) (S.ex.tr p hp)
  exact h m (Fp F p) _ _ ((X.trans Y).keep (X.tr p hp)) S2 (r ⟨fun _ _ z => z, fun _ z => .inl z, fun a _ => Y.st a ‹_›⟩)
end
end Mp

end
section
set_option Elab.async false
set_option linter.all false
set_option maxRecDepth 100000
set_option maxHeartbeats 4000000
/-! S3: rows of values (arguments, displays). -/
namespace Mp
open PySem PySem.Spec PyProof.Rows L2

theorem _root_.L2.PE.imp {X : Cx} {e : Expr} {t t' : TE} (h : PE X e t) (q : ∀ σ H Q, t' σ H Q → t σ H Q) : PE X e t' := ⟨fun pins s σ H Q I z => h.run pins s σ H Q I (q _ _ _ z)⟩
theorem _root_.L2.PT.imp {X : Cx} {e : Expr} {t t' : TT} (h : PT X e t) (q : ∀ σ H Q, t' σ H Q → t σ H Q) : PT X e t' := ⟨fun pins s σ H Q I z => h.run pins s σ H Q I (q _ _ _ z)⟩
theorem _root_.L2.PA.imp {X : Cx} {e : List Expr} {t t' : TA} (h : PA X e t) (q : ∀ σ H Q, t' σ H Q → t σ H Q) : PA X e t' := ⟨fun pos pins s σ H Q I z => h.run pos pins s σ H Q I (q _ _ _ z)⟩
theorem _root_.L2.PS.imp {X : Cx} {e : Stmt} {t t' : TS} (h : PS X e t) (q : ∀ D σ H, t' D σ H → t D σ H) : PS X e t' := ⟨fun pins s σ H D I z => h.run pins s σ H D I (q _ _ _ z)⟩
theorem _root_.L2.PSs.imp {X : Cx} {e : List Stmt} {t t' : TS} (h : PSs X e t) (q : ∀ D σ H, t' D σ H → t D σ H) : PSs X e t' := ⟨fun pins s σ H D I z => h.run pins s σ H D I (q _ _ _ z)⟩

/-- the new ones among values -/
def news : List Val → List V → List V
  | v :: vs, x :: xs => (match v with | .new _ => [x] | _ => []) ++ news vs xs
  | _, _ => []
def VsL (L : Lk) (m : List Addr) (F : Addr → Prop) (H : Hp) (E : Env) (σ : L2.St) (H0 : Hp) : List Val → List V → Prop
  | [], [] => True
  | v :: vs, x :: xs => VRep L m F H E σ H0 v x ∧ VsL L m F H E σ H0 vs xs
  | _, _ => False
structure VsRep (L : Lk) (m : List Addr) (F : Addr → Prop) (H : Hp) (E : Env) (σ : L2.St) (H0 : Hp) (vs : List Val) (xs : List V) : Prop where
  al : VsL L m F H E σ H0 vs xs
  nd : (news vs xs).Nodup
section
variable {L : Lk} {B : Bs} {W : WX} {o : Orc} {m m0 m1 m2 m' : List Addr} {F F0 F1 F2 F' : Addr → Prop} {H H0 H1 H2 H' : Hp} {E : Env} {st st' : Sto} {σ : L2.St} {Q : V → Hp → Prop} {QL : List V → Hp → Prop} {me : ME} {mes : List ME}
theorem VsL.ext (X : Ext m F H m' F' H') : ∀ {vs : List Val} {xs : List V}, VsL L m F H E σ H0 vs xs → VsL L m' F' H' E σ H0 vs xs
  | [], [], _ => trivial
  | _ :: _, _ :: _, h => ⟨h.1.ext X, VsL.ext X h.2⟩
theorem VsL.base (n : ∀ a, H0 a = none → H1 a = none) : ∀ {vs : List Val} {xs : List V}, VsL L m F H E σ H0 vs xs → VsL L m F H E σ H1 vs xs
  | [], [], _ => trivial
  | _ :: _, _ :: _, h => ⟨h.1.base n, VsL.base n h.2⟩
theorem VsRep.ext {vs : List Val} {xs : List V} (X : Ext m F H m' F' H') (h : VsRep L m F H E σ H0 vs xs) : VsRep L m' F' H' E σ H0 vs xs := ⟨h.al.ext X, h.nd⟩
theorem news_fresh : ∀ {vs : List Val} {xs : List V}, VsL L m F H E σ H0 vs xs → ∀ y ∈ news vs xs, ∃ a, y = .ref a ∧ H0 a = none
  | [], [], _, y, hy => by simp [news] at hy
  | v :: vs, x :: xs, h, y, hy => by
    simp only [news, List.mem_append] at hy
    rcases hy with hy | hy
    · cases v with
      | new d => simp at hy; subst hy; obtain ⟨a, e, _, _, _, n⟩ := h.1; exact ⟨a, e, n⟩
      | _ => simp at hy
    · exact news_fresh h.2 y hy
theorem VsRep.cons {v : Val} {x : V} {vs : List Val} {xs : List V} (X : Ext m F H m1 F1 H1) (Y : Ext m1 F1 H1 m2 F2 H2) (h : VRep L m1 F1 H1 E σ H v x) (t : VsRep L m2 F2 H2 E σ H1 vs xs) : VsRep L m2 F2 H2 E σ H (v :: vs) (x :: xs) := by
  refine ⟨⟨h.ext Y, t.al.base X.tr⟩, ?_⟩
  simp only [news]
  rw [List.nodup_append]
  refine ⟨?_, t.nd, fun a ha b hb e => ?_⟩
  · cases v <;> simp
  · cases v with
    | new d =>
      simp at ha
      obtain ⟨p, e1, r, _⟩ := h
      obtain ⟨q, e2, n⟩ := news_fresh t.al b hb
      rw [← e, ha, e1] at e2
      cases e2
      exact r.there n
    | _ => simp at ha
def PostL (L : Lk) (B : Bs) (W : WX) (m : List Addr) (F : Addr → Prop) (H : Hp) (E : Env) (σ : L2.St) (r : ER (List Val)) (Q : List V → Hp → Prop) : Prop :=
  match r with
  | .ok vs st => ∀ m' F' xs H', Ext m F H m' F' H' → Sim L B m' F' E st σ H' → VsRep L m' F' H' E σ H vs xs → Q xs H'
  | .ex xc st => ∀ m' F' H' cls d, Ext m F H m' F' H' → Sim L B m' F' E st σ H' → XRep L m' F' H' xc.c xc.fs cls d → W cls d σ H'
  | .bad => False
def tL (L : Lk) (B : Bs) (W : WX) (o : Orc) (mes : List ME) : TA := fun σ H Q => ∃ m F E st, Sim L B m F E st σ H ∧ PostL L B W m F H E σ (evL o mes E st) Q
theorem tL.mono {Q' : List V → Hp → Prop} (q : ∀ x H, QL x H → Q' x H) (h : tL L B W o mes σ H QL) : tL L B W o mes σ H Q' := by
  obtain ⟨m, F, E, st, S, h⟩ := h
  refine ⟨m, F, E, st, S, ?_⟩
  cases e : evL o mes E st with
  | ok v st => rw [e] at h; exact fun m' F' x H' a b c => q _ _ (h m' F' x H' a b c)
  | ex x st => rw [e] at h; exact h
  | bad => rw [e] at h; exact h
theorem tL_bind {f : List Val → Sto → ER Val} (X : Ext m0 F0 H0 m F H) (S : Sim L B m F E st σ H) (h : Post L B W m0 F0 H0 E σ ((evL o mes E st).bind f) Q) :
    tL L B W o mes σ H (fun xs H1 => ∃ m1 F1 st1 vs, Ext m F H m1 F1 H1 ∧ Ext m0 F0 H0 m1 F1 H1 ∧ Sim L B m1 F1 E st1 σ H1 ∧ VsRep L m1 F1 H1 E σ H vs xs ∧ evL o mes E st = .ok vs st1 ∧ Post L B W m0 F0 H0 E σ (f vs st1) Q) := by
  refine ⟨m, F, E, st, S, ?_⟩
  cases e : evL o mes E st with
  | ok v st1 =>
    rw [e] at h
    exact fun m1 F1 x H1 a b c => ⟨m1, F1, st1, v, a, X.trans a, b, c, rfl, h⟩
  | ex xc st1 =>
    rw [e] at h
    exact fun m1 F1 H1 cls d a b c => h m1 F1 H1 cls d (X.trans a) b c
  | bad =>
    rw [e] at h
    exact h
theorem tL_nil (h : tL L B W o [] σ H QL) : tNil σ H QL := by
  obtain ⟨m, F, E, st, S, h⟩ := h
  have h : PostL L B W m F H E σ (.ok [] st) QL := h
  exact h m F [] H Ext.refl S ⟨trivial, List.nodup_nil⟩
theorem tL_cons (h : tL L B W o (me :: mes) σ H QL) : tCons (tE L B W o me) (tL L B W o mes) σ H QL := by
  obtain ⟨m, F, E, st, S, h⟩ := h
  have h : PostL L B W m F H E σ ((evE o me E st).bind fun v st1 => (evL o mes E st1).bind fun vs st2 => .ok (v :: vs) st2) QL := by
    have e : evL o (me :: mes) E st = (evE o me E st).bind fun v st1 => (evL o mes E st1).bind fun vs st2 => .ok (v :: vs) st2 := by rw [evL]
    rw [← e]; exact h
  refine ⟨m, F, E, st, S, ?_⟩
  cases e : evE o me E st with
  | bad => rw [e] at h; exact h
  | ex xc st1 => rw [e] at h; exact h
  | ok v st1 =>
    rw [e] at h
    intro m1 F1 x H1 X1 S1 r1
    refine ⟨m1, F1, E, st1, S1, ?_⟩
    have h : PostL L B W m F H E σ ((evL o mes E st1).bind fun vs st2 => .ok (v :: vs) st2) QL := h
    cases e2 : evL o mes E st1 with
    | bad => rw [e2] at h; exact h
    | ex xc st2 => rw [e2] at h; exact fun m2 F2 H2 cls d a b c => h m2 F2 H2 cls d (X1.trans a) b c
    | ok vs st2 =>
      rw [e2] at h
      intro m2 F2 xs H2 X2 S2 r2
      exact h m2 F2 _ H2 (X1.trans X2) S2 (VsRep.cons X1 X2 r1 r2)
/-- what is not among the newly kept stays a value -/
theorem VsL.keepF (M : Mono m F H m F' H) : ∀ {vs : List Val} {xs : List V}, (∀ a, F' a → F a ∨ V.ref a ∉ news vs xs) → VsL L m F H E σ H0 vs xs → VsL L m F' H E σ H0 vs xs
  | [], [], _, _ => trivial
  | v :: vs, x :: xs, n, h => by
    refine ⟨?_, VsL.keepF M (fun a fa => (n a fa).imp id fun q z => q (by simp only [news]; exact List.mem_append_right _ z)) h.2⟩
    have h1 := h.1
    cases v with
    | dat d => exact Rep.mono M _ _ h1
    | new d =>
      obtain ⟨a, rfl, r, nf, nm, n0⟩ := h1
      refine ⟨a, rfl, r.mono M fun o q => q, fun z => ?_, nm, n0⟩
      rcases n a z with q | q
      · exact nf q
      · exact q (by simp [news])
    | bor d => exact h1
    | xv c fs => exact h1
/-- values that are kept -/
theorem VsRep.kept : ∀ {vs : List Val} {xs : List V} {ds : List D} {F : Addr → Prop}, Ext m0 F0 H0 m F H → Beg B E σ H0 → Sim L B m F E st σ H → VsL L m F H E σ H0 vs xs → (news vs xs).Nodup → kpL vs = some ds →
    ∃ F', Ext m0 F0 H0 m F' H ∧ Sim L B m F' E st σ H ∧ RepL L m F' H ds xs ∧ (∀ a, F a → F' a) ∧ ∀ a, F' a → F a ∨ V.ref a ∈ news vs xs
  | [], [], ds, F, X, G, S, h, nd, k => by cases k; exact ⟨F, X, S, by simp only [RepL], fun _ h => h, fun _ h => .inl h⟩
  | v :: vs, x :: xs, ds, F, X, G, S, h, nd, k => by
    unfold kpL at k
    cases e1 : v.kp with
    | none => rw [e1] at k; cases k
    | some d =>
      cases e2 : kpL vs with
      | none => rw [e1, e2] at k; cases k
      | some ds' =>
        rw [e1, e2] at k
        cases k
        simp only [news] at nd
        rw [List.nodup_append] at nd
        obtain ⟨n1, n2, n3⟩ := nd
        obtain ⟨F1, X1, S1, r1, m1, hF⟩ := VRep.kept X G S h.1 e1
        have M1 : Mono m F H m F1 H := ⟨fun _ _ z => z, m1, fun _ _ => Stay.refl⟩
        have t1 : VsL L m F1 H E σ H0 vs xs := VsL.keepF M1 (fun a fa => (hF a fa).imp id fun ⟨⟨d, e⟩, e3⟩ z => by
          subst e e3
          exact n3 (.ref a) (by simp) (.ref a) z rfl) h.2
        obtain ⟨F2, X2, S2, r2, m2, hF2⟩ := VsRep.kept X1 G S1 t1 n2 e2
        have M2 : Mono m F1 H m F2 H := ⟨fun _ _ z => z, m2, fun _ _ => Stay.refl⟩
        refine ⟨F2, X2, S2, by simp only [RepL]; exact ⟨Rep.mono M2 _ _ r1, r2⟩, fun a z => m2 a (m1 a z), fun a z => ?_⟩
        simp only [news, List.mem_append]
        rcases hF2 a z with z | z
        · rcases hF a z with z | ⟨⟨d, e⟩, e3⟩
          · exact .inl z
          · subst e e3; exact .inr (.inl (by simp))
        · exact .inr (.inr z)
end
end Mp

end
section
set_option Elab.async false
set_option linter.all false
set_option maxRecDepth 100000
set_option maxHeartbeats 4000000
/-! S4: the operations on values. -/
namespace Mp
open PySem PySem.Spec PyProof.Rows L2

/-- a result: a value, or a new object -/
def ResV (L : Lk) (m : List Addr) (F : Addr → Prop) (H : Hp) : Val → V → Prop
  | .dat d, v => Rep L m F H d v
  | _, _ => False
def ResN (L : Lk) (m : List Addr) (F : Addr → Prop) (H : Hp) : Val → HO → Prop
  | .dat (.tup ds), u => ∃ vs, u = .tup vs ∧ RepL L m F H ds vs ∧ ds.length ≤ szMax
  | .new (.lst ds), u => ∃ vs, u = .lst vs ∧ RepL L m F H ds vs ∧ ds.length ≤ szMax
  | .new (.dct ds), u => ∃ vs, u = .dK vs ∧ RepK L m F H ds vs ∧ ds.length ≤ szMax
  | _, _ => False
structure Res (L : Lk) (m : List Addr) (F : Addr → Prop) (H : Hp) (z : Val) (Q : V → Hp → Prop) : Prop where
  v : ∀ v, ResV L m F H z v → Q v H
  n : ∀ p u, H p = none → ResN L m F H z u → Q (.ref p) (upd H p u)
section
variable {L : Lk} {B : Bs} {W : WX} {o : Orc} {m m0 m1 m2 m' : List Addr} {F F0 F1 F2 F' : Addr → Prop} {H H0 H1 H2 H' : Hp} {E : Env} {st st' : Sto} {σ : L2.St} {Q : V → Hp → Prop}
theorem Post.res {z : Val} (X : Ext m0 F0 H0 m F H) (S : Sim L B m F E st σ H) (h : Post L B W m0 F0 H0 E σ (.ok z st) Q) : Res L m F H z Q := by
  refine ⟨fun v r => ?_, fun p u hp r => ?_⟩
  · cases z with
    | dat d => exact Post.dat X S h r
    | _ => exact r.elim
  · cases z with
    | dat d =>
      cases d with
      | tup ds =>
        obtain ⟨vs, rfl, r, z⟩ := r
        exact Post.datNew X S h hp fun M => by
          simp only [Rep]
          exact ⟨p, vs, rfl, .inl ⟨.inr rfl, .inl upd_same⟩, RepL.mono M _ _ r, z⟩
      | _ => exact r.elim
    | new d =>
      cases d with
      | lst ds =>
        obtain ⟨vs, rfl, r, z⟩ := r
        exact Post.new X S h hp (fun M => by simp only [ORep]; exact ⟨vs, upd_same, RepL.mono M _ _ r, z⟩) (S.notcell hp)
      | dct ds =>
        obtain ⟨vs, rfl, r, z⟩ := r
        exact Post.new X S h hp (fun M => by simp only [ORep]; exact ⟨vs, upd_same, RepK.mono M _ _ r, z⟩) (S.notcell hp)
      | _ => exact r.elim
    | _ => exact r.elim
theorem Post.resO {z : Option Val} (X : Ext m0 F0 H0 m F H) (S : Sim L B m F E st σ H) (h : Post L B W m0 F0 H0 E σ (ER.opt z st) Q) : ∃ v, z = some v ∧ Res L m F H v Q := by
  cases z with
  | none => exact h.elim
  | some v => exact ⟨v, rfl, Post.res X S h⟩

theorem RepL.len : ∀ {ds : List D} {vs : List V}, RepL L m F H ds vs → ds.length = vs.length
  | [], [], _ => rfl
  | d :: ds, v :: vs, h => by simp only [RepL] at h; rw [List.length_cons, List.length_cons, RepL.len h.2]
  | [], _ :: _, h => by simp only [RepL] at h
  | _ :: _, [], h => by simp only [RepL] at h
theorem RepL.append : ∀ {ds es : List D} {vs ws : List V}, RepL L m F H ds vs → RepL L m F H es ws → RepL L m F H (ds ++ es) (vs ++ ws)
  | [], es, [], ws, _, h => h
  | d :: ds, es, v :: vs, ws, h, g => by simp only [RepL, List.cons_append] at h ⊢; exact ⟨h.1, RepL.append h.2 g⟩
  | [], _, _ :: _, _, h, _ => by simp only [RepL] at h
  | _ :: _, _, [], _, h, _ => by simp only [RepL] at h
theorem RepL.get : ∀ {ds : List D} {vs : List V} {i : Nat} {d : D}, RepL L m F H ds vs → ds[i]? = some d → ∃ v, vs[i]? = some v ∧ Rep L m F H d v
  | [], _, _, _, _, e => by simp at e
  | d :: ds, v :: vs, 0, _, h, e => by simp only [RepL] at h; simp at e; subst e; exact ⟨v, rfl, h.1⟩
  | d :: ds, v :: vs, i + 1, _, h, e => by simp only [RepL] at h; simpa using RepL.get (i := i) h.2 (by simpa using e)
  | _ :: _, [], _, _, h, _ => by simp only [RepL] at h
theorem RepL.take : ∀ {ds : List D} {vs : List V} (n : Nat), RepL L m F H ds vs → RepL L m F H (ds.take n) (vs.take n)
  | _, _, 0, _ => by simp [RepL]
  | [], [], n + 1, _ => by simp [RepL]
  | d :: ds, v :: vs, n + 1, h => by simp only [RepL, List.take_succ_cons] at h ⊢; exact ⟨h.1, RepL.take n h.2⟩
  | [], _ :: _, _ + 1, h => by simp only [RepL] at h
  | _ :: _, [], _ + 1, h => by simp only [RepL] at h
theorem RepL.drop : ∀ {ds : List D} {vs : List V} (n : Nat), RepL L m F H ds vs → RepL L m F H (ds.drop n) (vs.drop n)
  | _, _, 0, h => h
  | [], [], n + 1, _ => by simp [RepL]
  | d :: ds, v :: vs, n + 1, h => by simp only [RepL, List.drop_succ_cons] at h ⊢; exact RepL.drop n h.2
  | [], _ :: _, _ + 1, h => by simp only [RepL] at h
  | _ :: _, [], _ + 1, h => by simp only [RepL] at h
theorem RepL.rev {ds : List D} {vs : List V} (h : RepL L m F H ds vs) : RepL L m F H ds.reverse vs.reverse := by
  induction ds generalizing vs with
  | nil => cases vs with | nil => simp [RepL] | cons _ _ => simp only [RepL] at h
  | cons d ds ih => cases vs with
    | nil => simp only [RepL] at h
    | cons v vs =>
      simp only [RepL] at h
      rw [List.reverse_cons, List.reverse_cons]
      exact RepL.append (ih h.2) (by simp only [RepL]; exact ⟨h.1, trivial⟩)
theorem RepL.rep {ds : List D} {vs : List V} (h : RepL L m F H ds vs) : ∀ k : Nat, RepL L m F H (List.replicate k ds).flatten (List.replicate k vs).flatten
  | 0 => by simp [RepL]
  | k + 1 => by rw [List.replicate_succ, List.replicate_succ, List.flatten_cons, List.flatten_cons]; exact RepL.append h (RepL.rep h k)
theorem RepL.set : ∀ {ds : List D} {vs : List V} {d : D} {v : V} (i : Nat), RepL L m F H ds vs → Rep L m F H d v → RepL L m F H (ds.set i d) (vs.set i v)
  | [], [], _, _, _, _, _ => by simp [RepL]
  | d :: ds, v :: vs, _, _, 0, h, g => by simp only [RepL, List.set_cons_zero] at h ⊢; exact ⟨g, h.2⟩
  | d :: ds, v :: vs, _, _, i + 1, h, g => by simp only [RepL, List.set_cons_succ] at h ⊢; exact ⟨h.1, RepL.set i h.2 g⟩
  | [], _ :: _, _, _, _, h, _ => by simp only [RepL] at h
  | _ :: _, [], _, _, _, h, _ => by simp only [RepL] at h
theorem RepL.ints : ∀ {ds : List D} {vs : List V} {l : List Int}, RepL L m F H ds vs → ints? ds = some l → vs = l.map V.int
  | [], [], l, _, e => by simp [ints?] at e; subst e; rfl
  | .int i :: ds, v :: vs, l, h, e => by
    simp only [RepL, Rep] at h
    simp only [ints?, Option.map_eq_some_iff] at e
    obtain ⟨l', e, rfl⟩ := e
    rw [h.1, RepL.ints h.2 e]; rfl
  | [], _ :: _, _, h, _ => by simp only [RepL] at h
  | _ :: _, [], _, h, _ => by simp only [RepL] at h
  | .non :: _, _ :: _, _, _, e => by simp [ints?] at e
  | .bl _ :: _, _ :: _, _, _, e => by simp [ints?] at e
  | .str _ :: _, _ :: _, _, _, e => by simp [ints?] at e
  | .tup _ :: _, _ :: _, _, _, e => by simp [ints?] at e
  | .lst _ :: _, _ :: _, _, _, e => by simp [ints?] at e
  | .dct _ :: _, _ :: _, _, _, e => by simp [ints?] at e
  | .set _ :: _, _ :: _, _, _, e => by simp [ints?] at e
  | .obj _ _ :: _, _ :: _, _, _, e => by simp [ints?] at e
  | .ref _ :: _, _ :: _, _, _, e => by simp [ints?] at e
  | .fn _ :: _, _ :: _, _, _, e => by simp [ints?] at e
  | .scr _ :: _, _ :: _, _, _, e => by simp [ints?] at e
  | .bad :: _, _ :: _, _, _, e => by simp [ints?] at e
theorem RepL.of_ints : ∀ (l : List Int), RepL L m F H (l.map D.int) (l.map V.int)
  | [] => by simp [RepL]
  | i :: l => by simp only [List.map_cons, RepL, Rep]; exact ⟨by trivial, RepL.of_ints l⟩
theorem RepL.bls : ∀ {ds : List D} {vs : List V} {l : List Bool}, RepL L m F H ds vs → bls? ds = some l → vs = l.map V.bl
  | [], [], l, _, e => by simp [bls?] at e; subst e; rfl
  | .bl i :: ds, v :: vs, l, h, e => by
    simp only [RepL, Rep] at h
    simp only [bls?, Option.map_eq_some_iff] at e
    obtain ⟨l', e, rfl⟩ := e
    rw [h.1, RepL.bls h.2 e]; rfl
  | [], _ :: _, _, h, _ => by simp only [RepL] at h
  | _ :: _, [], _, h, _ => by simp only [RepL] at h
  | .non :: _, _ :: _, _, _, e => by simp [bls?] at e
  | .int _ :: _, _ :: _, _, _, e => by simp [bls?] at e
  | .str _ :: _, _ :: _, _, _, e => by simp [bls?] at e
  | .tup _ :: _, _ :: _, _, _, e => by simp [bls?] at e
  | .lst _ :: _, _ :: _, _, _, e => by simp [bls?] at e
  | .dct _ :: _, _ :: _, _, _, e => by simp [bls?] at e
  | .set _ :: _, _ :: _, _, _, e => by simp [bls?] at e
  | .obj _ _ :: _, _ :: _, _, _, e => by simp [bls?] at e
  | .ref _ :: _, _ :: _, _, _, e => by simp [bls?] at e
  | .fn _ :: _, _ :: _, _, _, e => by simp [bls?] at e
  | .scr _ :: _, _ :: _, _, _, e => by simp [bls?] at e
  | .bad :: _, _ :: _, _, _, e => by simp [bls?] at e

/-! ### == -/
mutual
def toPD : D → PyData
  | .non => .none
  | .bl b => .bool b
  | .int i => .int i
  | .str s => .str (strV s)
  | .tup xs => .tuple (toPDL xs)
  | .lst xs => .list (toPDL xs)
  | .dct _ => .none
  | .set _ => .none
  | .obj _ _ => .none
  | .ref _ => .none
  | .fn _ => .none
  | .scr _ => .none
  | .bad => .none
def toPDL : List D → List PyData
  | [] => []
  | x :: r => toPD x :: toPDL r
end
mutual
theorem dp_of : ∀ (d : D) (n : Nat) (v : V), pd d n = true → Rep L m F H d v → Dp L.K H v (toPD d)
  | .non, n, v, p, h => by simp only [Rep] at h; subst h; exact .non
  | .bl b, n, v, p, h => by simp only [Rep] at h; subst h; exact .bl b
  | .int i, n, v, p, h => by simp only [Rep] at h; subst h; exact .int i
  | .str s, n, v, p, h => by simp only [Rep] at h; rw [h.1]; exact .str _
  | .tup xs, 0, v, p, h => by simp [pd] at p
  | .tup xs, n + 1, v, p, h => by
    simp only [pd] at p
    simp only [Rep] at h
    obtain ⟨a, vs, rfl, hs, r, _⟩ := h
    exact .tup (hs.imp (·.2) id) (dp_ofL xs n vs p r)
  | .lst xs, 0, v, p, h => by simp [pd] at p
  | .lst xs, n + 1, v, p, h => by
    simp only [pd] at p
    simp only [Rep] at h
    obtain ⟨a, vs, rfl, _, hs, r, _⟩ := h
    exact .lst (.of hs) (dp_ofL xs n vs p r)
  | .dct _, n, v, p, h => by simp [pd] at p
  | .set _, n, v, p, h => by simp [pd] at p
  | .obj _ _, n, v, p, h => by simp [pd] at p
  | .ref _, n, v, p, h => by simp [pd] at p
  | .fn _, n, v, p, h => by simp [pd] at p
  | .scr _, n, v, p, h => by simp [pd] at p
  | .bad, n, v, p, h => by simp [pd] at p
theorem dp_ofL : ∀ (ds : List D) (n : Nat) (vs : List V), pdL ds n = true → RepL L m F H ds vs → DpAll L.K H vs (toPDL ds)
  | [], n, [], p, h => .nil
  | d :: ds, n, v :: vs, p, h => by
    simp only [pdL, Bool.and_eq_true] at p
    simp only [RepL] at h
    exact .cons (dp_of d n v p.1 h.1) (dp_ofL ds n vs p.2 h.2)
  | [], n, _ :: _, p, h => by simp only [RepL] at h
  | _ :: _, n, [], p, h => by simp only [RepL] at h
end
theorem dp_look {d : D} {n : Nat} {v : V} (p : pd d n = true) (h : Look L m F H d v) : Dp L.K H v (toPD d) := by
  cases d with
  | lst xs =>
    cases n with
    | zero => simp [pd] at p
    | succ n =>
      simp only [pd] at p
      obtain ⟨a, vs, rfl, hs, r, _⟩ := h
      exact .lst (.of hs) (dp_ofL xs n vs p r)
  | dct _ => simp [pd] at p
  | set _ => simp [pd] at p
  | obj _ _ => simp [pd] at p
  | _ => exact dp_of (m := m) (F := F) _ n v p h
mutual
theorem lay_of : ∀ (d : D) (n : Nat) (v : V), pd d n = true → Rep L m F H d v → (toPD d).canLay0 = true
  | .non, n, v, p, h => rfl
  | .bl b, n, v, p, h => rfl
  | .int i, n, v, p, h => rfl
  | .str s, n, v, p, h => by
    simp only [Rep] at h
    simp only [toPD, PyData.canLay0, PyData.strOk, strV]
    rw [List.all_toArray, List.all_eq_true]
    intro c hc
    exact decide_eq_true (h.2.2 c hc)
  | .tup xs, 0, v, p, h => by simp [pd] at p
  | .tup xs, n + 1, v, p, h => by
    simp only [pd] at p
    simp only [Rep] at h
    obtain ⟨a, vs, rfl, hs, r, _⟩ := h
    simp only [toPD, PyData.canLay0]
    exact lay_ofL xs n vs p r
  | .lst xs, 0, v, p, h => by simp [pd] at p
  | .lst xs, n + 1, v, p, h => by
    simp only [pd] at p
    simp only [Rep] at h
    obtain ⟨a, vs, rfl, _, hs, r, _⟩ := h
    simp only [toPD, PyData.canLay0]
    exact lay_ofL xs n vs p r
  | .dct _, n, v, p, h => by simp [pd] at p
  | .set _, n, v, p, h => by simp [pd] at p
  | .obj _ _, n, v, p, h => by simp [pd] at p
  | .ref _, n, v, p, h => by simp [pd] at p
  | .fn _, n, v, p, h => by simp [pd] at p
  | .scr _, n, v, p, h => by simp [pd] at p
  | .bad, n, v, p, h => by simp [pd] at p
theorem lay_ofL : ∀ (ds : List D) (n : Nat) (vs : List V), pdL ds n = true → RepL L m F H ds vs → PyData.canLayAll0 (toPDL ds) = true
  | [], n, [], p, h => rfl
  | d :: ds, n, v :: vs, p, h => by
    simp only [pdL, Bool.and_eq_true] at p
    simp only [RepL] at h
    simp only [toPDL, PyData.canLayAll0, Bool.and_eq_true]
    exact ⟨lay_of d n v p.1 h.1, lay_ofL ds n vs p.2 h.2⟩
  | [], n, _ :: _, p, h => by simp only [RepL] at h
  | _ :: _, n, [], p, h => by simp only [RepL] at h
end
theorem lay_look {d : D} {n : Nat} {v : V} (p : pd d n = true) (h : Look L m F H d v) : (toPD d).canLay0 = true := by
  cases d with
  | lst xs =>
    cases n with
    | zero => simp [pd] at p
    | succ n =>
      simp only [pd] at p
      obtain ⟨a, vs, rfl, hs, r, _⟩ := h
      simp only [toPD, PyData.canLay0]
      exact lay_ofL xs n vs p r
  | dct _ => simp [pd] at p
  | set _ => simp [pd] at p
  | obj _ _ => simp [pd] at p
  | _ => exact lay_of (L := L) (m := m) (F := F) (H := H) _ n v p h
mutual
theorem dep_of : ∀ (d : D) (n : Nat), pd d n = true → (toPD d).depth ≤ n
  | .non, n, p => Nat.zero_le _
  | .bl b, n, p => Nat.zero_le _
  | .int i, n, p => Nat.zero_le _
  | .str s, n, p => Nat.zero_le _
  | .tup xs, 0, p => by simp [pd] at p
  | .tup xs, n + 1, p => by
    simp only [pd] at p
    simp only [toPD, PyData.depth]
    exact Nat.succ_le_succ (dep_ofL xs n p)
  | .lst xs, 0, p => by simp [pd] at p
  | .lst xs, n + 1, p => by
    simp only [pd] at p
    simp only [toPD, PyData.depth]
    exact Nat.succ_le_succ (dep_ofL xs n p)
  | .dct _, n, p => by simp [pd] at p
  | .set _, n, p => by simp [pd] at p
  | .obj _ _, n, p => by simp [pd] at p
  | .ref _, n, p => by simp [pd] at p
  | .fn _, n, p => by simp [pd] at p
  | .scr _, n, p => by simp [pd] at p
  | .bad, n, p => by simp [pd] at p
theorem dep_ofL : ∀ (ds : List D) (n : Nat), pdL ds n = true → PyData.depthAll (toPDL ds) ≤ n
  | [], n, p => Nat.zero_le _
  | d :: ds, n, p => by
    simp only [pdL, Bool.and_eq_true] at p
    simp only [toPDL, PyData.depthAll]
    exact Nat.max_le.mpr ⟨dep_of d n p.1, dep_ofL ds n p.2⟩
end
theorem strV_beq (a b : List Nat) : (strV a == strV b) = (a == b) := by
  rw [← SeqAt.str_beq]; simp [strV]
mutual
theorem eqv_of : ∀ (a : D) (n : Nat) (b : D) (k : Nat), pd a n = true → pd b k = true → PyData.eqv (toPD a) (toPD b) = eqD a b
  | .non, n, b, k, p, q => by cases b <;> first | (simp [pd] at q; done) | simp [toPD, PyData.eqv, eqD]
  | .bl _, n, b, k, p, q => by cases b <;> first | (simp [pd] at q; done) | simp [toPD, PyData.eqv, eqD, b2i]
  | .int _, n, b, k, p, q => by cases b <;> first | (simp [pd] at q; done) | simp [toPD, PyData.eqv, eqD, b2i]
  | .str s, n, b, k, p, q => by cases b <;> first | (simp [pd] at q; done) | simp [toPD, PyData.eqv, eqD, strV_beq]
  | .tup xs, 0, b, k, p, q => by simp [pd] at p
  | .tup xs, n + 1, b, k, p, q => by
    cases b <;> first | (simp [pd] at q; done) | skip
    case tup ys =>
      cases k with
      | zero => simp [pd] at q
      | succ k => simp only [pd] at p q; simp only [toPD, PyData.eqv, eqD]; exact eqv_ofL xs n ys k p q
    all_goals simp [toPD, PyData.eqv, eqD]
  | .lst xs, 0, b, k, p, q => by simp [pd] at p
  | .lst xs, n + 1, b, k, p, q => by
    cases b <;> first | (simp [pd] at q; done) | skip
    case lst ys =>
      cases k with
      | zero => simp [pd] at q
      | succ k => simp only [pd] at p q; simp only [toPD, PyData.eqv, eqD]; exact eqv_ofL xs n ys k p q
    all_goals simp [toPD, PyData.eqv, eqD]
  | .dct _, n, b, k, p, q => by simp [pd] at p
  | .set _, n, b, k, p, q => by simp [pd] at p
  | .obj _ _, n, b, k, p, q => by simp [pd] at p
  | .ref _, n, b, k, p, q => by simp [pd] at p
  | .fn _, n, b, k, p, q => by simp [pd] at p
  | .scr _, n, b, k, p, q => by simp [pd] at p
  | .bad, n, b, k, p, q => by simp [pd] at p
theorem eqv_ofL : ∀ (a : List D) (n : Nat) (b : List D) (k : Nat), pdL a n = true → pdL b k = true → PyData.eqvAll (toPDL a) (toPDL b) = eqL a b
  | [], n, [], k, p, q => by simp [toPDL, PyData.eqvAll, eqL]
  | [], n, _ :: _, k, p, q => by simp [toPDL, PyData.eqvAll, eqL]
  | _ :: _, n, [], k, p, q => by simp [toPDL, PyData.eqvAll, eqL]
  | x :: a, n, y :: b, k, p, q => by
    simp only [pdL, Bool.and_eq_true] at p q
    simp only [toPDL, PyData.eqvAll, eqL, eqv_of x n y k p.1 q.1, eqv_ofL a n b k p.2 q.2]
end
theorem eqT_some {a b : D} {t : Bool} (h : eqT a b = some t) : pd a pdMax = true ∧ pd b pdMax = true ∧ t = eqD a b := by
  unfold eqT at h
  split at h
  · rename_i h1
    simp only [Bool.and_eq_true] at h1
    exact ⟨h1.1, h1.2, (Option.some.inj h).symm⟩
  · cases h
theorem shaped_of {d : D} {v : V} (p : pd d pdMax = true) (h : Look L m F H d v) : SeqAt.shaped (toPD d) = true := by
  unfold SeqAt.shaped
  rw [lay_look p h]
  have := dep_of d pdMax p
  unfold pdMax at this
  simp
  omega
end
def rEqM (K : PySem.W.Frag) (ne : Bool) : R2 := fun x y H Q => ∃ L m F a b t, L.K = K ∧ Look L m F H a x ∧ Look L m F H b y ∧ eqT a b = some t ∧ Q (.bl (if ne then !t else t)) H
theorem op_eqM {X : Cx} (hu : X.A.units + 64 < cLine) : OpR X (compareOp .Eq) (rEqM X.K false) := by
  intro pins s σ H x y v u Q I rx ry h
  obtain ⟨L, m, F, a, b, t, e, ha, hb, ht, q⟩ := h
  obtain ⟨pa, pb, rfl⟩ := eqT_some ht
  refine op_eqD hu pins s σ H x y v u Q I rx ry ⟨toPD a, toPD b, e ▸ dp_look pa ha, e ▸ dp_look pb hb, shaped_of pa ha, shaped_of pb hb, ?_⟩
  rw [eqv_of a _ b _ pa pb]
  exact q
theorem op_neM {X : Cx} (hu : X.A.units + 64 < cLine) : OpR X (compareOp .NotEq) (rEqM X.K true) := by
  intro pins s σ H x y v u Q I rx ry h
  obtain ⟨L, m, F, a, b, t, e, ha, hb, ht, q⟩ := h
  obtain ⟨pa, pb, rfl⟩ := eqT_some ht
  refine op_neD hu pins s σ H x y v u Q I rx ry ⟨toPD a, toPD b, e ▸ dp_look pa ha, e ▸ dp_look pb hb, shaped_of pa ha, shaped_of pb hb, ?_⟩
  rw [eqv_of a _ b _ pa pb]
  exact q
end Mp

end
section
set_option Elab.async false
set_option linter.all false
set_option maxRecDepth 100000
set_option maxHeartbeats 4000000
/-! S5: operators. -/
namespace Mp
open PySem PySem.Spec PyProof.Rows L2

theorem szLine : szMax ≤ sizeLine := by rw [sizeLine_eq]; unfold szMax; decide
theorem szLt {n : Nat} (h : n ≤ szMax) : n < sizeLine := by rw [sizeLine_eq]; unfold szMax at h; omega
theorem strV_len (s : List Nat) : (strV s).length = s.length := by simp [strV, Str.length]
theorem strV_app (a b : List Nat) : strV a ++ strV b = strV (a ++ b) := by
  show Str.append _ _ = _
  simp [Str.append, strV]
def opK : Op → Operator | .add => .Add | .sub => .Sub | .mul => .Mult | .fdiv => .FloorDiv | .mod => .Mod | .pow => .Pow
def rBin (K : PySem.W.Frag) (op : Op) : R2 := fun x y H Q => ∃ L m F a b z, L.K = K ∧ Look L m F H a x ∧ Look L m F H b y ∧ binF op a b = some z ∧ Res L m F H z Q
section
variable {X : Cx} {L : Lk} {m : List Addr} {F : Addr → Prop} {H : Hp} {Q : VK} {x y : V}
theorem big_mul {a b : Int} (ha : big a = true) (hb : big b = true) : CMulW a b := by
  unfold big at ha hb
  exact wide_mul (a := 4000) (b := 4000) (of_decide_eq_true ha) (of_decide_eq_true hb) (by decide) (by decide) (by decide)
theorem cat_tup0 {prog : Program} {w : World} {A : Around} {E : Value → Shared → Prop} {s : Shared} {t b : Addr} {ws : List Value} {Q : Value → Shared → Prop} (ht : IsTup s.heap t #[]) (hb : IsTup s.heap b ws.toArray)
    (h1 : Q (.ref b) s) : wpAny (model prog w) A (binaryOp .Add (.ref t) (.ref b)) Q E s := by
  obtain ⟨⟨cls, dd, data, sl⟩, ho, hc, n, hd⟩ := id ht
  obtain ⟨⟨cls2, dd2, data2, sl2⟩, ho2, hc2, n2, hd2⟩ := id hb
  simp only at hc hd hc2 hd2
  subst hc hd hc2 hd2
  exact concat_meets ⟨_, ho, rfl⟩ ⟨_, ho2, rfl⟩ noFill_tuple_add seq_tuple_add PySem.F.slot_tuple_add PySem.F.entry_tuple_add (PySem.F.args_tuple_add_2 _ _)
    (tuple_addW0 t b #[] ws.toArray n n2 dd dd2 sl sl2 rfl) ⟨ho, ho2, h1⟩
def rCatT0 (K : PySem.W.Frag) : R2 := fun x y H Q => ∃ a b ys, x = .ref a ∧ y = .ref b ∧ SqT K H a [] ∧ SqT K H b ys ∧ Q (.ref b) H
theorem op_catT0 : OpR X (binaryOp .Add) (rCatT0 X.K) := by
  intro pins s σ H x y v u Q I rx ry h
  obtain ⟨a, b, ys, rfl, rfl, ha, hb, q⟩ := h
  cases rx
  cases ry
  obtain ⟨its, r1, p1, _⟩ := I.tuple ha
  obtain ⟨its2, r2, p2, _⟩ := I.tuple hb
  cases r1
  exact cat_tup0 p1 p2 ⟨.ref b, H, I, rfl, q⟩
theorem op_binM (op : Op) : OpR X (binaryOp (opK op)) (rBin X.K op) := by
  intro pins s σ H x y v u Q I rx ry h
  obtain ⟨L, m, F, a, b, z, eK, ha, hb, hz, R⟩ := h
  have ii : ∀ {i j k : Int}, a = .int i → b = .int j → x = .int i ∧ y = .int j := fun e1 e2 => by subst e1 e2; exact ⟨ha, hb⟩
  have ri : ∀ {k : Int}, z = .dat (.int k) → Q (.int k) H := fun e => by subst e; exact R.v _ (by simp [ResV, Rep])
  cases op with
  | add =>
    cases a with
    | int i => cases b with
      | int j => obtain ⟨rfl, rfl⟩ := ii (k := 0) rfl rfl; simp [binF] at hz; exact op_add pins s σ H _ _ v u Q I rx ry ⟨_, _, rfl, rfl, ri hz.symm⟩
      | _ => simp [binF] at hz
    | str i => cases b with
      | str j =>
        simp only [Look, Rep] at ha hb
        obtain ⟨rfl, ha1, ha2⟩ := ha
        obtain ⟨rfl, hb1, hb2⟩ := hb
        simp only [binF] at hz
        split at hz
        · rename_i hl
          cases hz
          refine op_add_str pins s σ H _ _ v u Q I rx ry ⟨_, _, rfl, rfl, by rw [strV_len, strV_len]; exact Nat.le_trans hl szLine, ?_⟩
          rw [strV_app]
          refine R.v _ ?_
          simp only [ResV, Rep, List.length_append]
          exact ⟨trivial, hl, fun c hc => (List.mem_append.mp hc).elim (ha2 c) (hb2 c)⟩
        · cases hz
      | _ => simp [binF] at hz
    | lst xs => cases b with
      | lst ys =>
        obtain ⟨p, vs, rfl, e1, r1, _⟩ := ha
        obtain ⟨q, ws, rfl, e2, r2, _⟩ := hb
        simp only [binF] at hz
        split at hz
        · rename_i hl
          cases hz
          refine op_cat pins s σ H _ _ v u Q I rx ry ⟨p, q, vs, ws, rfl, rfl, e1, e2, by rw [← r1.len, ← r2.len]; exact Nat.le_trans hl szLine, fun p' hp => ?_⟩
          exact R.n p' _ hp ⟨_, rfl, r1.append r2, by rw [List.length_append]; exact hl⟩
        · cases hz
      | _ => simp [binF] at hz
    | tup xs => cases b with
      | tup ys =>
        have hb0 := hb
        have ha0 := ha
        simp only [Look, Rep] at ha hb
        obtain ⟨p, vs, rfl, e1, r1, _⟩ := ha
        obtain ⟨q, ws, rfl, e2, r2, _⟩ := hb
        simp only [binF] at hz
        split at hz
        · rename_i hl
          cases hz
          have t1 : SqT X.K H p vs := eK ▸ e1.imp (·.2) id
          have t2 : SqT X.K H q ws := eK ▸ e2.imp (·.2) id
          cases vs with
          | nil =>
            cases xs with
            | nil => exact op_catT0 pins s σ H _ _ v u Q I rx ry ⟨p, q, ws, rfl, rfl, t1, t2, R.v _ hb0⟩
            | cons _ _ => simp only [RepL] at r1
          | cons v0 vs =>
            refine op_catT pins s σ H _ _ v u Q I rx ry ⟨p, q, _, _, rfl, rfl, t1, t2, (fun z => nomatch z), by rw [← r1.len, ← r2.len]; exact Nat.le_trans hl szLine, fun e => ?_, fun e p' hp => ?_⟩
            · subst e
              cases ys with
              | nil => rw [List.append_nil] at R; exact R.v _ ha0
              | cons _ _ => simp only [RepL] at r2
            · exact R.n p' _ hp ⟨_, rfl, r1.append r2, by rw [List.length_append]; exact hl⟩
        · cases hz
      | _ => simp [binF] at hz
    | _ => simp [binF] at hz
  | sub =>
    cases a with
    | int i => cases b with
      | int j => obtain ⟨rfl, rfl⟩ := ii (k := 0) rfl rfl; simp [binF] at hz; exact op_sub pins s σ H _ _ v u Q I rx ry ⟨_, _, rfl, rfl, ri hz.symm⟩
      | _ => simp [binF] at hz
    | _ => simp [binF] at hz
  | mul =>
    cases a with
    | int i => cases b with
      | int j =>
        obtain ⟨rfl, rfl⟩ := ii (k := 0) rfl rfl
        simp only [binF] at hz
        split at hz
        · rename_i hl
          simp only [Bool.and_eq_true] at hl
          exact op_mulW pins s σ H _ _ v u Q I rx ry ⟨_, _, rfl, rfl, big_mul hl.1 hl.2, ri (Option.some.inj hz).symm⟩
        · cases hz
      | _ => simp [binF] at hz
    | lst xs => cases b with
      | int n =>
        obtain ⟨p, vs, rfl, e1, r1, hz1⟩ := ha
        cases (show y = .int n from hb)
        simp only [binF, repL, Option.map_eq_some_iff] at hz
        obtain ⟨l, hz, rfl⟩ := hz
        split at hz
        · rename_i hl
          cases hz
          have hn : -(2 ^ 63) ≤ n ∧ n < 2 ^ 63 := hl.2.1
          refine op_rep pins s σ H _ _ v u Q I rx ry ⟨p, n, vs, rfl, rfl, e1, hn.1, hn.2, by rw [← r1.len]; exact Nat.le_trans hl.1 szLine, fun p' hp => ?_⟩
          refine R.n p' _ hp ⟨_, rfl, r1.rep _, ?_⟩
          rw [PyProof.Rows.lm_len_rep_flat, Nat.mul_comm]
          exact hl.1
        · cases hz
      | _ => simp [binF] at hz
    | _ => cases b <;> simp [binF] at hz
  | fdiv =>
    cases a with
    | int i => cases b with
      | int j =>
        obtain ⟨rfl, rfl⟩ := ii (k := 0) rfl rfl
        simp only [binF] at hz
        split at hz
        · rename_i hl
          have hb := hl.2
          unfold big at hb
          exact op_fdivW pins s σ H _ _ v u Q I rx ry ⟨_, _, rfl, rfl, wide_div hl.1 (of_decide_eq_true hb) (by decide) (by decide), ri (Option.some.inj hz).symm⟩
        · cases hz
      | _ => simp [binF] at hz
    | _ => simp [binF] at hz
  | mod =>
    cases a with
    | int i => cases b with
      | int j =>
        obtain ⟨rfl, rfl⟩ := ii (k := 0) rfl rfl
        simp only [binF] at hz
        split at hz
        · rename_i hl
          exact op_mod pins s σ H _ _ v u Q I rx ry ⟨_, _, rfl, rfl, hl, ri (Option.some.inj hz).symm⟩
        · cases hz
      | _ => simp [binF] at hz
    | _ => simp [binF] at hz
  | pow =>
    cases a with
    | int i => cases b with
      | int j =>
        obtain ⟨rfl, rfl⟩ := ii (k := 0) rfl rfl
        simp only [binF] at hz
        split at hz
        · rename_i hl
          exact op_pow pins s σ H _ _ v u Q I rx ry ⟨_, _, rfl, rfl, ⟨hl.1, by omega, hl.2.2⟩, ri (Option.some.inj hz).symm⟩
        · cases hz
      | _ => simp [binF] at hz
    | _ => simp [binF] at hz
end
end Mp

end
section
set_option Elab.async false
set_option linter.all false
set_option maxRecDepth 100000
set_option maxHeartbeats 4000000
/-! S6: comparisons, items, slices. -/
namespace Mp
open PySem PySem.Spec PyProof.Rows L2

def cpK : Cp → CmpOp | .eq => .Eq | .ne => .NotEq | .lt => .Lt | .le => .LtE | .gt => .Gt | .ge => .GtE | .isin => .In | .notin => .NotIn
def rCmp (K : PySem.W.Frag) (cp : Cp) : R2 := fun x y H Q => ∃ L m F a b t, L.K = K ∧ Look L m F H a x ∧ Look L m F H b y ∧ cmpF cp a b = some t ∧ Q (.bl t) H

/-- pure data lies in one way -/
theorem Dp.inj {X : Cx} {pins : List (Addr × Obj)} {σ : L2.St} {H : Hp} {s : Shared} (I : Inv X pins σ H s) : ∀ (d e : PyData) (v : V), Dp X.K H v d → Dp X.K H v e → d = e := by
  have tl : ∀ {a : Addr} {xs ys : List V}, SqL X.K H a xs → SqT X.K H a ys → False := fun {a xs ys} h g => by
    obtain ⟨its, _, ⟨o, n, e, c, _⟩, _⟩ := I.list h
    obtain ⟨its', _, ⟨o', e', c', _⟩, _⟩ := I.tuple g
    rw [e] at e'; cases e'
    rw [c] at c'
    exact absurd c' (by intro z; injection z with z; exact absurd z (by decide))
  suffices h : ∀ (d : PyData), (∀ (e : PyData) (v : V), Dp X.K H v d → Dp X.K H v e → d = e) from fun d => h d
  intro d
  refine PyData.rec (motive_1 := fun d => ∀ (e : PyData) (v : V), Dp X.K H v d → Dp X.K H v e → d = e) (motive_2 := fun ds => ∀ (es : List PyData) (vs : List V), DpAll X.K H vs ds → DpAll X.K H vs es → ds = es) (motive_3 := fun _ => True) (motive_4 := fun _ => True)
    ?_ ?_ ?_ ?_ ?_ ?_ ?_ ?_ ?_ ?_ ?_ ?_ d
  · intro e v h g; cases h; cases g; rfl
  · intro b e v h g; cases h; cases g; rfl
  · intro b e v h g; cases h; cases g; rfl
  · intro b e v h g; cases h; cases g; rfl
  · intro xs ih e v h g
    cases h with
    | lst h1 h2 => cases g with
      | lst g1 g2 => rw [I.list_inj h1 g1] at h2; rw [ih _ _ h2 g2]
      | tup g1 g2 => exact (tl h1 g1).elim
  · intro xs ih e v h g
    cases h with
    | tup h1 h2 => cases g with
      | tup g1 g2 => rw [I.tuple_inj h1 g1] at h2; rw [ih _ _ h2 g2]
      | lst g1 g2 => exact (tl g1 h1).elim
  · intro kvs _ e v h g; cases h
  · intro es vs h g; cases h; cases g; rfl
  · intro d ds ih1 ih2 es vs h g
    cases h with
    | cons h1 h2 => cases g with
      | cons g1 g2 => rw [ih1 _ _ h1 g1, ih2 _ _ h2 g2]
  · trivial
  · intros; trivial
  · intros; trivial
section
variable {X : Cx} {L : Lk} {m : List Addr} {F : Addr → Prop} {H : Hp} {Q : VK} {x y : V}
theorem allPd_get {ds : List D} (h : allPd ds = true) {i : Nat} {d : D} (e : ds[i]? = some d) : pd d pdMax = true := List.all_eq_true.mp h d (List.mem_of_getElem? e)
/-- the items of a row, one by one, against a value -/
theorem memEq {pins : List (Addr × Obj)} {σ : L2.St} {s : Shared} {A : Around} {a : D} {v : Value} {ds : List D} {vs : List V} {its : List Value} (eK : L.K = X.K) (hu : A.units + 60 < cLine) (I : Inv X pins σ H s) (rx : RelV x v) (ha : Look L m F H a x) (pa : pd a pdMax = true)
    (r : RepL L m F H ds vs) (pds : allPd ds = true) (rv : Vals vs its) :
    ∃ e : Value → Bool, (∀ u ∈ its, SeqAt.EqAt A s u v (e u)) ∧ ∀ i : Nat, ∀ d, ds[i]? = some d → ∃ u, its[i]? = some u ∧ e u = eqD d a := by
  have hl : ds.length = its.length := r.len.trans rv.length
  have dpx : Dp X.K H x (toPD a) := eK ▸ dp_look pa ha
  obtain ⟨as, ra⟩ := Dp.reads I (toPD a) x v dpx rx
  have at_ : ∀ i u, its[i]? = some u → ∃ d w, ds[i]? = some d ∧ vs[i]? = some w ∧ RelV w u ∧ Rep L m F H d w := fun i u e => by
    have hi : i < ds.length := by rw [hl]; exact (List.getElem?_eq_some_iff.mp e).1
    have ed : ds[i]? = some ds[i] := List.getElem?_eq_some_iff.mpr ⟨hi, rfl⟩
    obtain ⟨w, ew, rw'⟩ := r.get ed
    obtain ⟨u', eu, ru⟩ := rv.get ew
    rw [e] at eu; cases eu
    exact ⟨_, w, ed, ew, ru, rw'⟩
  have same : ∀ i j d d' u, its[i]? = some u → its[j]? = some u → ds[i]? = some d → ds[j]? = some d' → eqD d a = eqD d' a := fun i j d d' u e1 e2 e3 e4 => by
    obtain ⟨d1, w1, f1, f2, f3, f4⟩ := at_ i u e1
    obtain ⟨d2, w2, g1, g2, g3, g4⟩ := at_ j u e2
    rw [e3] at f1; cases f1
    rw [e4] at g1; cases g1
    have hw : w1 = w2 := f3.inj g3
    subst hw
    have p1 := allPd_get pds e3
    have p2 := allPd_get pds e4
    have q1 : Dp X.K H w1 (toPD d) := eK ▸ dp_of _ _ _ p1 f4
    have q2 : Dp X.K H w1 (toPD d') := eK ▸ dp_of _ _ _ p2 g4
    rw [← eqv_of d _ a _ p1 pa, ← eqv_of d' _ a _ p2 pa, Dp.inj I _ _ _ q1 q2]
  classical
  refine ⟨fun u => decide (∃ (i : Nat) (d : D), its[i]? = some u ∧ ds[i]? = some d ∧ eqD d a = true), fun u hu' => ?_, fun i d e => ?_⟩
  · obtain ⟨i, hi, e⟩ := List.getElem_of_mem hu'
    have e1 : its[i]? = some u := List.getElem?_eq_some_iff.mpr ⟨hi, e⟩
    obtain ⟨d, w, f1, f2, f3, f4⟩ := at_ i u e1
    have p1 := allPd_get pds f1
    obtain ⟨bs, rb⟩ := Dp.reads I (toPD d) w u (eK ▸ dp_of _ _ _ p1 f4) f3
    have q := SeqAt.eqAt_reads (toPD d) (toPD a) A s u v bs as rb ra (lay_look p1 f4.look) (lay_look pa ha) (by
      have h1 := dep_of d pdMax p1
      have h2 : min (toPD d).depth (toPD a).depth ≤ (toPD d).depth := Nat.min_le_left _ _
      unfold pdMax at h1
      omega)
    rw [eqv_of d _ a _ p1 pa] at q
    have : decide (∃ (i : Nat) (d : D), its[i]? = some u ∧ ds[i]? = some d ∧ eqD d a = true) = eqD d a := by
      cases h : eqD d a with
      | true => exact decide_eq_true ⟨i, d, e1, f1, h⟩
      | false =>
        refine decide_eq_false fun ⟨j, d', g1, g2, g3⟩ => ?_
        rw [same i j d d' u e1 g1 f1 g2, g3] at h
        cases h
    exact Eq.mpr (congrArg (SeqAt.EqAt A s u v) this) q
  · have hi : i < its.length := by rw [← hl]; exact (List.getElem?_eq_some_iff.mp e).1
    have e1 : its[i]? = some its[i] := List.getElem?_eq_some_iff.mpr ⟨hi, rfl⟩
    refine ⟨_, e1, ?_⟩
    cases h : eqD d a with
    | true => exact decide_eq_true ⟨i, d, e1, e, h⟩
    | false =>
      refine decide_eq_false fun ⟨j, d', g1, g2, g3⟩ => ?_
      rw [same i j d d' _ e1 g1 e g2, g3] at h
      cases h
theorem any_by {a : D} {ds : List D} {its : List Value} {e : Value → Bool} (hl : ds.length = its.length) (h : ∀ i : Nat, ∀ d, ds[i]? = some d → ∃ u, its[i]? = some u ∧ e u = eqD d a) : its.any e = ds.any fun d => eqD d a := by
  induction ds generalizing its with
  | nil => cases its with | nil => rfl | cons _ _ => simp at hl
  | cons d ds ih => cases its with
    | nil => simp at hl
    | cons u its =>
      obtain ⟨u', e1, e2⟩ := h 0 d rfl
      simp at e1
      subst e1
      rw [List.any_cons, List.any_cons, e2, ih (by simpa using hl) fun i d' e' => by simpa using h (i + 1) d' (by simpa using e')]
theorem keyOf_kV {d : D} {k : Key} {v : V} (h : keyOf d = some k) (r : Look L m F H d v) : v = kV k := by
  cases d <;> simp [keyOf] at h
  · subst h; exact r
  · subst h; simp only [Look, Rep] at r; exact r.1
theorem keyOf_eq {a b : D} {j k : Key} (h : keyOf a = some j) (g : keyOf b = some k) : eqD a b = decide (j = k) := by
  cases a <;> simp [keyOf] at h <;> cases b <;> simp [keyOf] at g
  · subst h g; simp only [eqD]; rw [key_ll]
  · subst h g; simp only [eqD]; rw [key_lr]
  · subst h g; simp only [eqD]; rw [key_rl]
  · subst h g
    simp only [eqD]
    rw [key_rr, ← strV_beq]
    rw [Bool.beq_eq_decide_eq]
theorem dGet_rep {k : D} {q : Key} (hk : keyOf k = some q) : ∀ {kvs : List (D × D)} {ks : List (Key × V)}, RepK L m F H kvs ks → match dGet k kvs with | some d => ∃ v, valV ks q = some v ∧ Rep L m F H d v | none => valV ks q = none
  | [], [], _ => by simp [dGet, valV_nil]
  | (j, d) :: kvs, (p, v) :: ks, h => by
    simp only [RepK] at h
    obtain ⟨h1, h2, h3⟩ := h
    have ih := dGet_rep hk h3
    have e := keyOf_eq h1 hk
    simp only [dGet, List.find?_cons] at ih ⊢
    by_cases hp : p = q
    · rw [e, decide_eq_true hp]
      exact ⟨v, valV_pos hp, h2⟩
    · rw [e, decide_eq_false hp]
      simp only
      rw [valV_neg (p := (p, v)) hp]
      exact ih
  | [], _ :: _, h => by simp only [RepK] at h
  | _ :: _, [], h => by simp only [RepK] at h
theorem RepK.lenK {L : Lk} {m : List Addr} {F : Addr → Prop} {H : Hp} : ∀ {kvs : List (D × D)} {ks : List (Key × V)}, RepK L m F H kvs ks → kvs.length = ks.length
  | [], [], _ => rfl
  | (_, _) :: r, (_, _) :: s, h => by
    simp only [RepK] at h
    simp [RepK.lenK h.2.2]
  | [], _ :: _, h => by simp only [RepK] at h
  | _ :: _, [], h => by simp only [RepK] at h
theorem dget_of {k : D} {q : Key} {a : Addr} {ks : List (Key × V)} (hk : keyOf k = some q) (hy : y = kV q) (hd : Rd H a (.dK ks)) : DGet H a y (valV ks q) := .inl ⟨ks, q, hd, hy, rfl⟩
theorem valV_isSome {k : D} {q : Key} (hk : keyOf k = some q) {kvs : List (D × D)} {ks : List (Key × V)} (r : RepK L m F H kvs ks) : (valV ks q).isSome = (dGet k kvs).isSome := by
  have := dGet_rep hk r
  cases e : dGet k kvs with
  | none => rw [e] at this; rw [this]; rfl
  | some d => rw [e] at this; obtain ⟨v, e2, _⟩ := this; rw [e2]; rfl
theorem memD_some {a : D} {xs : List D} {t : Bool} (h : memD a xs = some t) : pd a pdMax = true ∧ allPd xs = true ∧ t = xs.any fun d => eqD d a := by
  unfold memD at h
  split at h
  · rename_i h1
    simp only [Bool.and_eq_true] at h1
    exact ⟨h1.1, h1.2, (Option.some.inj h).symm⟩
  · cases h
theorem sign_dec {c : Nat} {z : List Nat} [i : Decidable (c ∈ (strV z).cps.toList)] : @decide _ i = z.contains c := by
  by_cases h : c ∈ z
  · rw [decide_eq_true (show c ∈ (strV z).cps.toList by simpa [strV] using h)]; simp [h]
  · rw [decide_eq_false (show ¬ c ∈ (strV z).cps.toList by simpa [strV] using h)]; simp [h]
theorem op_cmpM (hu : X.A.units + 64 < cLine) (cp : Cp) : OpR X (compareOp (cpK cp)) (rCmp X.K cp) := by
  intro pins s σ H x y v u Q I rx ry h
  obtain ⟨L, m, F, a, b, t, eK, ha, hb, ht, q⟩ := h
  have hu1 : X.A.in1.units + 64 < cLine ∨ True := .inr trivial
  cases cp with
  | eq => exact op_eqM hu pins s σ H x y v u Q I rx ry ⟨L, m, F, a, b, t, eK, ha, hb, ht, q⟩
  | ne =>
    simp only [cmpF, Option.map_eq_some_iff] at ht
    obtain ⟨t', ht, rfl⟩ := ht
    exact op_neM hu pins s σ H x y v u Q I rx ry ⟨L, m, F, a, b, t', eK, ha, hb, ht, q⟩
  | lt => cases a <;> simp [cmpF, ordF, numD] at ht; cases b <;> simp at ht; subst ht; exact op_lt pins s σ H _ _ v u Q I rx ry ⟨_, _, ha, hb, q⟩
  | le => cases a <;> simp [cmpF, ordF, numD] at ht; cases b <;> simp at ht; subst ht; exact op_le pins s σ H _ _ v u Q I rx ry ⟨_, _, ha, hb, q⟩
  | gt => cases a <;> simp [cmpF, ordF, numD] at ht; cases b <;> simp at ht; subst ht; exact op_gt pins s σ H _ _ v u Q I rx ry ⟨_, _, ha, hb, q⟩
  | ge => cases a <;> simp [cmpF, ordF, numD] at ht; cases b <;> simp at ht; subst ht; exact op_ge pins s σ H _ _ v u Q I rx ry ⟨_, _, ha, hb, q⟩
  | isin =>
    cases b with
    | lst xs =>
      obtain ⟨pa, pxs, rfl⟩ := memD_some (show memD a xs = some t by cases a <;> exact ht)
      obtain ⟨p, vs, rfl, e1, r, _⟩ := hb
      cases ry
      obtain ⟨its, rv, pl, hz⟩ := I.list (.of e1)
      obtain ⟨e, he, hx⟩ := memEq (A := X.A.in1) eK (by show X.A.units + 1 + 60 < cLine; omega) I rx ha pa r pxs rv
      refine SeqAt.in_listAt e pl.isList (fun w hw => he w (by simpa using hw)) ⟨.bl _, H, I, rfl, ?_⟩
      rw [show its.toArray.any e = its.any e by simp, any_by (r.len.trans rv.length) hx]
      exact q
    | tup xs =>
      obtain ⟨pa, pxs, rfl⟩ := memD_some (show memD a xs = some t by cases a <;> exact ht)
      simp only [Look, Rep] at hb
      obtain ⟨p, vs, rfl, e1, r, _⟩ := hb
      cases ry
      have e1' : SqT X.K H p vs := by rw [← eK]; exact e1.imp (fun z => z.2) id
      obtain ⟨its, rv, pl, hz⟩ := I.tuple e1'
      obtain ⟨e, he, hx⟩ := memEq (A := X.A.in1) eK (by show X.A.units + 1 + 60 < cLine; omega) I rx ha pa r pxs rv
      refine SeqAt.in_tupleAt e pl (fun w hw => he w (by simpa using hw)) ⟨.bl _, H, I, rfl, ?_⟩
      rw [show its.toArray.any e = its.any e by simp, any_by (r.len.trans rv.length) hx]
      exact q
    | str z =>
      cases a with
      | str c =>
        match c, ht, ha with
        | [c], ht, ha =>
          simp only [cmpF] at ht
          cases ht
          simp only [Look, Rep] at ha hb
          refine op_in_sign pins s σ H _ _ v u Q I rx ry ⟨c, strV z, ha.1, hb.1, ?_⟩
          rw [sign_dec]
          exact q
        | [], ht, _ => simp [cmpF] at ht
        | _ :: _ :: _, ht, _ => simp [cmpF] at ht
      | _ => simp [cmpF] at ht
    | dct kvs =>
      have ht : (if isKey a then some (dGet a kvs).isSome else none) = some t := by cases a <;> exact ht
      split at ht
      · cases ht
        obtain ⟨p, ks, rfl, e1, r, _⟩ := hb
        cases ry
        have e1' : Rd H p (.dK ks) := e1
        obtain ⟨k, hk⟩ : ∃ k, keyOf a = some k := by cases a <;> simp [isKey] at * <;> simp [keyOf]
        refine d_in (o := valV ks k) (by omega) I (dget_of hk (keyOf_kV hk ha) e1') rx fun s' I' => ⟨.bl _, H, I', rfl, ?_⟩
        rw [valV_isSome hk r]
        exact q
      · cases ht
    | _ => cases a <;> simp [cmpF] at ht
  | notin =>
    cases b with
    | lst xs =>
      have ht2 : (memD a xs).map not = some t := by cases a <;> exact ht
      simp only [Option.map_eq_some_iff] at ht2
      obtain ⟨t', ht3, rfl⟩ := ht2
      obtain ⟨pa, pxs, rfl⟩ := memD_some ht3
      obtain ⟨p, vs, rfl, e1, r, _⟩ := hb
      cases ry
      obtain ⟨its, rv, pl, hz⟩ := I.list (.of e1)
      obtain ⟨e, he, hx⟩ := memEq (A := X.A.in1) eK (by show X.A.units + 1 + 60 < cLine; omega) I rx ha pa r pxs rv
      refine SeqAt.notIn_listAt e pl.isList (fun w hw => he w (by simpa using hw)) ⟨.bl _, H, I, rfl, ?_⟩
      rw [show its.toArray.any e = its.any e by simp, any_by (r.len.trans rv.length) hx]
      exact q
    | tup xs =>
      have ht2 : (memD a xs).map not = some t := by cases a <;> exact ht
      simp only [Option.map_eq_some_iff] at ht2
      obtain ⟨t', ht3, rfl⟩ := ht2
      obtain ⟨pa, pxs, rfl⟩ := memD_some ht3
      simp only [Look, Rep] at hb
      obtain ⟨p, vs, rfl, e1, r, _⟩ := hb
      cases ry
      have e1' : SqT X.K H p vs := by rw [← eK]; exact e1.imp (fun z => z.2) id
      obtain ⟨its, rv, pl, hz⟩ := I.tuple e1'
      obtain ⟨e, he, hx⟩ := memEq (A := X.A.in1) eK (by show X.A.units + 1 + 60 < cLine; omega) I rx ha pa r pxs rv
      refine SeqAt.notIn_tupleAt e pl (fun w hw => he w (by simpa using hw)) ⟨.bl _, H, I, rfl, ?_⟩
      rw [show its.toArray.any e = its.any e by simp, any_by (r.len.trans rv.length) hx]
      exact q
    | str z =>
      cases a with
      | str c =>
        match c, ht, ha with
        | [c], ht, ha =>
          simp only [cmpF] at ht
          cases ht
          simp only [Look, Rep] at ha hb
          refine op_notIn_sign pins s σ H _ _ v u Q I rx ry ⟨c, strV z, ha.1, hb.1, ?_⟩
          rw [sign_dec]
          exact q
        | [], ht, _ => simp [cmpF] at ht
        | _ :: _ :: _, ht, _ => simp [cmpF] at ht
      | _ => simp [cmpF] at ht
    | dct kvs =>
      have ht : (if isKey a then some (!(dGet a kvs).isSome) else none) = some t := by cases a <;> exact ht
      split at ht
      · cases ht
        obtain ⟨p, ks, rfl, e1, r, _⟩ := hb
        cases ry
        have e1' : Rd H p (.dK ks) := e1
        obtain ⟨k, hk⟩ : ∃ k, keyOf a = some k := by cases a <;> simp [isKey] at * <;> simp [keyOf]
        refine d_notIn (o := valV ks k) (by omega) I (dget_of hk (keyOf_kV hk ha) e1') rx fun s' I' => ⟨.bl _, H, I', rfl, ?_⟩
        rw [valV_isSome hk r]
        exact q
      · cases ht
    | _ => cases a <;> simp [cmpF] at ht
end
end Mp

end
section
set_option Elab.async false
set_option linter.all false
set_option maxRecDepth 100000
set_option maxHeartbeats 4000000
/-! S7: items, slices, built-ins. -/
namespace Mp
open PySem PySem.Spec PyProof.Rows L2

def rGet (K : PySem.W.Frag) : R2 := fun x y H Q => ∃ L m F a b d, L.K = K ∧ Look L m F H a x ∧ Look L m F H b y ∧ getF a b = some d ∧ ∀ v, Rep L m F H d v → Q v H
def rSlc (K : PySem.W.Frag) : V → Option Int → Option Int → Hp → VK → Prop := fun x lo hi H Q => ∃ L m F a z, L.K = K ∧ Look L m F H a x ∧ slcF a lo hi = some z ∧ Res L m F H z Q
theorem ixN_idx (n : Nat) (i : Int) : ixN n i = idxAt n i := by
  unfold ixN idxAt
  by_cases h : 0 ≤ i
  · rw [if_pos h, if_pos h]
  · rw [if_neg h, if_neg h]
    by_cases g : 0 ≤ i + n
    · rw [if_pos g, if_pos (by omega)]
    · rw [if_neg g, if_neg (by omega)]
theorem atI_getAt {α : Type} (xs : List α) (i : Int) : atI xs i = getAt xs i := by
  unfold atI getAt
  rw [ixN_idx]
  cases idxAt xs.length i <;> rfl
section
variable {X : Cx} {L : Lk} {m : List Addr} {F : Addr → Prop} {H : Hp} {Q : VK} {x y : V}
theorem Look.sqL {xs : List D} (eK : L.K = X.K) (h : Look L m F H (.lst xs) x) : ∃ a vs, x = .ref a ∧ SqL X.K H a vs ∧ RepL L m F H xs vs ∧ xs.length ≤ szMax := by
  obtain ⟨a, vs, e, h, r, z⟩ := h
  exact ⟨a, vs, e, .inl (.inl h), r, z⟩
theorem Look.sqT {xs : List D} (eK : L.K = X.K) (h : Look L m F H (.tup xs) x) : ∃ a vs, x = .ref a ∧ SqT X.K H a vs ∧ RepL L m F H xs vs ∧ xs.length ≤ szMax := by
  simp only [Look, Rep] at h
  obtain ⟨a, vs, e, h, r, z⟩ := h
  refine ⟨a, vs, e, ?_, r, z⟩
  rw [← eK]
  exact h.imp (fun z => z.2) id
theorem Look.scrL {xs : List Int} (eK : L.K = X.K) (h : Look L m F H (.scr xs) x) : ∃ a, x = .ref a ∧ SqL X.K H a (xs.map V.int) ∧ xs.length ≤ szMax := by
  simp only [Look, Rep] at h
  obtain ⟨a, e, h, z⟩ := h
  refine ⟨a, e, ?_, z⟩
  rw [← eK]
  exact h.imp (fun z => z.2) id
theorem Look.int {i : Int} (h : Look L m F H (.int i) x) : x = .int i := h
theorem RepL.getAt {ds : List D} {vs : List V} {d : D} {i : Int} (r : RepL L m F H ds vs) (h : Mp.getAt ds i = some d) : ∃ v, atI vs i = some v ∧ Rep L m F H d v := by
  rw [atI_getAt]
  unfold Mp.getAt at h ⊢
  rw [← r.len]
  cases e : idxAt ds.length i with
  | none => rw [e] at h; cases h
  | some k => rw [e] at h; exact r.get h
theorem ix_any (hu : X.A.units + 64 < cLine) : IxR X (rGet X.K) := by
  intro value slice pins s σ H x y v u Q I rx ry h hs
  obtain ⟨L, m, F, a, b, d, eK, ha, hb, hd, q⟩ := h
  cases a with
  | lst xs => cases b with
    | int i =>
      cases hb.int
      obtain ⟨p, vs, rfl, h, r, z⟩ := ha.sqL eK
      obtain ⟨w, e, rw'⟩ := r.getAt (show getAt xs i = some d from hd)
      exact ix_list value slice pins s σ H _ _ v u Q I rx ry ⟨p, vs, i, w, rfl, rfl, h, e, q w rw'⟩ hs
    | _ => simp [getF] at hd
  | tup xs => cases b with
    | int i =>
      cases hb.int
      obtain ⟨p, vs, rfl, h, r, z⟩ := ha.sqT eK
      obtain ⟨w, e, rw'⟩ := r.getAt (show getAt xs i = some d from hd)
      exact ix_tup value slice pins s σ H _ _ v u Q I rx ry ⟨p, vs, i, w, rfl, rfl, h, e, q w rw'⟩ hs
    | _ => simp [getF] at hd
  | scr xs => cases b with
    | int i =>
      cases hb.int
      obtain ⟨p, rfl, h, z⟩ := ha.scrL eK
      have hd : (getAt xs i).map D.int = some d := hd
      simp only [Option.map_eq_some_iff] at hd
      obtain ⟨j, hj, rfl⟩ := hd
      refine ix_list value slice pins s σ H _ _ v u Q I rx ry ⟨p, _, i, .int j, rfl, rfl, h, ?_, q _ (by simp [Rep])⟩ hs
      rw [atI_getAt]
      unfold getAt at hj ⊢
      rw [List.length_map]
      cases e : idxAt xs.length i with
      | none => rw [e] at hj; cases hj
      | some k => rw [e] at hj; simp only at hj ⊢; rw [List.getElem?_map, hj]; rfl
    | _ => simp [getF] at hd
  | str z => cases b with
    | int i =>
      cases hb.int
      simp only [Look, Rep] at ha
      obtain ⟨rfl, hz, hc⟩ := ha
      simp only [getF] at hd
      cases e : idxAt z.length i with
      | none => rw [e] at hd; cases hd
      | some k =>
        rw [e] at hd
        simp only [Option.map_eq_some_iff] at hd
        obtain ⟨c, ec, rfl⟩ := hd
        refine ix_str value slice pins s σ H _ _ v u Q I rx ry ⟨strV z, i, c, rfl, rfl, by rw [strV_len]; exact Nat.le_trans hz szLine, ?_, q _ ?_⟩ hs
        · rw [atI_getAt]
          unfold getAt
          simp only [strV]
          rw [e]
          exact ec
        · simp only [Rep, strV]
          exact ⟨trivial, by simp [szMax], fun c' hc' => by
            simp at hc'
            subst hc'
            exact hc _ (List.mem_of_getElem? ec)⟩
    | _ => simp [getF] at hd
  | dct kvs =>
    have hd : (if isKey b then dGet b kvs else none) = some d := by cases b <;> exact hd
    split at hd
    · obtain ⟨p, ks, rfl, e1, r, _⟩ := ha
      cases rx
      obtain ⟨k, hk⟩ : ∃ k, keyOf b = some k := by cases b <;> simp [isKey] at * <;> simp [keyOf]
      have := dGet_rep hk r
      rw [hd] at this
      obtain ⟨w, ew, rw'⟩ := this
      have g : DGet H p y (some w) := by rw [← ew]; exact dget_of hk (keyOf_kV hk hb) e1
      exact tail_any (ops := [.ref p, u]) (dict_typeIs I g) PySem.F.slot_dict_getitem.lookup (d_getItem (by omega) I g ry fun w' s' I' r' => ⟨w, H, I', r', q w rw'⟩) (hs)
    · cases hd
  | _ => cases b <;> simp [getF] at hd
theorem clamp_eq (n : Nat) (d : Nat) (lo : Option Int) : HT.sIx n d lo = (match lo with | some i => clampI n i | none => d) := by cases lo <;> rfl
theorem cut_eq {α : Type} (xs : List α) (lo hi : Option Int) : cut xs lo hi = (xs.drop (HT.sIx xs.length 0 lo)).take (HT.sIx xs.length xs.length hi - HT.sIx xs.length 0 lo) := by
  unfold cut
  rw [List.drop_take, clamp_eq, clamp_eq]
  all_goals (cases lo <;> cases hi <;> rfl)
theorem cut_len {α : Type} (xs : List α) (lo hi : Option Int) : (cut xs lo hi).length ≤ xs.length := by
  rw [cut_eq, List.length_take, List.length_drop]; omega
theorem RepL.cut {ds : List D} {vs : List V} (r : RepL L m F H ds vs) (lo hi : Option Int) : RepL L m F H (cut ds lo hi) (cutV vs lo hi) := by
  rw [cut_eq, cutV, r.len]
  exact (r.drop _).take _
theorem cut_all {α : Type} (xs : List α) {lo hi : Option Int} (h : HT.sIx xs.length 0 lo = 0 ∧ HT.sIx xs.length xs.length hi = xs.length) : cut xs lo hi = xs := by
  rw [cut_eq, h.1, h.2]
  simp
theorem sl_any : L2.SlR X (rSlc X.K) := by
  intro pins s σ H x v vl vu lo hi sl Q I rx hs pl pu h
  obtain ⟨L, m, F, a, z, eK, ha, hz, R⟩ := h
  cases a with
  | lst xs =>
    obtain ⟨p, vs, rfl, h, r, z⟩ := ha.sqL eK
    cases hz
    exact sl_list pins s σ H _ v vl vu lo hi sl Q I rx hs pl pu ⟨p, vs, rfl, h, fun p' hp => R.n p' _ hp ⟨_, rfl, r.cut lo hi, Nat.le_trans (cut_len _ _ _) z⟩⟩
  | tup xs =>
    obtain ⟨p, vs, rfl, h, r, z⟩ := ha.sqT eK
    cases hz
    refine sl_tupA pins s σ H _ v vl vu lo hi sl Q I rx hs pl pu ⟨p, vs, rfl, h, fun w => ?_, fun w p' hp => R.n p' _ hp ⟨_, rfl, r.cut lo hi, Nat.le_trans (cut_len _ _ _) z⟩⟩
    rw [← r.len] at w
    rw [cut_all _ w] at R
    exact R.v _ ha
  | str xs =>
    simp only [Look, Rep] at ha
    obtain ⟨rfl, hz1, hc⟩ := ha
    cases hz
    refine sl_str pins s σ H _ v vl vu lo hi sl Q I rx hs pl pu ⟨_, rfl, by rw [strV_len]; exact Nat.le_trans hz1 szLine, ?_⟩
    refine R.v _ ?_
    simp only [ResV, Rep]
    refine ⟨?_, Nat.le_trans (cut_len _ _ _) hz1, fun c hc' => hc c ?_⟩
    · unfold cutS
      rw [strV_len, cut_eq]
      simp [strV]
    · rw [cut_eq] at hc'
      exact List.mem_of_mem_drop (List.mem_of_mem_take hc')
  | _ => cases hz
end
end Mp

end
section
set_option Elab.async false
set_option linter.all false
set_option maxRecDepth 100000
set_option maxHeartbeats 4000000
/-! S8: built-ins by name. -/
namespace Mp
open PySem PySem.Spec PyProof.Rows L2

/-- a value's first argument is looked at, the others are kept -/
def rBi (K : PySem.W.Frag) (b : BI) : List V → Hp → VK → Prop := fun xs H Q => ∃ L m F a as x xr z, xs = x :: xr ∧ L.K = K ∧ Look L m F H a x ∧ RepL L m F H as xr ∧ biF b (a :: as) = some z ∧ Res L m F H z Q
/-- the built-ins that have a lemma, by the number of arguments -/
def biN : BI → Nat
  | .len => 1 | .abs => 1 | .int => 1 | .tuple => 1 | .minL => 1 | .maxL => 1 | .sum => 1 | .any => 1 | .all => 1 | .minA => 2 | .maxA => 2 | _ => 0
/-- .. those that ask for a calm place -/
def biCalm : BI → Bool
  | .minL => true | .maxL => true | .sum => true | .any => true | .all => true | .minA => true | .maxA => true | _ => false
/-- name, and whether it is a type -/
def biNm : BI → String × Bool
  | .len => ("len", false) | .abs => ("abs", false) | .int => ("int", true) | .tuple => ("tuple", true)
  | .minL => ("min", false) | .maxL => ("max", false) | .minA => ("min", false) | .maxA => ("max", false)
  | .sum => ("sum", false) | .any => ("any", false) | .all => ("all", false) | _ => ("", false)
def biV' (b : BI) : Value := if (biNm b).2 then .type (biNm b).1 else .builtin (biNm b).1
section
variable {X : Cx} {L : Lk} {m : List Addr} {F : Addr → Prop} {H : Hp} {Q : VK} {x y : V}
theorem RepL.nil_inv {vs : List V} (h : RepL L m F H [] vs) : vs = [] := by cases vs with | nil => rfl | cons => simp only [RepL] at h
theorem RepL.one_inv {d : D} {vs : List V} (h : RepL L m F H [d] vs) : ∃ v, vs = [v] ∧ Rep L m F H d v := by
  cases vs with
  | nil => simp only [RepL] at h
  | cons v vs =>
    simp only [RepL] at h
    obtain ⟨h1, h2⟩ := h
    cases h2.nil_inv
    exact ⟨v, rfl, h1⟩
theorem Res.int {i : Int} (R : Res L m F H (.dat (.int i)) Q) : Q (.int i) H := R.v _ (by simp [ResV, Rep])
theorem Res.bl {i : Bool} (R : Res L m F H (.dat (.bl i)) Q) : Q (.bl i) H := R.v _ (by simp [ResV, Rep])
theorem call_biM (b : BI) (n : Nat) (hn0 : n ≠ 0) (hb : biN b = n) (hc : biCalm b = true → X.calm = true) : CallR X (biV' b) (fun xs H Q => xs.length = n ∧ rBi X.K b xs H Q) := by
  intro pins s σ H xs us Q I rx h
  obtain ⟨hn, L, m, F, a, as, x, xr, z, rfl, eK, ha, hr, hz, R⟩ := h
  subst hb
  have one : xr.length + 1 = 1 → xr = [] ∧ as = [] := fun h => by
    obtain rfl : xr = [] := by simpa using h
    exact ⟨rfl, by cases as with | nil => rfl | cons => simp only [RepL] at hr⟩
  have two : xr.length + 1 = 2 → ∃ y b', xr = [y] ∧ as = [b'] ∧ Rep L m F H b' y := fun h => by
    match xr, as, h, hr with
    | [y], [b'], _, hr => exact ⟨y, b', rfl, rfl, by simp only [RepL] at hr; exact hr.1⟩
    | [y], [], _, hr => simp only [RepL] at hr
    | [y], _ :: _ :: _, _, hr => simp [RepL] at hr
  cases b <;> (try exact absurd rfl hn0)
  case len =>
    obtain ⟨rfl, rfl⟩ := one hn
    have hz : bi1 .len a = some z := hz
    cases a with
    | lst ds =>
      obtain ⟨p, vs, rfl, h, r, hz1⟩ := ha.sqL eK
      cases hz
      exact call_len_seq pins s σ H _ us Q I rx ⟨p, vs, rfl, .inl h, by rw [← r.len]; exact R.int⟩
    | tup ds =>
      obtain ⟨p, vs, rfl, h, r, hz1⟩ := ha.sqT eK
      cases hz
      exact call_len_seq pins s σ H _ us Q I rx ⟨p, vs, rfl, .inr h, by rw [← r.len]; exact R.int⟩
    | scr ds =>
      obtain ⟨p, rfl, h, hz1⟩ := ha.scrL eK
      cases hz
      exact call_len_seq pins s σ H _ us Q I rx ⟨p, _, rfl, .inl h, by rw [List.length_map]; exact R.int⟩
    | str ds =>
      simp only [Look, Rep] at ha
      obtain ⟨rfl, hz1, hc⟩ := ha
      cases hz
      exact call_len pins s σ H _ us Q I rx ⟨_, _, rfl, ⟨by rw [strV_len]; exact Nat.le_trans hz1 szLine, rfl⟩, by rw [strV_len]; exact R.int⟩
    | dct kvs =>
      obtain ⟨p, ks, rfl, e1, r, _⟩ := ha
      cases hz
      rw [Vals.ref1 rx]
      refine d_len I e1 fun t s' I' => ⟨.int ks.length, H, I', ⟨t, rfl⟩, ?_⟩
      rw [← r.lenK]
      exact R.int
    | _ => simp [bi1] at hz
  case abs =>
    obtain ⟨rfl, rfl⟩ := one hn
    have hz : bi1 .abs a = some z := hz
    cases a <;> simp only [bi1] at hz <;> try contradiction
    cases hz
    cases ha.int
    refine call_abs pins s σ H _ us Q I rx ⟨_, rfl, ?_⟩
    rename_i i
    rw [show (if i < 0 then -i else i) = ((i.natAbs : Nat) : Int) by split <;> omega]
    exact R.int
  case int =>
    obtain ⟨rfl, rfl⟩ := one hn
    have hz : bi1 .int a = some z := hz
    cases a <;> simp only [bi1] at hz <;> try contradiction
    · cases hz
      cases (show x = .bl _ from ha)
      exact call_int1 pins s σ H _ us Q I rx (.inr ⟨_, rfl, R.int⟩)
    · cases hz
      cases ha.int
      exact call_int1 pins s σ H _ us Q I rx (.inl ⟨_, rfl, R.int⟩)
  case tuple =>
    obtain ⟨rfl, rfl⟩ := one hn
    have hz : bi1 .tuple a = some z := hz
    cases a <;> simp only [bi1, seqOf, Option.map] at hz <;> try contradiction
    · cases hz
      obtain ⟨p, vs, rfl, h, r, hz1⟩ := ha.sqT eK
      exact call_tuple_of pins s σ H _ us Q I rx ⟨p, vs, rfl, .inr ⟨h, R.v _ ha⟩⟩
    · cases hz
      obtain ⟨p, vs, rfl, h, r, hz1⟩ := ha.sqL eK
      exact call_tuple_of pins s σ H _ us Q I rx ⟨p, vs, rfl, .inl ⟨h, fun l hl => R.n l _ hl ⟨_, rfl, r, hz1⟩⟩⟩
  case minA =>
    obtain ⟨y, b', rfl, rfl, hr1⟩ := two hn
    cases a <;> cases b' <;> simp only [biF] at hz <;> try contradiction
    cases hz
    cases ha.int
    cases (show y = .int _ from hr1)
    refine call_min2 (hc rfl) pins s σ H _ us Q I rx ⟨_, _, rfl, ?_⟩
    rename_i i j
    rw [show (if j < i then j else i) = min i j by split <;> omega]
    exact R.int
  case maxA =>
    obtain ⟨y, b', rfl, rfl, hr1⟩ := two hn
    cases a <;> cases b' <;> simp only [biF] at hz <;> try contradiction
    cases hz
    cases ha.int
    cases (show y = .int _ from hr1)
    refine call_max2 (hc rfl) pins s σ H _ us Q I rx ⟨_, _, rfl, ?_⟩
    rename_i i j
    rw [show (if j > i then j else i) = max i j by split <;> omega]
    exact R.int
  case minL =>
    obtain ⟨rfl, rfl⟩ := one hn
    have hz : bi1 .minL a = some z := hz
    cases a <;> simp only [bi1] at hz <;> try contradiction
    rename_i ds _
    obtain ⟨p, vs, rfl, h, r, hz1⟩ := ha.sqL eK
    cases e : ints? ds with
    | none => rw [e] at hz; cases hz
    | some l =>
      rw [e] at hz
      simp only [Option.map_eq_some_iff] at hz
      obtain ⟨i, hi, rfl⟩ := hz
      have ev := r.ints e
      subst ev
      rw [List.min?_eq_some_iff] at hi
      refine cr_min (hc rfl) pins s σ H _ us Q I rx ⟨p, l, rfl, h, List.length_pos_of_mem hi.1, fun k hk hl => ?_⟩
      rw [show k = i from Int.le_antisymm (hl i hi.1) (hi.2 k hk)]
      exact R.int
  case maxL =>
    obtain ⟨rfl, rfl⟩ := one hn
    have hz : bi1 .maxL a = some z := hz
    cases a <;> simp only [bi1] at hz <;> try contradiction
    rename_i ds _
    obtain ⟨p, vs, rfl, h, r, hz1⟩ := ha.sqL eK
    cases e : ints? ds with
    | none => rw [e] at hz; cases hz
    | some l =>
      rw [e] at hz
      simp only [Option.map_eq_some_iff] at hz
      obtain ⟨i, hi, rfl⟩ := hz
      have ev := r.ints e
      subst ev
      rw [List.max?_eq_some_iff] at hi
      refine cr_max (hc rfl) pins s σ H _ us Q I rx ⟨p, l, rfl, h, List.length_pos_of_mem hi.1, fun k hk hl => ?_⟩
      rw [show k = i from Int.le_antisymm (hi.2 k hk) (hl i hi.1)]
      exact R.int
  case sum =>
    obtain ⟨rfl, rfl⟩ := one hn
    have hz : bi1 .sum a = some z := hz
    cases a <;> simp only [bi1] at hz <;> try contradiction
    rename_i ds
    obtain ⟨p, vs, rfl, h, r, hz1⟩ := ha.sqL eK
    simp only [Option.map_eq_some_iff] at hz
    obtain ⟨l, e, rfl⟩ := hz
    have ev := r.ints e
    subst ev
    exact cr_sum (hc rfl) pins s σ H _ us Q I rx ⟨p, l, rfl, h, R.int⟩
  case all =>
    obtain ⟨rfl, rfl⟩ := one hn
    have hz : bi1 .all a = some z := hz
    cases a <;> simp only [bi1] at hz <;> try contradiction
    rename_i ds
    obtain ⟨p, vs, rfl, h, r, hz1⟩ := ha.sqL eK
    simp only [Option.map_eq_some_iff] at hz
    obtain ⟨l, e, rfl⟩ := hz
    have ev := r.bls e
    subst ev
    exact cr_all (hc rfl) pins s σ H _ us Q I rx ⟨p, l, rfl, h, R.bl⟩
  case any =>
    obtain ⟨rfl, rfl⟩ := one hn
    have hz : bi1 .any a = some z := hz
    cases a <;> simp only [bi1] at hz <;> try contradiction
    rename_i ds
    obtain ⟨p, vs, rfl, h, r, hz1⟩ := ha.sqL eK
    simp only [Option.map_eq_some_iff] at hz
    obtain ⟨l, e, rfl⟩ := hz
    have ev := r.bls e
    subst ev
    exact cr_any (hc rfl) pins s σ H _ us Q I rx ⟨p, l, rfl, h, R.bl⟩
end
end Mp

end
section
set_option Elab.async false
set_option linter.all false
set_option maxRecDepth 100000
set_option maxHeartbeats 4000000
/-! S9: what a def promises, where no guard stands (repr asks that). -/
namespace L2
open PySem PySem.Spec PyProof.Rows

structure RoomG (k : Nat) (A : Around) : Prop where
  r : Room k A
  g : A.guards = some []
theorem RoomG.mono {j k : Nat} {A : Around} (r : RoomG k A) (h : j ≤ k) : RoomG j A := ⟨r.r.mono h, r.g⟩
theorem RoomG.deeper {k : Nat} {A : Around} (r : RoomG (k + 1) A) (env : Env) : RoomG k (A.deeper env) := ⟨r.r.deeper env, r.g⟩
structure FnG (P : Program) (w : World) (K : PySem.W.Frag) (mg : Str → Option Value) (base : Heap) (CX : CXT) (k : Nat) (f : Addr) (fd : FuncData) (ps : List Str) (sp : Sp) : Prop where
  len : ∀ vs H Q E, sp vs H Q E → vs.length = ps.length
  run : ∀ (A : Around) (outer : List Env) (s : Shared) (H : Hp) (args : Args) (us : List Value) (vs : List V) (Q : VK) (E : XK), RoomG k A → Env0 P w K mg base A outer s H → BindsTo s fd args (ps.zip us) → Vals vs us → sp vs H Q E →
    codeAny (model P w) A (.call (.ref f) args) (CR CX outer P w H s Q E) s
theorem FnG.mono {P : Program} {w : World} {K : PySem.W.Frag} {mg : Str → Option Value} {base : Heap} {CX : CXT} {j k : Nat} {f : Addr} {fd : FuncData} {ps : List Str} {sp : Sp} (F : FnG P w K mg base CX j f fd ps sp) (h : j ≤ k) :
    FnG P w K mg base CX k f fd ps sp := ⟨F.len, fun A outer s H args us vs Q E hr => F.run A outer s H args us vs Q E (hr.mono h)⟩
section
variable {X : Cx} {CX : CXT} {k : Nat} {f C : Addr} {fd : FuncData} {ps : List Str} {sp : Sp} {dvs : List V} {ds : List Value} {E : XK} {x m : Str} {p pos apos : Pos} {e o : Expr} {es : List Expr} {ta : TE} {t : TA}
theorem run_fnG {pins : List (Addr × Obj)} {σ : St} {H : Hp} {s : Shared} {Q : VK} {us : List Value} {vs : List V} (F : FnG X.prog X.w X.K X.mg X.base CX k f fd ps sp) (hr : RoomG k X.A) (hb : Binds X.K fd ps ds) (hd : Vals dvs ds) (hx : Passes CX X E)
    (I : Inv X pins σ H s) (r : Vals vs us) (h : sp (vs ++ dvs) H Q E) : wpAny (model X.prog X.w) X.A (call (.ref f) us) (EP X pins σ Q) X.xe s := by
  have r2 : Vals (vs ++ dvs) (us ++ ds) := r.append hd
  have hl : (us ++ ds).length = ps.length := by rw [← r2.length]; exact F.len _ _ _ _ h
  refine wpAny_call (codeAny_mono (F.run X.A X.stack s H ⟨us, []⟩ (us ++ ds) (vs ++ dvs) Q E hr I.env0 (hb s us I.kIn hl) r2 h) fun r s' hq => ?_)
  cases r with
  | error e => exact hx pins σ H s e s' I hq
  | ok fl =>
    cases fl with
    | ret u => exact I.after hq
    | next => exact False.elim hq
    | brk => exact False.elim hq
    | cont => exact False.elim hq

theorem pe_callG (F : FnG X.prog X.w X.K X.mg X.base CX k f fd ps sp) (hr : RoomG k X.A) (hg : Gl X x) (hm : X.mg x = some (.ref f)) (hk : PySem.W.keepIn X.K (.ref f) = true) (hb : Binds X.K fd ps ds) (hd : Vals dvs ds) (hx : Passes CX X E)
    (ha : PA X (e :: es) t) (hdb : (x == ("__debug__" : Str)) = false := by decide) (he : starEach (e :: es) X.env = (false, eval e X.env) :: starEach es X.env := by rfl) (hpl : (backTo pos (starEach es X.env)).any (·.1) = false := by rfl) :
    PE X (.Call (.Name x p) (e :: es) [] pos) (tCall sp dvs E t) := by
  refine ⟨fun pins s σ H Q I h => ?_⟩
  refine wpAny_Call_Name_kw (ld_glob I hg hm ?_ hdb)
  refine PySem.W.callWith_K (h₀ := X.base) I.ok.mod.kin hk (thn (ha.run pos pins s σ H _ I h) fun us s1 ⟨vs, H1, I1, r, q⟩ => ⟨I1.kIn, ?_⟩) he hpl
  exact run_fnG F hr hb hd hx I1 r q
theorem pe_callG0 (F : FnG X.prog X.w X.K X.mg X.base CX k f fd ps sp) (hr : RoomG k X.A) (hg : Gl X x) (hm : X.mg x = some (.ref f)) (hk : PySem.W.keepIn X.K (.ref f) = true) (hb : Binds X.K fd ps ds) (hd : Vals dvs ds) (hx : Passes CX X E)
    (hdb : (x == ("__debug__" : Str)) = false := by decide) : PE X (.Call (.Name x p) [] [] pos) (tCall sp dvs E tNil) := by
  refine ⟨fun pins s σ H Q I h => ?_⟩
  refine wpAny_Call_Name_kw (ld_glob I hg hm ?_ hdb)
  exact PySem.W.callWith_K0 I.kIn hk (run_fnG (us := []) F hr hb hd hx I .nil h)

end
theorem fnG_of {CX : CXT} {P : Program} {w : World} {K : PySem.W.Frag} {mg : Str → Option Value} {base : Heap} {k : Nat} {f : Addr} {name qual : Str} {params : Arguments} {body : List Stmt} {scope : Scope} {dV kV doc pm cdv ct oc : Value} {an od : Option Addr}
    {osl : Array (Option Value)} {N ps : List Str} {sp : Sp} (lk : K.lookup f = some ⟨oc, od, .func (PySem.W.fnOf name qual params body scope dV kV doc pm an cdv ct), osl⟩) (hcd : PySem.W.codeIn K cdv qual = true) (S : FnScope N ps scope)
    (len : ∀ vs H Q E, sp vs H Q E → vs.length = ps.length)
    (hbody : ∀ (A : Around) (outer : List Env) (s : Shared) (H : Hp) (vs : List V) (Q : VK) (E : XK), RoomG k (A.deeper (envOfC qual scope s.heap.objs.size f cdv)) → sp vs H Q E →
      ∃ t, PSs (cxOf CX P w K mg base N qual scope f cdv A outer s H E) body t ∧ t { nx := fun _ H' => Q .non H', rt := Q } (start N vs) H) :
    FnG P w K mg base CX (k + 1) f (PySem.W.fnOf name qual params body scope dV kV doc pm an cdv ct) ps sp := by
  refine ⟨len, fun A outer s H args us vs Q E hr e0 hb r hsp => ?_⟩
  have hl := len _ _ _ _ hsp
  have KX : K.In s.heap := e0.mod.kin.keeps fun b o e => (e0.bs b o e).1
  have lim : s.heap.NoLimit := e0.mod.nolimit.keeps fun b o e => (e0.bs b o e).1
  have hkind : ∀ y ∈ ps.zip us, scope.names.lookup y.1 = some .local ∨ (scope.names.lookup y.1 = some .cell ∧ ((cellsFrom (s.heap.objs.size + 1) scope.names []).lookup y.1).isSome = true) := fun ⟨n, v⟩ hy => by
    rcases S.par n (List.of_mem_zip hy).1 with q | q
    · exact .inl q
    · exact .inr ⟨q, PySem.W.cellsFrom_some _ _ _ (.inl q)⟩
  refine codeAny_call_function hr.r.depth (KX _ _ lk) rfl S.co S.gen rfl (PySem.W.codeRec_of KX hcd) (hb _ _ _ _ ?_)
  refine wpAny_newFunctionEnv_cells S.kind hkind fun env he s1 x => ?_
  subst he
  refine ⟨lim.keeps x.toInCall.keep, codeAny_func ?_⟩
  obtain ⟨t, ht, hq⟩ := hbody A outer s H vs Q E (hr.deeper _) hsp
  have I : Inv (cxOf CX P w K mg base N qual scope f cdv A outer s H E) [] (start N vs) H s1 := inv_start S hr.r.hd e0 hl r x
  refine wpAny_mono (ht.run [] s1 (start N vs) H _ I hq) (fun fl s' hs => ?_) fun e s' hs => hs
  have fin : ∀ {σ' : St} {H' : Hp} {v : V} {u : Value}, Inv (cxOf CX P w K mg base N qual scope f cdv A outer s H E) [] σ' H' s' → RelV v u → Q v H' → CE outer P w H s Q u s' :=
    fun {σ' H' v u} J rv q => ⟨v, H', J.os, J.bare, J.base, J.hok, rv, q⟩
  cases fl with
  | ret u =>
    obtain ⟨v, σ', H', J, rv, q⟩ := hs
    exact fin J rv q
  | next =>
    obtain ⟨σ', H', J, q⟩ := hs
    exact fin (v := V.non) (u := Value.none) J rfl q
  | brk =>
    obtain ⟨_, _, _, q⟩ := hs
    exact False.elim q
  | cont =>
    obtain ⟨_, _, _, q⟩ := hs
    exact False.elim q
theorem law_callG {P : Program} {w : World} {K : PySem.W.Frag} {mg mb : Str → Option Value} {CX : CXT} {k : Nat} {fa a : Addr} {fd : FuncData} {x : Str} {sp : Sp} {s₁ : Shared} {vs : List Value} {ns : List Int}
    (KX : K.In s₁.heap) (hns : s₁.heap.Ns mainGlobals mg) (hb : s₁.heap.Ns builtinsNs mb) (hbb : ∀ x : Str, x ≠ "__name__" → mb x = bootBuiltins x) (hlim : s₁.heap.NoLimit) (hg : s₁.gens = #[])
    (ha : s₁.heap.get? a = some { cls := .type "list", data := .seq vs.toArray }) (hi : IntsAre vs ns) (hl : ns.length ≤ sizeLine) (hr : RoomG k callerA)
    (F : ∀ base : Heap, K.In base → base.Ns mainGlobals mg → FnG P w K mg base CX k fa fd [x] sp) (hbind : ∀ (s : Shared) (u : Value), BindsTo s fd ⟨[u], []⟩ [(x, u)])
    (hsp : ∀ H : Hp, Only H → SqL K H a (ns.map V.int) → sp [.ref a] H (fun v _ => v = .bl true) fun _ _ _ => False)
    (hCX : ∀ H e s', CX [] H s₁ (fun _ _ _ => False) e s' → False) :
    codeAny (model P w) callerA (.call (.ref fa) ⟨[.ref a], []⟩) (fun r s' => r = .ok (.ret (.bool true)) ∧ OldK s₁.heap s'.heap ∧ s'.os = s₁.os ∧ AllBare s'.gens) s₁ := by
  have rv := vals_ints hi
  have lenV := hi.length
  -- from an abstract heap in which nothing but the script may be tracked
  have core : ∀ H : Hp, Only H → SqL K H a (ns.map V.int) → HOk P w H s₁.heap → (∀ b, H b ≠ none → b = a) → (H a ≠ none → K.lookup a = none) →
      codeAny (model P w) callerA (.call (.ref fa) ⟨[.ref a], []⟩) (fun r s' => r = .ok (.ret (.bool true)) ∧ OldK s₁.heap s'.heap ∧ s'.os = s₁.os ∧ AllBare s'.gens) s₁ := by
    intro H hO hS hok hA hK
    have base_of : ∀ {b : Addr} {o : Obj}, s₁.heap.get? b = some o → H b = none → (hidT s₁.heap H).get? b = some o := fun e n => hidT_get e n
    have noA : ∀ {b : Addr} {o : Obj} {es : Array DictEntry} {ep : Nat}, s₁.heap.get? b = some o → o.data = .dict es ep → H b = none := fun {b o es ep} e d => by
      cases q : H b with
      | none => rfl
      | some u =>
        have e' : b = a := hA b (by rw [q]; simp)
        subst e'
        rw [ha] at e; cases e
        have d' : Data.seq vs.toArray _ = Data.dict es ep := d
        cases d'
    have nsK : ∀ {b : Addr} {m : Str → Option Value}, s₁.heap.Ns b m → (hidT s₁.heap H).Ns b m := fun {b m} ⟨o, es, ep, e, d, r⟩ => ⟨o, es, ep, base_of e (noA e d), d, r⟩
    have hKb : K.In (hidT s₁.heap H) := fun b o e => base_of (KX b o e) (by
      cases q : H b with
      | none => rfl
      | some u =>
        have e' : b = a := hA b (by rw [q]; simp)
        subst e'
        rw [hK (by rw [q]; simp)] at e; cases e)
    have hM : Mod K mg (hidT s₁.heap H) := ⟨hKb, nsK hns, ⟨mb, nsK hb, hbb⟩, let ⟨mc, h1, h2⟩ := hlim; ⟨mc, nsK h1, h2⟩⟩
    have e0 : Env0 P w K mg (hidT s₁.heap H) callerA [] s₁ H := ⟨rfl, hM, fun b o e => of_hidT e, Nat.le_of_eq (hidT_size _ _), trivial, fun b hb => absurd (show b ∈ ([] : List Addr) from hb) (by simp), hok, .of_eq hg⟩
    refine codeAny_mono ((F _ hKb (nsK hns)).run callerA [] s₁ H ⟨[.ref a], []⟩ [.ref a] [.ref a] _ _ hr e0 (hbind s₁ (.ref a)) (.cons rfl .nil) (hsp H hO hS)) fun r s' h => ?_
    cases r with
    | error e => exact (hCX H e s' h).elim
    | ok fl =>
      cases fl with
      | next => exact False.elim h
      | brk => exact False.elim h
      | cont => exact False.elim h
      | ret u =>
        obtain ⟨v, H', os, bare, un, hok', r', q⟩ := h
        have q' : v = .bl true := q
        subst q'
        obtain rfl : u = Value.bool true := r'
        refine ⟨rfl, OldK.of_keep fun b o e => ?_, os, bare⟩
        cases q : H b with
        | none => exact un.keep b o e q (by intro z; exact absurd (show b ∈ ([] : List Addr) from z) (by simp)) (by simp)
        | some u =>
          rcases hO b with z | ⟨ob, xs, z⟩
          · rw [q] at z; cases z
          · have z2 := un.frzs b ob _ z
            obtain ⟨e1, _⟩ := hok b _ z
            obtain ⟨e2, _⟩ := hok' b _ z2
            rw [e] at e1; cases e1
            exact e2
  cases hk : K.lookup a with
  | some o =>
    -- the script is one of the module's own objects
    have e := KX a o hk
    rw [ha] at e
    cases e
    refine core (fun _ => none) (fun _ => .inl rfl) (.inr ⟨_, vs.toArray, _, hk, rfl, rfl, rfl, by rw [List.size_toArray, lenV]; exact hl, by simpa using rv⟩) (fun b u z => by have z' : (none : Option HO) = some u := z; cases z') (fun b z => absurd rfl z) fun z => absurd rfl z
  | none =>
    refine core (fun b => if b = a then some (.frz { cls := .type "list", data := .seq vs.toArray } (.lst (ns.map V.int))) else none) (fun b => ?_) (.inl (.inr ⟨{ cls := .type "list", data := .seq vs.toArray }, if_pos rfl⟩)) (fun b u z => ?_) (fun b z => ?_) fun _ => hk
    · by_cases hb : b = a
      · exact .inr ⟨_, _, if_pos hb⟩
      · exact .inl (if_neg hb)
    · by_cases hb : b = a
      · have z' := (if_pos hb).symm.trans z
        cases z'
        subst hb
        exact ⟨ha, by rw [List.length_map]; exact hl, vs, _, rv, ha⟩
      · have z' := (if_neg hb).symm.trans z
        cases z'
    · by_cases hb : b = a
      · exact hb
      · exact absurd (if_neg hb) z
end L2

end
section
set_option Elab.async false
set_option linter.all false
set_option maxRecDepth 100000
set_option maxHeartbeats 4000000
/-! S10: the checker: the Mini text against the program's text. -/
namespace Mp
open PySem PySem.Spec PyProof.Rows L2

structure NmT where
  fns : List Str
  cls : List Str
  flds : List Str
  mths : List Str
  con : List Str
  ar : List Nat
structure CC where
  N : List Str
  sc : Scope
  nm : NmT
  cold : Bool
  fl : Bool
def dbg : Str := "__debug__"
def cdc : Str := "__classdict__"
def nameS : Str := "__name__"
def visB (C : CC) (i : Nat) (x : Str) : Bool := decide (C.N[i]? = some x) && (match C.sc.names.lookup x with | some .local => true | some .cell => true | some .free => true | _ => false) && !(x == dbg) && !(x == cdc)
def glB (C : CC) (x : Str) : Bool := decide (C.sc.names.lookup x = some .globalImplicit) && !(x == dbg) && !(x == nameS)
/-- an expression that needs no care where it stands -/
def okE : Expr → Bool
  | .Starred .. => false | .Set .. => false | .Slice .. => false | .GeneratorExp .. => false | .Lambda .. => false | .NamedExpr .. => false | _ => true
/-- an expression before a dot that is no name of a module .. -/
def okA : Expr → Bool
  | .Name .. => true | .Subscript .. => true | .Attribute .. => true | _ => false
def tyNm : Ty → Option Str
  | .int => some "int" | .bool => some "bool" | .str => some "str" | .list => some "list" | .tuple => some "tuple" | .dict => some "dict" | .verr => some "ValueError" | .lerr => some "LookupError" | .rerr => some "RuntimeError" | _ => none
def patSl : Pat → List Nat
  | .v i => [i]
  | .t ps => patSlL ps
where patSlL : List Pat → List Nat
  | [] => []
  | p :: ps => patSl p ++ patSlL ps
mutual
def mtP (C : CC) : Pat → Expr → Bool
  | .v i, e => match e with | .Name x _ => decide (C.N[i]? = some x) && (match C.sc.names.lookup x with | some .local => true | some .cell => C.fl | _ => false) | _ => false
  | .t ps, e => match e with | .Tuple es _ _ => mtPL C ps es | _ => false
def mtPL (C : CC) : List Pat → List Expr → Bool
  | [], es => match es with | [] => true | _ => false
  | p :: ps, es => match es with | e :: r => okE e && mtP C p e && mtPL C ps r | _ => false
end
/-- the block's context -/
def CC.blk (C : CC) (scope : Scope) : CC := { C with sc := relS scope C.sc, fl := false }
def mtTy (C : CC) (t : Ty) (e : Expr) : Bool := match e with
  | .Name x _ => glB C x && (match t with | .cls c => decide (C.nm.cls[c]? = some x) | t => decide (tyNm t = some x))
  | _ => false
def mtTys (C : CC) : List Ty → List Expr → Bool
  | [], es => match es with | [] => true | _ => false
  | t :: ts, es => match es with | e :: r => mtTy C t e && mtTys C ts r | _ => false
mutual
def mtE (C : CC) : ME → Expr → Bool
  | .non, e => match e with | .Constant .none _ _ => true | _ => false
  | .bl b, e => match e with | .Constant (.bool c) _ _ => b == c | _ => false
  | .int i, e => match e with | .Constant (.int j) _ _ => decide (i = j) | _ => false
  | .str s, e => match e with | .Constant (.str x) _ _ => decide (x = strV s) && decide (s.length ≤ szMax) && s.all (fun c => decide (c < 1114112)) | _ => false
  | .var i, e => match e with | .Name x _ => visB C i x | _ => false
  | .bin op a b, e => match e with | .BinOp x op' y _ => decide (op' = opK op) && mtE C a x && mtE C b y | _ => false
  | .neg a, e => match e with | .UnaryOp op x _ => decide (op = .USub) && mtE C a x | _ => false
  | .cmp op a b, e => match e with | .Compare x [op'] [y] _ => decide (op' = cpK op) && okE y && mtE C a x && mtE C b y | _ => false
  | .isN a, e => match e with | .Compare x [op] [.Constant .none _ _] _ => decide (op = .Is) && mtE C a x | _ => false
  | .notN a, e => match e with | .Compare x [op] [.Constant .none _ _] _ => decide (op = .IsNot) && mtE C a x | _ => false
  | .neR a b, e => match e with | .Compare (.Call (.Name x _) [y] [] _) [op] [.Call (.Name x2 _) [z] [] _] _ => decide (op = .NotEq) && decide (x = ("repr" : Str)) && decide (x2 = ("repr" : Str)) && glB C x && okE y && okE z && mtE C a y && mtE C b z | _ => false
  | .and es, e => match e with | .BoolOp op l _ => decide (op = .And) && !l.isEmpty && mtL C es l | _ => false
  | .or es, e => match e with | .BoolOp op l _ => decide (op = .Or) && !l.isEmpty && mtL C es l | _ => false
  | .not a, e => match e with | .UnaryOp op x _ => decide (op = .Not) && mtE C a x | _ => false
  | .ife c a b, e => match e with | .IfExp x y z _ => mtE C c x && mtE C a y && mtE C b z | _ => false
  | .tup es, e => match e with | .Tuple l _ _ => decide (es.length ≤ szMax) && mtL C es l | _ => false
  | .lst es, e => match e with | .List l _ => decide (es.length ≤ szMax) && mtL C es l | _ => false
  | .fld a k, e => match e with | .Attribute x y _ => decide (C.nm.flds[k]? = some y) && okA x && mtE C a x | _ => false
  | .sub a i, e => match e with | .Subscript x y _ => okE y && mtE C a x && mtE C i y | _ => false
  | .slU a hi, e => match e with | .Subscript x (.Slice none (some z) none _) _ => mtE C a x && mtE C hi z | _ => false
  | .slL a lo, e => match e with | .Subscript x (.Slice (some y) none none _) _ => mtE C a x && mtE C lo y | _ => false
  | .slB a lo hi, e => match e with | .Subscript x (.Slice (some y) (some z) none _) _ => mtE C a x && mtE C lo y && mtE C hi z | _ => false
  | .call f es, e => match e with | .Call (.Name x _) l [] _ => C.cold && decide (C.nm.fns[f]? = some x) && glB C x && !l.isEmpty && mtL C es l | _ => false
  | .bi b es, e => match e with | .Call (.Name x _) l [] _ => decide (x = ((biNm b).1 : Str)) && decide (biN b ≠ 0) && decide (l.length = biN b) && glB C x && (!biCalm b || C.cold) && mtL C es l | _ => false
  | .isi a ts, e => match e with
    | .Call (.Name x _) [y, z] [] _ => decide (x = ("isinstance" : Str)) && glB C x && okE y && mtE C a y && (match ts with
      | [t] => mtTy C t z
      | ts => match z with | .Tuple l _ _ => decide (2 ≤ ts.length) && decide (ts.length ≤ 64) && mtTys C ts l | _ => false)
    | _ => false
  | .lsI it, e => match e with | .Call (.Name x _) [y] [] _ => decide (x = ("list" : Str)) && glB C x && okE y && C.cold && mtI C it y | _ => false
  | .lc a p it, e => match e with | .ListComp x [⟨tg, iter, [], 0⟩] scope _ => C.cold && mtI C it iter && blkC C.N C.sc scope ((patSl p).map fun i => (C.N.getD i "", i)) && decide (patSl p).Nodup && mtP (C.blk scope) p tg && mtE (C.blk scope) a x && okE x | _ => false
  | .lcf a p it c, e => match e with | .ListComp x [⟨tg, iter, [y], 0⟩] scope _ => C.cold && mtI C it iter && blkC C.N C.sc scope ((patSl p).map fun i => (C.N.getD i "", i)) && decide (patSl p).Nodup && mtP (C.blk scope) p tg && mtE (C.blk scope) a x && okE x && mtE (C.blk scope) c y | _ => false
  | .cell a, e => mtE C a e
  | _, _ => false
def mtL (C : CC) : List ME → List Expr → Bool
  | [], es => match es with | [] => true | _ => false
  | m :: ms, es => match es with | e :: r => okE e && mtE C m e && mtL C ms r | _ => false
def mtI (C : CC) : MI → Expr → Bool
  | .ex a, e => okE e && mtE C a e
  | .rg1 a, e => match e with | .Call (.Name x _) [y] [] _ => decide (x = ("range" : Str)) && glB C x && okE y && mtE C a y | _ => false
  | .rg2 a b, e => match e with | .Call (.Name x _) [y, z] [] _ => decide (x = ("range" : Str)) && glB C x && okE y && okE z && mtE C a y && mtE C b z | _ => false
  | _, _ => false
end
theorem okE_mark {e : Expr} {op : CmpOp} (h : okE e = true) : behindInMarks op e = false := by cases e <;> simp [okE] at h <;> rfl
theorem okE_star {e : Expr} (h : okE e = true) (es : List Expr) (env : PySem.Env) : starEach (e :: es) env = (false, eval e env) :: starEach es env := by cases e <;> simp [okE] at h <;> rfl
theorem okE_ix {e : Expr} (h : okE e = true) : PlainIx e := by cases e <;> simp [okE] at h <;> intro o i <;> rfl
end Mp

end
section
set_option Elab.async false
set_option linter.all false
set_option maxRecDepth 100000
set_option maxHeartbeats 4000000
/-! S11: the context; expressions one by one. -/
namespace Mp
open PySem PySem.Spec PyProof.Rows L2

def bltN : List Str := ["len", "abs", "int", "tuple", "min", "max", "sum", "any", "all", "isinstance", "list", "range", "repr", "bool", "str", "dict", "sorted", "set", "enumerate", "zip", "ValueError", "LookupError", "RuntimeError"]
/-- what a call hands back -/
def OutRep (L : Lk) (m : List Addr) (F : Addr → Prop) (H : Hp) (H0 : Hp) : Val → V → Prop
  | .dat d, x => Rep L m F H d x
  | .new d, x => ∃ a, x = .ref a ∧ ORep L m F H a d ∧ ¬ F a ∧ a ∉ m ∧ H0 a = none
  | _, _ => False
def PostC (L : Lk) (m : List Addr) (F : Addr → Prop) (H : Hp) (r : ER Val) (Q : V → Hp → Prop) (E : XK) : Prop :=
  match r with
  | .ok v st => ∀ m' F' x H', Ext m F H m' F' H' → Wd L m' F' st H' → OutRep L m' F' H' H v x → Q x H'
  | .ex xc st => ∀ m' F' H' cls d, Ext m F H m' F' H' → Wd L m' F' st H' → XRep L m' F' H' xc.c xc.fs cls d → E cls d H'
  | .bad => False
/-- the promise of a def -/
def spM (L : Lk) (call : List D → Sto → ER Val) : Sp := fun vs H Q E => ∃ m F st ds, Wd L m F st H ∧ RepL L m F H ds vs ∧ PostC L m F H (call ds st) Q E
/-- a def may be called -/
structure FC (X : Cx) (L : Lk) (o : Orc) (f : Nat) (x : Str) : Prop where
  mg : X.mg x = some (.ref (L.fad f))
  kp : PySem.W.keepIn X.K (.ref (L.fad f)) = true
  fn : ∃ (k : Nat) (fd : FuncData) (ps : List Str), RoomG k X.A ∧ FnG X.prog X.w X.K X.mg X.base (L2N.CX X.prog X.w) k (L.fad f) fd ps (fun vs H Q E => vs.length = ps.length ∧ spM L (o.call f) vs H Q E) ∧ Binds X.K fd ps [] ∧ ∀ ds st, o.call f ds st ≠ .bad → ds.length = ps.length
/-- a class that isinstance is asked about, as a value -/
def tyVal (L : Lk) : Ty → Option Value
  | .int => some (.type "int") | .bool => some (.type "bool") | .str => some (.type "str") | .list => some (.type "list") | .tuple => some (.type "tuple") | .dict => some (.type "dict")
  | .verr => some (.type "ValueError") | .lerr => some (.type "LookupError") | .rerr => some (.type "RuntimeError") | .cls c => some (.ref (L.cad c))
/-- own exception classes: what is asked of each -/
structure XcOk (K : PySem.W.Frag) (L : Lk) (o : Orc) (n : Nat) (c : Nat) : Prop where
  ex : L2.ExcC K (L.cad c)
  xf : L2.XfC K (L.cad c)
  no : ∀ k ∈ o.flds c, PySem.W.findIn K (.ref (L.cad c)) (L.nm k) = some none
  ty : ∀ t v b, (∀ c', t = .cls c' → c' < n) → tyX (o.sup c) t = some b → tyVal L t = some v → PySem.W.kitOne K (.ref (L.cad c)) v = some b
structure Fx (C : CC) (L : Lk) (o : Orc) (B : Bs) (X : Cx) (W : WX) : Prop where
  K : L.K = X.K
  hu : X.A.units + 64 < cLine
  gd : X.A.guards = some []
  N : X.N = C.N
  nd : C.N.Nodup
  sc : X.env.scope = C.sc
  cold : C.cold = true → X.calm = true
  fl : C.fl = true → ∀ x, X.fn x = true
  tk : L2N.Takes X W
  blt : ∀ x, x ∈ bltN → X.mg x = none
  fn : C.cold = true → ∀ f x, C.nm.fns[f]? = some x → FC X L o f x
  cx : C.cold = true → B.x = none
  xs : ∀ q, B.x = some q → ∃ (X0 : Cx) (oe : Obj) (pn : List (Addr × Obj)), X = X0.suite q.a ((q.a, oe) :: pn) ∧ Zc q.cls q.d oe ∧ ∃ vs, oe.data = .fields vs
  cl : ∀ c x, C.nm.cls[c]? = some x → X.mg x = some (.ref (L.cad c))
  xk : ∀ c, (o.sup c).contains c = true → XcOk X.K L o C.nm.cls.length c
  xf : ∀ c k, k ∈ o.flds c → (o.sup c).contains c = true
  fi : ∀ j k, L.nm j = L.nm k → j = k
  nm : ∀ k y, C.nm.flds[k]? = some y → L.nm k = y
theorem Fx.blk {C : CC} {L : Lk} {o : Orc} {B : Bs} {X : Cx} {W : WX} (f : Fx C L o B X W) (hc : C.cold = true) (s : Shared) (H : Hp) (scope : Scope) (cl : List (Str × Addr)) (a : Addr) (fp : List Addr) : Fx (C.blk scope) L o B (X.blk s H scope (compEnvC scope cl a X.env) fp) (fun _ _ _ _ => False) := by
  refine ⟨f.K, f.hu, f.gd, f.N, f.nd, ?_, f.cold, (fun z => absurd (show false = true from z) Bool.false_ne_true), ?_, f.blt, fun c i x e => ?_, f.cx, fun q e => ?_, f.cl, f.xk, f.xf, f.fi, f.nm⟩
  · show relabel scope X.env = relS scope C.sc
    rw [← f.sc]
    rfl
  · rintro u s' ⟨_, _, _, _, _, _, _, _, _, _, _, _, _, _, _, _, w⟩
    exact w
  · obtain ⟨h1, h2, h3⟩ := f.fn c i x e
    exact ⟨h1, h2, h3⟩
  · rw [f.cx hc] at e; cases e
section
variable {C : CC} {L : Lk} {B : Bs} {W : WX} {o : Orc} {X : Cx} {m m0 m1 m2 m' : List Addr} {F F0 F1 F2 F' : Addr → Prop} {H H0 H1 H2 H' : Hp} {E : Env} {st st' : Sto} {σ : L2.St} {Q : V → Hp → Prop} {me a b c : ME}
theorem Fx.gl (f : Fx C L o B X W) {x : Str} (h : glB C x = true) : Gl X x ∧ (x == ("__debug__" : Str)) = false ∧ x ≠ ("__name__" : Str) := by
  unfold glB at h
  simp only [Bool.and_eq_true, decide_eq_true_eq, Bool.not_eq_true'] at h
  obtain ⟨⟨h1, h2⟩, h3⟩ := h
  refine ⟨?_, h2, fun e => ?_⟩
  · show X.env.scope.names.lookup x = _
    rw [f.sc]
    exact h1
  · rw [e] at h3
    simp [nameS] at h3
theorem Fx.vis (f : Fx C L o B X W) {i : Nat} {x : Str} (h : visB C i x = true) : X.N[i]? = some x ∧ Vis X.env.scope x ∧ (x == ("__debug__" : Str)) = false ∧ (x == ("__classdict__" : Str)) = false := by
  unfold visB at h
  simp only [Bool.and_eq_true, decide_eq_true_eq, Bool.not_eq_true'] at h
  obtain ⟨⟨⟨h1, h2⟩, h3⟩, h4⟩ := h
  refine ⟨by rw [f.N]; exact h1, ?_, h3, h4⟩
  rw [f.sc]
  unfold Vis
  split at h2
  · exact .inl ‹_›
  · exact .inr (.inl ‹_›)
  · exact .inr (.inr ‹_›)
  · cases h2

theorem VRep.lk {v : Val} {x : V} (S : Sim L B m F E st σ H) (h : VRep L m F H E σ H0 v x) (n : v.d ≠ .bad) : Look L m F H v.d x := (h.look S).resolve_right n
theorem Wd.deref (w : Wd L m F st H) {d e : D} {x : V} (h : Look L m F H d x) (q : drf st d = some e) : Look L m F H e x := by
  cases d <;> simp only [drf] at q <;> first | (cases q; exact h) | cases q | skip
  · simp only [Look, Rep] at h
    obtain ⟨a, rfl, hm⟩ := h
    obtain ⟨a', e1, r⟩ := w.ce _ _ q
    rw [hm] at e1; cases e1
    exact r.look
theorem VRep.drf {v : Val} {x : V} {d : D} (S : Sim L B m F E st σ H) (h : VRep L m F H E σ H0 v x) (q : drf st v.d = some d) : Look L m F H d x := by
  rcases h.look S with r | r
  · exact S.wd.deref r q
  · rw [r] at q; cases q
theorem drf_bad : drf st .bad = none := rfl
/-- two operands -/
theorem tE2 {f : Val → Val → Sto → ER Val} {R : R2} (e : ∀ E st, evE o me E st = (evE o a E st).bind fun x st1 => (evE o b E st1).bind fun y st2 => f x y st2)
    (hR : ∀ {m0 F0 H0 m F H E st σ Q v w x y Hx Hy}, Ext m0 F0 H0 m F H → Sim L B m F E st σ H → VRep L m F H E σ Hx v x → VRep L m F H E σ Hy w y → Post L B W m0 F0 H0 E σ (f v w st) Q → R x y H Q)
    (h : tE L B W o me σ H Q) : tOp R (tE L B W o a) (tE L B W o b) σ H Q := by
  obtain ⟨m, F, E, st, S, h⟩ := h
  rw [e] at h
  refine tE.mono (fun x H1 ⟨m1, F1, st1, v, X1, X01, S1, r1, h1⟩ => ?_) (tE_bind Ext.refl S h)
  refine tE.mono (fun y H2 ⟨m2, F2, st2, w, X2, X02, S2, r2, h2⟩ => ?_) (tE_bind X01 S1 h1)
  exact hR X02 S2 (r1.ext X2) r2 h2
theorem tE1 {f : Val → Sto → ER Val} {R : V → Hp → VK → Prop} (e : ∀ E st, evE o me E st = (evE o a E st).bind fun x st1 => f x st1)
    (hR : ∀ {m0 F0 H0 m F H E st σ Q v x Hx}, Ext m0 F0 H0 m F H → Sim L B m F E st σ H → VRep L m F H E σ Hx v x → Post L B W m0 F0 H0 E σ (f v st) Q → R x H Q)
    (h : tE L B W o me σ H Q) : tUn R (tE L B W o a) σ H Q := by
  obtain ⟨m, F, E, st, S, h⟩ := h
  rw [e] at h
  refine tE.mono (fun x H1 ⟨m1, F1, st1, v, X1, X01, S1, r1, h1⟩ => ?_) (tE_bind Ext.refl S h)
  exact hR X01 S1 r1 h1
theorem binF_lb {op : Op} {x y : D} {z : Val} (h : binF op x y = some z) : x ≠ .bad ∧ y ≠ .bad := by
  constructor
  · rintro rfl; cases op <;> simp [binF] at h
  · rintro rfl; cases op <;> cases x <;> simp [binF] at h
theorem cmpF_lb {op : Cp} {x y : D} {z : Bool} (h : cmpF op x y = some z) : x ≠ .bad ∧ y ≠ .bad := by
  constructor
  · rintro rfl; cases op <;> cases y <;> simp [cmpF, ordF, numD, eqT, pd, memD, isKey] at h
  · rintro rfl; cases op <;> cases x <;> simp [cmpF, ordF, numD, eqT, pd] at h
theorem pe_binM (f : Fx C L o B X W) {op : Op} {x y : Expr} {p : Pos} (ha : PE X x (tE L B W o a)) (hb : PE X y (tE L B W o b)) : PE X (.BinOp x (opK op) y p) (tE L B W o (.bin op a b)) := by
  refine (pe_op (op_binM op) ha hb).imp fun σ H Q h => tE2 (f := fun x y st2 => ER.opt (binF op x.d y.d) st2) (fun E st => by rw [evE]) ?_ h
  intro m0 F0 H0 m F H E st σ Q v w x y Hx Hy X0 S r1 r2 h
  obtain ⟨z, ez, R⟩ := Post.resO X0 S h
  obtain ⟨n1, n2⟩ := binF_lb ez
  exact ⟨L, m, F, v.d, w.d, z, f.K, r1.lk S n1, r2.lk S n2, ez, R⟩
theorem Post.bl {t : Bool} (X0 : Ext m0 F0 H0 m F H) (S : Sim L B m F E st σ H) (h : Post L B W m0 F0 H0 E σ (.ok (.dat (.bl t)) st) Q) : Q (.bl t) H := Post.dat X0 S h (by simp [Rep])
theorem Post.blO {t : Option Bool} (X0 : Ext m0 F0 H0 m F H) (S : Sim L B m F E st σ H) (h : Post L B W m0 F0 H0 E σ (ER.opt (t.map fun t => .dat (.bl t)) st) Q) : ∃ b, t = some b ∧ Q (.bl b) H := by
  cases t with
  | none => exact h.elim
  | some b => exact ⟨b, rfl, Post.bl X0 S h⟩
theorem eqC_b {x y : D} : eqC o x y st = ER.opt ((eqT x y).map fun t => .dat (.bl t)) st := rfl
theorem cmp_R (f : Fx C L o B X W) (op : Cp) {m0 F0 H0 m F H E st σ Q v w x y Hx Hy} (X0 : Ext m0 F0 H0 m F H) (S : Sim L B m F E st σ H) (r1 : VRep L m F H E σ Hx v x) (r2 : VRep L m F H E σ Hy w y)
    (h : Post L B W m0 F0 H0 E σ (match op with
      | .eq => eqC o v.d w.d st
      | .ne => (eqC o v.d w.d st).bind fun t st3 => notV t st3
      | _ => ER.opt ((drf st w.d).bind fun z => (cmpF op v.d z).map fun t => .dat (.bl t)) st) Q) : rCmp X.K op x y H Q := by
  have gen : ∀ (d : D), Look L m F H d y → (∃ t, cmpF op v.d d = some t ∧ Q (.bl t) H) → rCmp X.K op x y H Q := fun d hl ⟨t, ht, q⟩ => by
    obtain ⟨n1, n2⟩ := cmpF_lb ht
    exact ⟨L, m, F, v.d, d, t, f.K, r1.lk S n1, hl, ht, q⟩
  have rest : Post L B W m0 F0 H0 E σ (ER.opt ((drf st w.d).bind fun z => (cmpF op v.d z).map fun t => .dat (.bl t)) st) Q → rCmp X.K op x y H Q := fun h => by
    cases e : Mp.drf st w.d with
    | none => rw [e] at h; exact h.elim
    | some d =>
      rw [e] at h
      exact gen d (r2.drf S e) (Post.blO X0 S h)
  cases op with
  | eq =>
    obtain ⟨t, ht, q⟩ := Post.blO (t := eqT v.d w.d) X0 S h
    have ht' : cmpF .eq v.d w.d = some t := ht
    exact gen _ (r2.lk S (cmpF_lb ht').2) ⟨t, ht', q⟩
  | ne =>
    have h : Post L B W m0 F0 H0 E σ ((ER.opt ((eqT v.d w.d).map fun t => .dat (.bl t)) st).bind fun t st3 => notV t st3) Q := h
    cases e : eqT v.d w.d with
    | none => rw [e] at h; exact h.elim
    | some t =>
      rw [e] at h
      have ht' : cmpF .ne v.d w.d = some (!t) := by simp [cmpF, e]
      exact gen _ (r2.lk S (cmpF_lb ht').2) ⟨!t, ht', Post.bl X0 S h⟩
  | _ => exact rest h
theorem evE_cmp {op : Cp} {E : Env} {st : Sto} : evE o (.cmp op a b) E st = (evE o a E st).bind fun x st1 => (evE o b E st1).bind fun y st2 => match op with
      | .eq => eqC o x.d y.d st2
      | .ne => (eqC o x.d y.d st2).bind fun t st3 => notV t st3
      | _ => ER.opt ((drf st2 y.d).bind fun z => (cmpF op x.d z).map fun t => .dat (.bl t)) st2 := by rw [evE]; all_goals (cases op <;> rfl)
theorem pe_cmpM (f : Fx C L o B X W) {op : Cp} {x y : Expr} {p : Pos} (ha : PE X x (tE L B W o a)) (hb : PE X y (tE L B W o b)) (hy : okE y = true) : PE X (.Compare x [cpK op] [y] p) (tE L B W o (.cmp op a b)) :=
  (pe_cmpR (op_cmpM f.hu op) ha hb (okE_mark hy)).imp fun σ H Q h => tE2 (fun E st => evE_cmp) (fun X0 S r1 r2 h => cmp_R f op X0 S r1 r2 h) h
theorem pt_cmpM (f : Fx C L o B X W) {op : Cp} {x y : Expr} {p : Pos} (ha : PE X x (tE L B W o a)) (hb : PE X y (tE L B W o b)) (hy : okE y = true) : PT X (.Compare x [cpK op] [y] p) (tTest (tE L B W o (.cmp op a b))) :=
  (pt_cmpR (op_cmpM f.hu op) ha hb (okE_mark hy)).imp fun σ H Q h => tE2 (fun E st => evE_cmp) (fun X0 S r1 r2 h => cmp_R f op X0 S r1 r2 h) h
theorem isNon_lk {d : D} {x : V} {t : Bool} (h : d.isNon = some t) (r : Look L m F H d x) : decide (x = .non) = t := by
  cases d <;> simp [D.isNon] at h <;> subst h <;> simp [Look, Rep] at r
  · simp [r]
  · simp [r]
  · simp [r]
  · simp [r.1]
  · obtain ⟨a, rfl, _⟩ := r; simp
  · obtain ⟨a, rfl, _⟩ := r; simp
  · obtain ⟨a, rfl, _⟩ := r; simp
  · obtain ⟨a, rfl, _⟩ := r; simp
  · obtain ⟨a, rfl, _⟩ := r; simp
  · obtain ⟨a, rfl, _⟩ := r; simp
  · simp [r]
  · obtain ⟨a, rfl, _⟩ := r; simp
theorem isN_lb {d : D} {t : Bool} (h : d.isNon = some t) : d ≠ .bad := by rintro rfl; cases h
theorem isN_R {m0 F0 H0 m F H E st σ Q v x Hx} (X0 : Ext m0 F0 H0 m F H) (S : Sim L B m F E st σ H) (r1 : VRep L m F H E σ Hx v x) (h : Post L B W m0 F0 H0 E σ (ER.opt (v.d.isNon.map fun t => .dat (.bl t)) st) Q) : Q (.bl (decide (x = .non))) H := by
  obtain ⟨t, ht, q⟩ := Post.blO X0 S h
  rw [isNon_lk ht (r1.lk S (isN_lb ht))]
  exact q
theorem notN_R {m0 F0 H0 m F H E st σ Q v x Hx} (X0 : Ext m0 F0 H0 m F H) (S : Sim L B m F E st σ H) (r1 : VRep L m F H E σ Hx v x) (h : Post L B W m0 F0 H0 E σ (ER.opt (v.d.isNon.map fun t => .dat (.bl (!t))) st) Q) : Q (.bl (!decide (x = .non))) H := by
  cases e : v.d.isNon with
  | none => rw [e] at h; exact h.elim
  | some t =>
    rw [e] at h
    rw [isNon_lk e (r1.lk S (isN_lb e))]
    exact Post.bl X0 S h
theorem evE_isN {E : Env} {st : Sto} : evE o (.isN a) E st = (evE o a E st).bind fun x st1 => ER.opt (x.d.isNon.map fun t => .dat (.bl t)) st1 := by rw [evE]
theorem evE_notN {E : Env} {st : Sto} : evE o (.notN a) E st = (evE o a E st).bind fun x st1 => ER.opt (x.d.isNon.map fun t => .dat (.bl (!t))) st1 := by rw [evE]
theorem pe_isNM {x : Expr} {p j q} (ha : PE X x (tE L B W o a)) : PE X (.Compare x [.Is] [.Constant .none j q] p) (tE L B W o (.isN a)) :=
  (pe_cmp (pc_isN ha) rfl).imp fun σ H Q h => tE1 (R := fun x H Q => Q (.bl (decide (x = .non))) H) (fun E st => evE_isN) (fun X0 S r1 h => isN_R X0 S r1 h) h
theorem pe_notNM {x : Expr} {p j q} (ha : PE X x (tE L B W o a)) : PE X (.Compare x [.IsNot] [.Constant .none j q] p) (tE L B W o (.notN a)) :=
  (pe_cmp (pc_notN ha) rfl).imp fun σ H Q h => tE1 (R := fun x H Q => Q (.bl (!decide (x = .non))) H) (fun E st => evE_notN) (fun X0 S r1 h => notN_R X0 S r1 h) h
theorem pt_isNM {x : Expr} {p j q} (ha : PE X x (tE L B W o a)) : PT X (.Compare x [.Is] [.Constant .none j q] p) (tTest (tE L B W o (.isN a))) :=
  (pt_cmp (pc_isN ha) rfl).imp fun σ H Q h => tE1 (R := fun x H Q => Q (.bl (decide (x = .non))) H) (fun E st => evE_isN) (fun X0 S r1 h => isN_R X0 S r1 h) h
theorem pt_notNM {x : Expr} {p j q} (ha : PE X x (tE L B W o a)) : PT X (.Compare x [.IsNot] [.Constant .none j q] p) (tTest (tE L B W o (.notN a))) :=
  (pt_cmp (pc_notN ha) rfl).imp fun σ H Q h => tE1 (R := fun x H Q => Q (.bl (!decide (x = .non))) H) (fun E st => evE_notN) (fun X0 S r1 h => notN_R X0 S r1 h) h
/-! leaves -/
theorem pe_intM {i : Int} {j p} : PE X (.Constant (.int i) j p) (tE L B W o (.int i)) := pe_int.imp fun σ H Q ⟨m, F, E, st, S, h⟩ => by
  rw [evE] at h; exact Post.dat Ext.refl S h (by simp [Rep])
theorem pe_blM {i : Bool} {j p} : PE X (.Constant (.bool i) j p) (tE L B W o (.bl i)) := pe_bl.imp fun σ H Q ⟨m, F, E, st, S, h⟩ => by
  rw [evE] at h; exact Post.dat Ext.refl S h (by simp [Rep])
theorem pe_nonM {j p} : PE X (.Constant .none j p) (tE L B W o .non) := pe_non.imp fun σ H Q ⟨m, F, E, st, S, h⟩ => by
  rw [evE] at h; exact Post.dat Ext.refl S h (by simp [Rep])
theorem pe_strM {s : List Nat} {j p} (h1 : s.length ≤ szMax) (h2 : ∀ c ∈ s, c < 1114112) : PE X (.Constant (.str (strV s)) j p) (tE L B W o (.str s)) := pe_str.imp fun σ H Q ⟨m, F, E, st, S, h⟩ => by
  rw [evE] at h; exact Post.dat Ext.refl S h (by simp only [Rep]; exact ⟨trivial, h1, h2⟩)
theorem pe_varM (f : Fx C L o B X W) {i : Nat} {x : Str} {p} (h : visB C i x = true) : PE X (.Name x p) (tE L B W o (.var i)) := by
  obtain ⟨h1, h2, h3, h4⟩ := f.vis h
  refine (pe_var h1 h2 h3 h4).imp fun σ H Q ⟨m, F, E, st, S, h⟩ => ?_
  rw [evE] at h
  split at h
  · rename_i d e
    obtain ⟨x, e1, r⟩ := S.sl i _ e
    exact ⟨x, e1, h m F x H Ext.refl S r⟩
  · rename_i d e
    obtain ⟨x, e1, r⟩ := S.sl i _ e
    exact ⟨x, e1, h m F x H Ext.refl S ⟨i, e, e1⟩⟩
  · rename_i c fs e
    obtain ⟨x, e1, r⟩ := S.sl i _ e
    exact ⟨x, e1, h m F x H Ext.refl S ⟨i, e, e1⟩⟩
  · exact h.elim
theorem pe_negM {x : Expr} {p} (ha : PE X x (tE L B W o a)) : PE X (.UnaryOp .USub x p) (tE L B W o (.neg a)) :=
  (pe_un un_neg ha).imp fun σ H Q h => tE1 (f := fun x st1 => match x.d with | .int i => .ok (.dat (.int (-i))) st1 | _ => .bad) (fun E st => by rw [evE]; try rfl) (fun {m0 F0 H0 m F H E st σ Q v x Hx} X0 S r1 h => by
    cases e : v.d with
    | int i =>
      rw [e] at h
      have r := r1.lk S (by rw [e]; exact fun z => nomatch z)
      rw [e] at r
      exact ⟨i, r.int, Post.dat X0 S h (by simp [Rep])⟩
    | _ => rw [e] at h; exact h.elim) h
/-! by a truth -/
theorem Post.ifV {v : Val} {r1 r2 : ER Val} (h : Post L B W m0 F0 H0 E σ (Mp.ifV v r1 r2 .bad) Q) : ∃ t, v = .dat (.bl t) ∧ Post L B W m0 F0 H0 E σ (if t then r1 else r2) Q := by
  unfold Mp.ifV at h
  split at h
  · exact ⟨_, rfl, h⟩
  · exact h.elim
theorem VRep.bl {t : Bool} {x : V} (h : VRep L m F H E σ H0 (.dat (.bl t)) x) : x = .bl t := h
theorem pe_notM {x : Expr} {p} (ha : PE X x (tE L B W o a)) : PE X (.UnaryOp .Not x p) (tE L B W o (.not a)) :=
  (pe_not ha).imp fun σ H Q h => tE1 (f := fun x st1 => notV x st1) (R := fun x H Q => ∃ c, x = .bl c ∧ Q (.bl (!c)) H) (fun E st => by rw [evE]) (fun {m0 F0 H0 m F H E st σ Q v x Hx} X0 S r1 h => by
    unfold notV at h
    split at h
    · exact ⟨_, r1.bl, Post.bl X0 S h⟩
    · exact h.elim) h
theorem pt_notM {x : Expr} {p} (ha : PT X x (tTest (tE L B W o a))) : PT X (.UnaryOp .Not x p) (tTest (tE L B W o (.not a))) :=
  (pt_not ha).imp fun σ H Q h => by
    have z := tE1 (a := a) (f := fun x st1 => notV x st1) (R := fun x H Q => ∃ k, x = .bl k ∧ Q (.bl (!k)) H) (fun E st => by rw [evE]) (fun {m0 F0 H0 m F H E st σ Q v x Hx} X0 S r1 h => by
      unfold notV at h
      split at h
      · exact ⟨_, r1.bl, Post.bl X0 S h⟩
      · exact h.elim) h
    refine tE.mono (fun x H1 ⟨k, e, k', e', q⟩ => ⟨k, e, ?_⟩) z
    cases e'
    exact q
end
end Mp

end
section
set_option Elab.async false
set_option linter.all false
set_option maxRecDepth 100000
set_option maxHeartbeats 4000000
/-! S12: expressions: displays, items, calls. -/
namespace Mp
open PySem PySem.Spec PyProof.Rows L2
section
variable {C : CC} {L : Lk} {B : Bs} {W : WX} {o : Orc} {X : Cx} {m m0 m1 m2 m' : List Addr} {F F0 F1 F2 F' : Addr → Prop} {H H0 H1 H2 H' : Hp} {E : Env} {st st' : Sto} {σ : L2.St} {Q : V → Hp → Prop} {me a b c : ME} {es : List ME}
theorem VsL.len : ∀ {vs : List Val} {xs : List V}, VsL L m F H E σ H0 vs xs → vs.length = xs.length
  | [], [], _ => rfl
  | _ :: _, _ :: _, h => by simp [VsL.len h.2]
  | [], _ :: _, h => h.elim
  | _ :: _, [], h => h.elim
theorem evL_len : ∀ {es : List ME} {E : Env} {st st1 : Sto} {vs : List Val}, evL o es E st = .ok vs st1 → vs.length = es.length
  | [], E, st, st1, vs, h => by rw [evL] at h; cases h; rfl
  | e :: es, E, st, st1, vs, h => by
    rw [evL] at h
    cases e1 : evE o e E st with
    | ok v st2 =>
      rw [e1] at h
      have h : ((evL o es E st2).bind fun vs st2 => .ok (v :: vs) st2) = .ok vs st1 := h
      cases e2 : evL o es E st2 with
      | ok ws st3 =>
        rw [e2] at h
        cases h
        rw [List.length_cons, evL_len e2, List.length_cons]
      | ex x st3 => rw [e2] at h; cases h
      | bad => rw [e2] at h; cases h
    | ex x st2 => rw [e1] at h; cases h
    | bad => rw [e1] at h; cases h
theorem kpL_len : ∀ {vs : List Val} {ds : List D}, kpL vs = some ds → vs.length = ds.length
  | [], ds, h => by cases h; rfl
  | v :: vs, ds, h => by
    unfold kpL at h
    cases e1 : v.kp with
    | none => rw [e1] at h; cases h
    | some d =>
      cases e2 : kpL vs with
      | none => rw [e1, e2] at h; cases h
      | some es => rw [e1, e2] at h; cases h; simp [kpL_len e2]
/-- a row of values that are kept -/
theorem Post.kpl {xs : List V} {vs : List Val} {f : List D → Sto → ER Val} (X01 : Ext m F H m1 F1 H1) (S : Sim L B m F E st σ H) (S1 : Sim L B m1 F1 E st' σ H1) (r : VsRep L m1 F1 H1 E σ H vs xs)
    (h : Post L B W m F H E σ (match kpL vs with | some ds => f ds st' | none => .bad) Q) :
    ∃ ds F', kpL vs = some ds ∧ Ext m F H m1 F' H1 ∧ Sim L B m1 F' E st' σ H1 ∧ RepL L m1 F' H1 ds xs ∧ Post L B W m F H E σ (f ds st') Q := by
  cases e : kpL vs with
  | none => rw [e] at h; exact h.elim
  | some ds =>
    rw [e] at h
    obtain ⟨F', X', S', r', _⟩ := VsRep.kept X01 S.beg S1 r.al r.nd e
    exact ⟨ds, F', rfl, X', S', r', h⟩
theorem pe_tupM {l : List Expr} {k p} (hl : es.length ≤ szMax) (ha : PA X l (tL L B W o es)) : PE X (.Tuple l k p) (tE L B W o (.tup es)) := by
  refine (pe_tup ha).imp fun σ H Q ⟨m, F, E, st, S, h⟩ => ?_
  rw [evE] at h
  refine tL.mono (fun xs H1 ⟨m1, F1, st1, vs, X1, X01, S1, r1, e1, h1⟩ => ?_) (tL_bind Ext.refl S h)
  have h1 : Post L B W m F H E σ (match kpL vs with | some ds => .ok (.dat (.tup ds)) st1 | none => .bad) Q := by cases e : kpL vs <;> (rw [e] at h1; exact h1)
  obtain ⟨ds, F', ek, X', S', r', h2⟩ := Post.kpl (f := fun ds st => .ok (.dat (.tup ds)) st) X01 S S1 r1 h1
  have hz : ds.length ≤ szMax := by rw [← kpL_len ek, evL_len e1]; exact hl
  exact ⟨by rw [← r'.len]; exact Nat.le_trans hz szLine, fun p hp => (Post.res X' S' h2).n p _ hp ⟨xs, rfl, r', hz⟩⟩
theorem pe_lstM {l : List Expr} {p} (hl : es.length ≤ szMax) (ha : PA X l (tL L B W o es)) : PE X (.List l p) (tE L B W o (.lst es)) := by
  refine (pe_lst ha).imp fun σ H Q ⟨m, F, E, st, S, h⟩ => ?_
  rw [evE] at h
  refine tL.mono (fun xs H1 ⟨m1, F1, st1, vs, X1, X01, S1, r1, e1, h1⟩ => ?_) (tL_bind Ext.refl S h)
  have h1 : Post L B W m F H E σ (match kpL vs with | some ds => .ok (.new (.lst ds)) st1 | none => .bad) Q := by cases e : kpL vs <;> (rw [e] at h1; exact h1)
  obtain ⟨ds, F', ek, X', S', r', h2⟩ := Post.kpl (f := fun ds st => .ok (.new (.lst ds)) st) X01 S S1 r1 h1
  have hz : ds.length ≤ szMax := by rw [← kpL_len ek, evL_len e1]; exact hl
  exact ⟨by rw [← r'.len]; exact Nat.le_trans hz szLine, fun p hp => (Post.res X' S' h2).n p _ hp ⟨xs, rfl, r', hz⟩⟩
theorem getF_lb {x y d : D} (h : getF x y = some d) : y ≠ .bad := by
  rintro rfl; cases x <;> simp [getF, isKey] at h
theorem pe_subM (f : Fx C L o B X W) {x y : Expr} {p} (ha : PE X x (tE L B W o a)) (hb : PE X y (tE L B W o b)) (hy : okE y = true) : PE X (.Subscript x y p) (tE L B W o (.sub a b)) := by
  refine (pe_ix (ix_any f.hu) ha hb (okE_ix hy)).imp fun σ H Q h => tE2 (f := fun x y st2 => ER.opt (((drf st2 x.d).bind fun d => getF d y.d).map .dat) st2) (fun E st => by rw [evE]) ?_ h
  intro m0 F0 H0 m F H E st σ Q v w x y Hx Hy X0 S r1 r2 h
  cases e : drf st v.d with
  | none => rw [e] at h; exact h.elim
  | some d =>
    rw [e] at h
    cases e2 : getF d w.d with
    | none => simp only [Option.bind_some, e2] at h; exact h.elim
    | some z =>
      simp only [Option.bind_some, e2, Option.map_some] at h
      exact ⟨L, m, F, d, w.d, z, f.K, r1.drf S e, r2.lk S (getF_lb e2), e2, fun v r => Post.dat X0 S h r⟩
theorem VRep.int {v : Val} {x : V} {i : Int} (S : Sim L B m F E st σ H) (r : VRep L m F H E σ H0 v x) (e : v.d = .int i) : x = .int i := by
  have r := r.lk S (by rw [e]; exact fun z => nomatch z)
  rw [e] at r
  exact r.int
theorem slc_R (f : Fx C L o B X W) {v : Val} {x : V} {lo hi : Option Int} {Hx : Hp} (X0 : Ext m0 F0 H0 m F H) (S : Sim L B m F E st σ H) (r1 : VRep L m F H E σ Hx v x) (h : Post L B W m0 F0 H0 E σ (ER.opt ((drf st v.d).bind fun d => slcF d lo hi) st) Q) : rSlc X.K x lo hi H Q := by
  obtain ⟨z, ez, R⟩ := Post.resO X0 S h
  cases e : drf st v.d with
  | none => rw [e] at ez; cases ez
  | some d =>
    rw [e] at ez
    exact ⟨L, m, F, d, z, f.K, r1.drf S e, ez, R⟩
theorem pe_slUM (f : Fx C L o B X W) {x y : Expr} {p p2} (ha : PE X x (tE L B W o a)) (hb : PE X y (tE L B W o b)) : PE X (.Subscript x (.Slice none (some y) none p2) p) (tE L B W o (.slU a b)) := by
  refine (pe_slice sl_any ha po_none (po_some hb)).imp fun σ H Q h => ?_
  have z := tE2 (a := a) (b := b) (R := fun x y H Q => ∃ i, y = .int i ∧ rSlc X.K x none (some i) H Q) (f := fun x y st2 => match y.d with | .int j => ER.opt ((drf st2 x.d).bind fun d => slcF d none (some j)) st2 | _ => .bad) (fun E st => by rw [evE]; try rfl) (fun {m0 F0 H0 m F H E st σ Q v w x y Hx Hy} X0 S r1 r2 h => by
    cases e : w.d with
    | int i => rw [e] at h; exact ⟨i, r2.int S e, slc_R f X0 S r1 h⟩
    | _ => rw [e] at h; exact h.elim) h
  exact z
theorem pe_slLM (f : Fx C L o B X W) {x y : Expr} {p p2} (ha : PE X x (tE L B W o a)) (hb : PE X y (tE L B W o b)) : PE X (.Subscript x (.Slice (some y) none none p2) p) (tE L B W o (.slL a b)) := by
  refine (pe_slice sl_any ha (po_some hb) po_none).imp fun σ H Q h => ?_
  have z := tE2 (a := a) (b := b) (R := fun x y H Q => ∃ i, y = .int i ∧ rSlc X.K x (some i) none H Q) (f := fun x y st2 => match y.d with | .int j => ER.opt ((drf st2 x.d).bind fun d => slcF d (some j) none) st2 | _ => .bad) (fun E st => by rw [evE]; try rfl) (fun {m0 F0 H0 m F H E st σ Q v w x y Hx Hy} X0 S r1 r2 h => by
    cases e : w.d with
    | int i => rw [e] at h; exact ⟨i, r2.int S e, slc_R f X0 S r1 h⟩
    | _ => rw [e] at h; exact h.elim) h
  exact z
theorem pe_slBM (f : Fx C L o B X W) {x y w : Expr} {p p2} (ha : PE X x (tE L B W o a)) (hb : PE X y (tE L B W o b)) (hc : PE X w (tE L B W o c)) : PE X (.Subscript x (.Slice (some y) (some w) none p2) p) (tE L B W o (.slB a b c)) := by
  refine (pe_slice sl_any ha (po_some hb) (po_some hc)).imp fun σ H Q ⟨m, F, E, st, S, h⟩ => ?_
  rw [evE] at h
  refine tE.mono (fun x H1 ⟨m1, F1, st1, v, X1, X01, S1, r1, h1⟩ => ?_) (tE_bind Ext.refl S h)
  refine tE.mono (fun y H2 ⟨m2, F2, st2, w, X2, X02, S2, r2, h2⟩ => ?_) (tE_bind X01 S1 h1)
  cases e : w.d with
  | int i =>
    rw [e] at h2
    refine ⟨i, r2.int S2 e, ?_⟩
    refine tE.mono (fun z H3 ⟨m3, F3, st3, u, X3, X03, S3, r3, h4⟩ => ?_) (tE_bind X02 S2 h2)
    cases e2 : u.d with
    | int j =>
      rw [e2] at h4
      exact ⟨j, r3.int S3 e2, slc_R f X03 S3 ((r1.ext X2).ext X3) h4⟩
    | _ => rw [e2] at h4; exact h4.elim
  | _ => rw [e] at h2; exact h2.elim
theorem pe_oneM {op x p} (ha : PE X x (tE L B W o a)) : PE X (.BoolOp op [x] p) (tE L B W o a) := pe_one ha
def tAndM (L : Lk) (B : Bs) (W : WX) (o : Orc) (es : List ME) : TE := fun σ H Q => ∃ m F E st, Sim L B m F E st σ H ∧ Post L B W m F H E σ (evAnd o es E st) Q
def tOrM (L : Lk) (B : Bs) (W : WX) (o : Orc) (es : List ME) : TE := fun σ H Q => ∃ m F E st, Sim L B m F E st σ H ∧ Post L B W m F H E σ (evOr o es E st) Q
theorem tAnd1 (h : tAndM L B W o [a] σ H Q) : tE L B W o a σ H Q := by
  obtain ⟨m, F, E, st, S, h⟩ := h; rw [evAnd] at h; exact ⟨m, F, E, st, S, h⟩
theorem tOr1 (h : tOrM L B W o [a] σ H Q) : tE L B W o a σ H Q := by
  obtain ⟨m, F, E, st, S, h⟩ := h; rw [evOr] at h; exact ⟨m, F, E, st, S, h⟩
theorem tAnd2 (h : tAndM L B W o (a :: b :: es) σ H Q) : tE L B W o a σ H fun x H1 => ∃ c, x = .bl c ∧ if c = true then tAndM L B W o (b :: es) σ H1 Q else Q (.bl false) H1 := by
  obtain ⟨m, F, E, st, S, h⟩ := h
  rw [evAnd] at h
  refine tE.mono (fun x H1 ⟨m1, F1, st1, v, X1, X01, S1, r1, h1⟩ => ?_) (tE_bind Ext.refl S h)
  obtain ⟨t, rfl, h2⟩ := Post.ifV h1
  refine ⟨t, r1.bl, ?_⟩
  cases t with
  | true => exact ⟨m1, F1, E, st1, S1, Post.at X01 h2⟩
  | false => exact Post.bl X01 S1 h2
theorem tOr2 (h : tOrM L B W o (a :: b :: es) σ H Q) : tE L B W o a σ H fun x H1 => ∃ c, x = .bl c ∧ if c = true then Q (.bl true) H1 else tOrM L B W o (b :: es) σ H1 Q := by
  obtain ⟨m, F, E, st, S, h⟩ := h
  rw [evOr] at h
  refine tE.mono (fun x H1 ⟨m1, F1, st1, v, X1, X01, S1, r1, h1⟩ => ?_) (tE_bind Ext.refl S h)
  obtain ⟨t, rfl, h2⟩ := Post.ifV h1
  refine ⟨t, r1.bl, ?_⟩
  cases t with
  | false => exact ⟨m1, F1, E, st1, S1, Post.at X01 h2⟩
  | true => exact Post.bl X01 S1 h2
theorem pe_ifeM {x y w : Expr} {p} (hc : PT X x (tTest (tE L B W o c))) (ha : PE X y (tE L B W o a)) (hb : PE X w (tE L B W o b)) : PE X (.IfExp x y w p) (tE L B W o (.ife c a b)) := by
  refine (pe_ifExp hc ha hb).imp fun σ H Q ⟨m, F, E, st, S, h⟩ => ?_
  rw [evE] at h
  refine tE.mono (fun x H1 ⟨m1, F1, st1, v, X1, X01, S1, r1, h1⟩ => ?_) (tE_bind Ext.refl S h)
  obtain ⟨t, rfl, h2⟩ := Post.ifV h1
  refine ⟨t, r1.bl, ?_⟩
  cases t with
  | true => exact ⟨m1, F1, E, st1, S1, Post.at X01 h2⟩
  | false => exact ⟨m1, F1, E, st1, S1, Post.at X01 h2⟩
/-! calls of defs -/
theorem Sim.call (S : Sim L B m F E st σ H) (X1 : Ext m F H m' F' H') (w : Wd L m' F' st' H') : Sim L B m' F' E st' σ H' := by
  have M := X1.mono
  refine ⟨w, S.ex.trans X1, fun i v e => ?_, S.ln, S.ij⟩
  obtain ⟨x, e1, r⟩ := S.sl i v e
  refine ⟨x, e1, ?_⟩
  cases v with
  | dat d => exact Rep.mono M _ _ r
  | new d =>
    obtain ⟨a, rfl, r, nf, nm, n0⟩ := r
    obtain ⟨k, nf', nm'⟩ := X1.own r.there nm nf
    exact ⟨a, rfl, r.mono M k, nf', nm', n0⟩
  | bor d => exact r
  | xv c fs => obtain ⟨q, e, e2, e3, r⟩ := r; exact ⟨q, e, e2, e3, r.mono M⟩
theorem Post.call {r : ER Val} (X1 : Ext m0 F0 H0 m F H) (S : Sim L B m F E st σ H) (h : Post L B W m0 F0 H0 E σ r Q) : PostC L m F H r Q (fun cls d H' => W cls d σ H') := by
  cases r with
  | ok v st' =>
    intro m' F' x H' X2 w r
    refine h m' F' x H' (X1.trans X2) (S.call X2 w) ?_
    cases v with
    | dat d => exact r
    | new d => obtain ⟨a, e, r, nf, nm, n0⟩ := r; exact ⟨a, e, r, nf, nm, X1.tr a n0⟩
    | bor d => exact r.elim
    | xv c fs => exact r.elim
  | ex xc st' => exact fun m' F' H' cls d X2 w r => h m' F' H' cls d (X1.trans X2) (S.call X2 w) r
  | bad => exact h
end
end Mp

end
section
set_option Elab.async false
set_option linter.all false
set_option maxRecDepth 100000
set_option maxHeartbeats 4000000
/-! S13: expressions: calls, isinstance, fields, cells. -/
namespace L2
open PySem PySem.Spec PyProof.Rows
section
variable {X : Cx} {k : Nat} {f : Addr} {fd : FuncData} {ps : List Str} {sp : Sp} {W : WX} {x : Str} {p pos : Pos} {e : Expr} {es : List Expr} {t : TA}
theorem run_fnGS {pins : List (Addr × Obj)} {σ : St} {H : Hp} {s : Shared} {Q : VK} {us : List Value} {vs : List V} (F : FnG X.prog X.w X.K X.mg X.base (L2N.CX X.prog X.w) k f fd ps sp) (hr : RoomG k X.A) (hb : Binds X.K fd ps []) (tk : L2N.Takes X W)
    (I : Inv X pins σ H s) (r : Vals vs us) (h : sp vs H Q (fun cls d H' => W cls d σ H')) : wpAny (model X.prog X.w) X.A (call (.ref f) us) (EP X pins σ Q) X.xe s := by
  have hl : us.length = ps.length := by rw [← r.length]; exact F.len _ _ _ _ h
  have hb' := hb s us I.kIn (by rw [List.append_nil]; exact hl)
  rw [List.append_nil] at hb'
  refine wpAny_call (codeAny_mono (F.run X.A X.stack s H ⟨us, []⟩ us vs Q _ hr I.env0 hb' r h) fun r s' hq => ?_)
  cases r with
  | error e => exact tk e s' (L2N.XE.of_call I (fun _ _ _ h => h) hq)
  | ok fl =>
    cases fl with
    | ret u => exact I.after hq
    | next => exact False.elim hq
    | brk => exact False.elim hq
    | cont => exact False.elim hq
theorem pe_callGS (F : FnG X.prog X.w X.K X.mg X.base (L2N.CX X.prog X.w) k f fd ps sp) (hr : RoomG k X.A) (hg : Gl X x) (hm : X.mg x = some (.ref f)) (hk : PySem.W.keepIn X.K (.ref f) = true) (hb : Binds X.K fd ps []) (tk : L2N.Takes X W)
    (ha : PA X (e :: es) t) (hdb : (x == ("__debug__" : Str)) = false) (he : starEach (e :: es) X.env = (false, eval e X.env) :: starEach es X.env) (hpl : (backTo pos (starEach es X.env)).any (·.1) = false) :
    PE X (.Call (.Name x p) (e :: es) [] pos) (fun σ H Q => t σ H fun vs H1 => sp vs H1 Q (fun cls d H' => W cls d σ H')) := by
  refine ⟨fun pins s σ H Q I h => ?_⟩
  refine wpAny_Call_Name_kw (ld_glob I hg hm ?_ hdb)
  refine PySem.W.callWith_K (h₀ := X.base) I.ok.mod.kin hk (thn (ha.run pos pins s σ H _ I h) fun us s1 ⟨vs, H1, I1, r, q⟩ => ⟨I1.kIn, ?_⟩) he hpl
  exact run_fnGS F hr hb tk I1 r q
end
end L2
namespace Mp
open PySem PySem.Spec PyProof.Rows L2
section
variable {C : CC} {L : Lk} {B : Bs} {W : WX} {o : Orc} {X : Cx} {m m0 m1 m2 m' : List Addr} {F F0 F1 F2 F' : Addr → Prop} {H H0 H1 H2 H' : Hp} {E : Env} {st st' : Sto} {σ : L2.St} {Q : V → Hp → Prop} {me a b c : ME} {es : List ME}
theorem allOk_any {es : List Expr} {env : PySem.Env} {pos : Pos} (h : es.all okE = true) : (backTo pos (starEach es env)).any (·.1) = false := by
  induction es with
  | nil => rfl
  | cons e es ih =>
    rw [List.all_cons, Bool.and_eq_true] at h
    rw [okE_star h.1]
    exact ih h.2
theorem pe_callM (f : Fx C L o B X W) {g : Nat} {x : Str} {l : List Expr} {p p2} (hc : C.cold = true) (hf : C.nm.fns[g]? = some x) (hx : glB C x = true) (hl : l.all okE = true) (hne : l.isEmpty = false) (ha : PA X l (tL L B W o es)) : PE X (.Call (.Name x p) l [] p2) (tE L B W o (.call g es)) := by
  obtain ⟨g1, g2, k, fd, ps, hr, F, hb, hn⟩ := f.fn hc g x hf
  obtain ⟨h1, h2, h3⟩ := f.gl hx
  cases l with
  | nil => cases hne
  | cons e l =>
    rw [List.all_cons, Bool.and_eq_true] at hl
    refine (pe_callGS F hr h1 g1 g2 hb f.tk ha h2 (okE_star hl.1 _ _) (allOk_any hl.2)).imp fun σ H Q ⟨m, F, E, st, S, h⟩ => ?_
    rw [evE] at h
    refine tL.mono (fun xs H1 ⟨m1, F1, st1, vs, X1, X01, S1, r1, e1, h1⟩ => ?_) (tL_bind Ext.refl S h)
    obtain ⟨ds, F', ek, X', S', r', h2⟩ := Post.kpl (f := fun ds st => o.call g ds st) X01 S S1 r1 (by cases e : kpL vs <;> (rw [e] at h1; exact h1))
    refine ⟨?_, m1, F', st1, ds, S'.wd, r', Post.call X' S' h2⟩
    rw [← r'.len]
    exact hn ds st1 fun z => by rw [z] at h2; exact h2
/-- the first looked at, the rest kept -/
theorem Post.biv {xs : List V} {vs : List Val} {f : List D → Sto → ER Val} (X01 : Ext m F H m1 F1 H1) (S : Sim L B m F E st σ H) (S1 : Sim L B m1 F1 E st' σ H1) (r : VsRep L m1 F1 H1 E σ H vs xs)
    (h : Post L B W m F H E σ (match biV st' vs with | some ds => f ds st' | none => .bad) Q) :
    ∃ d ds x xr F', xs = x :: xr ∧ biV st' vs = some (d :: ds) ∧ Ext m F H m1 F' H1 ∧ Sim L B m1 F' E st' σ H1 ∧ Look L m1 F' H1 d x ∧ RepL L m1 F' H1 ds xr ∧ Post L B W m F H E σ (f (d :: ds) st') Q := by
  cases vs with
  | nil => exact h.elim
  | cons v vs =>
    cases xs with
    | nil => exact r.al.elim
    | cons x xr =>
      cases e1 : drf st' v.d with
      | none => simp only [biV, e1] at h; exact h.elim
      | some d =>
        cases e2 : kpL vs with
        | none => simp only [biV, e1, e2] at h; exact h.elim
        | some ds =>
          have eb : biV st' (v :: vs) = some (d :: ds) := by simp only [biV, e1, e2]
          rw [eb] at h
          have nd := r.nd
          simp only [news] at nd
          rw [List.nodup_append] at nd
          obtain ⟨n1, n2, n3⟩ := nd
          obtain ⟨F', X', S', r', mF, hF⟩ := VsRep.kept X01 S.beg S1 r.al.2 n2 e2
          have M1 : Mono m1 F1 H1 m1 F' H1 := ⟨fun _ _ z => z, mF, fun _ _ => Stay.refl⟩
          have v1 : VsL L m1 F1 H1 E σ H [v] [x] := ⟨r.al.1, trivial⟩
          have v2 := VsL.keepF M1 (vs := [v]) (xs := [x]) (fun a fa => (hF a fa).imp id fun hz z => by
            simp only [news, List.append_nil] at z
            exact n3 _ z _ hz rfl) v1
          exact ⟨d, ds, x, xr, F', rfl, eb, X', S', v2.1.drf S' e1, r', h⟩
theorem bnm_mem {b : BI} (h : biN b ≠ 0) : ((biNm b).1 : Str) ∈ bltN := by
  cases b <;> first | exact absurd rfl h | decide +kernel
theorem bnm_boot {b : BI} (h : biN b ≠ 0) : bootBuiltins ((biNm b).1 : Str) = some (biV' b) := by
  cases b <;> first | exact absurd rfl h | (first | rfl | kernel_rfl | with_unfolding_all rfl)
theorem pe_biM (f : Fx C L o B X W) {g : BI} {x : Str} {l : List Expr} {p p2} (hb : biN g ≠ 0) (hx : x = ((biNm g).1 : Str)) (hlen : l.length = biN g) (hes : es.length = biN g) (hg : glB C x = true) (hc : biCalm g = true → C.cold = true) (hl : l.all okE = true) (ha : PA X l (tL L B W o es)) :
    PE X (.Call (.Name x p) l [] p2) (tE L B W o (.bi g es)) := by
  obtain ⟨h1, h2, h3⟩ := f.gl hg
  have cr := call_biM (X := X) g (biN g) hb rfl (fun z => f.cold (hc z))
  have hm : X.mg x = none := by rw [hx]; exact f.blt _ (bnm_mem hb)
  have hv : bootBuiltins x = some (biV' g) := by rw [hx]; exact bnm_boot hb
  have fin : ∀ {σ H Q}, tE L B W o (.bi g es) σ H Q → tCB (fun xs H Q => xs.length = biN g ∧ rBi X.K g xs H Q) (tL L B W o es) σ H Q := fun {σ H Q} ⟨m, F, E, st, S, h⟩ => by
    rw [evE] at h
    refine tL.mono (fun xs H1 ⟨m1, F1, st1, vs, X1, X01, S1, r1, e1, h1⟩ => ⟨?_, ?_⟩) (tL_bind Ext.refl S h)
    · rw [← VsL.len r1.al, evL_len e1, hes]
    · obtain ⟨d, ds, x, xr, F', rfl, eb, X', S', hlk, r', h2⟩ := Post.biv (f := fun ds st => ER.opt (biF g ds) st) X01 S S1 r1 (by
        cases e : biV st1 vs with
        | none => rw [e] at h1; exact h1
        | some z => rw [e] at h1; exact h1)
      obtain ⟨z, ez, R⟩ := Post.resO X' S' h2
      exact ⟨L, m1, F', d, ds, x, xr, z, rfl, f.K, hlk, r', ez, R⟩
  cases l with
  | nil => rw [← hlen] at hb; exact absurd rfl hb
  | cons e l =>
    rw [List.all_cons, Bool.and_eq_true] at hl
    unfold biV' at cr hv
    by_cases ht : (biNm g).2 = true
    · rw [if_pos ht] at cr hv
      exact (pe_callTy cr h1 hm hv ha h3 h2 (okE_star hl.1 _ _) (allOk_any hl.2)).imp fun σ H Q h => fin h
    · rw [if_neg ht] at cr hv
      exact (pe_callB cr h1 hm hv ha h3 h2 (okE_star hl.1 _ _) (allOk_any hl.2)).imp fun σ H Q h => fin h
/-! isinstance -/
def tyD : D → String
  | .non => "NoneType" | .bl _ => "bool" | .int _ => "int" | .str _ => "str" | .tup _ => "tuple" | .lst _ => "list" | .dct _ => "dict" | _ => ""
theorem tyx_of {sup : Nat → List Nat} {t : Ty} {d : D} {b : Bool} {x : V} (eK : L.K = X.K) (h : tyF sup t d = some b) (r : Look L m F H d x) : TyX X.K H x (.type (tyD d)) := by
  cases d with
  | non => cases (show x = .non from r); exact .base .non
  | bl z => cases (show x = .bl z from r); exact .base (.bl z)
  | int z => cases r.int; exact .base (.int z)
  | str z =>
    simp only [Look, Rep] at r
    obtain ⟨rfl, _⟩ := r
    exact .base (.str _)
  | tup xs =>
    simp only [Look, Rep] at r
    obtain ⟨a, vs, rfl, q, _⟩ := r
    rcases q with ⟨_, q | ⟨ob, q⟩⟩ | ⟨ob, its, n, q, c, _⟩
    · exact .base (.tup q)
    · exact .fTuple q
    · rw [eK] at q; exact .kTuple q c
  | lst xs => obtain ⟨a, vs, rfl, q, _⟩ := r; exact .base (.lst q)
  | dct xs =>
    obtain ⟨a, vs, rfl, q, _⟩ := r
    rcases q with q | ⟨ob, q⟩
    · exact .base (.dK q)
    · exact .fDict q
  | _ => cases t <;> simp [tyF] at h
theorem kit_ofD {sup : Nat → List Nat} {t : Ty} {d : D} {b : Bool} {u : Value} (h : tyF sup t d = some b) (hu : tyVal L t = some u) : PySem.W.kitOne X.K (.type (tyD d)) u = some b := by
  cases d <;> cases t <;> simp [tyF] at h <;> subst h <;> simp [tyVal] at hu <;> subst hu <;> exact kit_ty (by simp only [tyD]; decide +kernel)
theorem kits_ofD {sup : Nat → List Nat} {d : D} : ∀ {ts : List Ty} {b : Bool} {us : List Value}, tysF sup ts d = some b → ts.map (tyVal L) = us.map some → PySem.W.kitAny X.K (.type (tyD d)) us = some b
  | [], b, us, h, hu => by
    cases us with
    | nil => simp [tysF] at h; subst h; rfl
    | cons => simp at hu
  | t :: ts, b, us, h, hu => by
    cases us with
    | nil => simp at hu
    | cons u us =>
      simp only [List.map_cons, List.cons.injEq] at hu
      unfold tysF at h
      split at h
      · rename_i e
        cases h
        exact kitAny_cons (kit_ofD e hu.1) (fun z => nomatch z) (fun _ => rfl)
      · rename_i e
        exact kitAny_cons (kit_ofD e hu.1) (fun _ => kits_ofD h hu.2) (fun z => nomatch z)
      · cases h
theorem tys_tyx {sup : Nat → List Nat} {ts : List Ty} {d : D} {b : Bool} {x : V} (eK : L.K = X.K) (h : tysF sup ts d = some b) (hne : ts ≠ []) (r : Look L m F H d x) : TyX X.K H x (.type (tyD d)) := by
  cases ts with
  | nil => exact absurd rfl hne
  | cons t ts =>
    unfold tysF at h
    split at h
    · exact tyx_of eK ‹_› r
    · exact tyx_of eK ‹_› r
    · cases h
/-- a class as a value -/
def tyV (L : Lk) : Ty → V
  | .int => .ty "int" | .bool => .ty "bool" | .str => .ty "str" | .list => .ty "list" | .tuple => .ty "tuple" | .dict => .ty "dict"
  | .verr => .ty "ValueError" | .lerr => .ty "LookupError" | .rerr => .ty "RuntimeError" | .cls c => .ref (L.cad c)
def tyU (L : Lk) : Ty → Value
  | .int => .type "int" | .bool => .type "bool" | .str => .type "str" | .list => .type "list" | .tuple => .type "tuple" | .dict => .type "dict"
  | .verr => .type "ValueError" | .lerr => .type "LookupError" | .rerr => .type "RuntimeError" | .cls c => .ref (L.cad c)
theorem tyU_val (t : Ty) : tyVal L t = some (tyU L t) := by cases t <;> rfl
theorem tyV_cls (t : Ty) : ClsV (tyV L t) (tyU L t) := by cases t <;> first | exact .ty _ | exact .own _
theorem tyV_rel (t : Ty) : RelV (tyV L t) (tyU L t) := by cases t <;> rfl
theorem tyV_inj (t : Ty) {u : Value} (h : RelV (tyV L t) u) : u = tyU L t := by cases t <;> exact h
theorem pe_tyM (f : Fx C L o B X W) {t : Ty} {e : Expr} (h : mtTy C t e = true) : PE X e (tC (tyV L t)) ∧ okE e = true := by
  unfold mtTy at h
  split at h
  · rename_i x p
    rw [Bool.and_eq_true] at h
    obtain ⟨h1, h2, h3⟩ := f.gl h.1
    refine ⟨?_, rfl⟩
    have hn := h.2
    cases t with
    | cls c =>
      have hn : C.nm.cls[c]? = some x := of_decide_eq_true hn
      exact pe_glob h1 (f.cl c x hn) (tyV_rel _) h2
    | _ =>
      have hn := of_decide_eq_true hn
      simp only [tyNm, Option.some.injEq] at hn
      subst hn
      exact pe_bltn h1 (f.blt _ (by decide +kernel)) (by first | rfl | kernel_rfl | with_unfolding_all rfl) (tyV_rel _) h3 h2
  · cases h
theorem pa_tysM (f : Fx C L o B X W) : ∀ {ts : List Ty} {l : List Expr}, mtTys C ts l = true → PA X l (fun σ H Q => Q (ts.map (tyV L)) H) ∧ ts.length = l.length
  | [], [], _ => ⟨pa_nil.imp fun _ _ _ h => h, rfl⟩
  | t :: ts, e :: l, h => by
    simp only [mtTys, Bool.and_eq_true] at h
    obtain ⟨h1, h2⟩ := pe_tyM f h.1
    obtain ⟨h3, h4⟩ := pa_tysM f h.2
    exact ⟨(pa_cons h1 h3 (okE_star h2 _ _)).imp fun _ _ _ h => h, by simp [h4]⟩
  | [], _ :: _, h => by simp [mtTys] at h
  | _ :: _, [], h => by simp [mtTys] at h
theorem paired_tys : ∀ (ts : List Ty), Paired ClsV (ts.map (tyV L)) (ts.map (tyU L))
  | [] => .nil
  | t :: ts => .cons (tyV_cls t) (paired_tys ts)
/-- isinstance of the exception that the suite holds -/
def rIsX (K : PySem.W.Frag) (L : Lk) (o : Orc) (B : Bs) : List V → Hp → VK → Prop := fun xs H Q => ∃ (q : Xi) (m : List Addr) (F : Addr → Prop) (n c : Nat) (fs : List (Nat × D)) (t : Ty) (b : Bool), B.x = some q ∧ XRep L m F H c fs q.cls q.d ∧ xs = [.ref q.a, tyV L t] ∧ tyX (o.sup c) t = some b ∧ (∀ c', t = .cls c' → c' < n) ∧ XcOk K L o n c ∧ Q (.bl b) H
theorem call_isXM (f : Fx C L o B X W) : CallR X (.builtin "isinstance") (rIsX X.K L o B) := by
  intro pins s σ H xs us Q I r h
  obtain ⟨q, m, F, n, c, fs, t, b, eq, ⟨ec, hx⟩, rfl, ht, hn, T, hQ⟩ := h
  obtain ⟨X0, oe, pn, rfl, hz, vs, hv⟩ := f.xs q eq
  obtain ⟨u1, u2, rfl, r1, r2⟩ := vals2 r
  cases (show u1 = Value.ref q.a from r1)
  cases tyV_inj t r2
  obtain ⟨hget, _⟩ := I.pin (q.a, oe) (List.mem_append.mpr (.inl List.mem_cons_self))
  have e := T.ty t _ b hn ht (tyU_val t)
  have J : ∃ od, PySem.W.InstAt s.heap q.a oe (L.cad c) od := by
    cases ed : q.d with
    | none => exact ⟨none, hget, by rw [hz.1, ec], by unfold PySem.W.notCls; rw [hv] <;> rfl, by rw [hz.2, ed]; trivial⟩
    | some dd =>
      rw [ed] at hx
      obtain ⟨fd, fv, e1, _⟩ := hx
      obtain ⟨mA, hns, hr⟩ := (show ObjOk _ _ H s.heap dd (.xd fv) from I.hok dd _ e1)
      obtain ⟨od, ho, hl⟩ := lookIn_ns hns
      exact ⟨some od, hget, by rw [hz.1, ec], by unfold PySem.W.notCls; rw [hv] <;> rfl, by rw [hz.2, ed]; exact ho⟩
  obtain ⟨od, J⟩ := J
  have E := T.ex
  have hcl : (PySem.W.clsIn X0.K (L.cad c)).isSome = true := by obtain ⟨cd, hc, _⟩ := PySem.W.any_some E.hd; rw [hc]; rfl
  exact PySem.W.kia_one (PySem.W.kitx_exc hcl E.hg E.hk E.hs E.ha E.hn E.ht E.hm) I.kIn J e (fun z => nomatch z) fun tk => ⟨.bl b, H, I.kept (t' := tk) fun _ _ z => z, rfl, hQ⟩
/-- what kind of class a caught exception has -/
theorem SlR.xc (f : Fx C L o B X W) {i c : Nat} {fs : List (Nat × D)} {x : V} (S : Sim L B m F E st σ H) (e : E[i]? = some (some (.xv c fs))) (e2 : σ[i]? = some (some x)) : ∃ q, B.x = some q ∧ x = .ref q.a ∧ XRep L m F H c fs q.cls q.d := by
  obtain ⟨y, e3, q, h1, h2, h3, h4⟩ := S.sl i _ e
  rw [e2] at e3; cases e3
  exact ⟨q, h1, h3, h4⟩
theorem isi_R (f : Fx C L o B X W) {t : Ty} (hn : ∀ c', t = .cls c' → c' < C.nm.cls.length) {v : Val} {x : V} {Hx : Hp} (X0 : Ext m0 F0 H0 m F H) (S : Sim L B m F E st σ H) (r : VRep L m F H E σ Hx v x) (h : Post L B W m0 F0 H0 E σ (ER.opt ((isiV o.sup [t] st v).map fun t => .dat (.bl t)) st) Q) :
    rIsi X.K [x, tyV L t] H Q ∨ rIsX X.K L o B [x, tyV L t] H Q := by
  obtain ⟨b, hb, q⟩ := Post.blO X0 S h
  have gen : ∀ d, drf st v.d = some d → tysF o.sup [t] d = some b → rIsi X.K [x, tyV L t] H Q := fun d e1 e2 => by
    have r1 := r.drf S e1
    have e3 : tyF o.sup t d = some b := by
      unfold tysF at e2
      split at e2
      · cases e2; assumption
      · unfold tysF at e2; cases e2; assumption
      · cases e2
    exact ⟨x, tyV L t, _, _, b, rfl, tyV_cls t, tyx_of f.K e3 r1, kit_ofD e3 (tyU_val t), q⟩
  cases v with
  | xv c fs =>
    obtain ⟨i, e1, e2⟩ := r
    obtain ⟨w, h1, h2, h3⟩ := SlR.xc f S e1 e2
    subst h2
    simp only [isiV] at hb
    split at hb
    · rename_i hc
      exact .inr ⟨w, m, F, _, c, fs, t, b, h1, h3, rfl, hb, hn, f.xk c hc, q⟩
    · cases hb
  | dat d =>
    cases e : drf st d with
    | none => simp only [isiV, Val.d, e] at hb; cases hb
    | some d' => exact .inl (gen d' e (by simpa only [isiV, Val.d, e, Option.bind_some] using hb))
  | new d =>
    cases e : drf st d with
    | none => simp only [isiV, Val.d, e] at hb; cases hb
    | some d' => exact .inl (gen d' e (by simpa only [isiV, Val.d, e, Option.bind_some] using hb))
  | bor d =>
    cases e : drf st d with
    | none => simp only [isiV, Val.d, e] at hb; cases hb
    | some d' => exact .inl (gen d' e (by simpa only [isiV, Val.d, e, Option.bind_some] using hb))
theorem tyM_lt {t : Ty} {z : Expr} (h : mtTy C t z = true) : ∀ c', t = .cls c' → c' < C.nm.cls.length := fun c' e => by
  subst e
  unfold mtTy at h
  split at h
  · rw [Bool.and_eq_true] at h
    have h2 : C.nm.cls[c']? = some _ := of_decide_eq_true h.2
    exact (List.getElem?_eq_some_iff.mp h2).1
  · cases h
theorem isiNm : ("isinstance" : Str) ∈ bltN := by decide +kernel
theorem isiBt : bootBuiltins ("isinstance" : Str) = some (.builtin "isinstance") := by first | rfl | kernel_rfl | with_unfolding_all rfl
theorem CallR.or {g : Value} {r r' : List V → Hp → VK → Prop} (h : CallR X g r) (h' : CallR X g r') : CallR X g (fun xs H Q => r xs H Q ∨ r' xs H Q) := by
  intro pins s σ H xs us Q I rx q
  rcases q with q | q
  · exact h pins s σ H xs us Q I rx q
  · exact h' pins s σ H xs us Q I rx q
theorem pe_isi1M (f : Fx C L o B X W) {t : Ty} {y z : Expr} {p p2} (hg : glB C ("isinstance" : Str) = true) (hy : okE y = true) (hz : mtTy C t z = true) (ha : PE X y (tE L B W o a)) : PE X (.Call (.Name ("isinstance" : Str) p) [y, z] [] p2) (tE L B W o (.isi a [t])) := by
  obtain ⟨h1, h2, h3⟩ := f.gl hg
  obtain ⟨h4, h5⟩ := pe_tyM f hz
  refine (pe_callB (CallR.or call_isi (call_isXM f)) h1 (f.blt _ isiNm) isiBt (pa_cons ha (pa_cons h4 pa_nil (okE_star h5 _ _)) (okE_star hy _ _)) h3 h2 (okE_star hy _ _) (allOk_any (by simp [h5]))).imp fun σ H Q h => ?_
  exact tE1 (f := fun x st1 => ER.opt ((isiV o.sup [t] st1 x).map fun t => .dat (.bl t)) st1) (R := fun x H Q => rIsi X.K [x, tyV L t] H Q ∨ rIsX X.K L o B [x, tyV L t] H Q) (fun E st => by rw [evE]) (fun {m0 F0 H0 m F H E st σ Q v x Hx} X0 S r h => isi_R f (tyM_lt hz) X0 S r h) h
theorem pe_isiTM (f : Fx C L o B X W) {ts : List Ty} {y : Expr} {l : List Expr} {k p p2 p3} (hg : glB C ("isinstance" : Str) = true) (hy : okE y = true) (hz : mtTys C ts l = true) (h2 : 2 ≤ ts.length) (h64 : ts.length ≤ 64) (ha : PE X y (tE L B W o a)) :
    PE X (.Call (.Name ("isinstance" : Str) p) [y, .Tuple l k p3] [] p2) (tE L B W o (.isi a ts)) := by
  obtain ⟨h1, h2', h3⟩ := f.gl hg
  obtain ⟨h4, h5⟩ := pa_tysM f hz
  refine (pe_callB call_isiT h1 (f.blt _ isiNm) isiBt (pa_cons ha (pa_cons (pe_tup h4) pa_nil rfl) (okE_star hy _ _)) h3 h2' (okE_star hy _ _) (allOk_any rfl)).imp fun σ H Q h => ?_
  refine tE1 (f := fun x st1 => ER.opt ((isiV o.sup ts st1 x).map fun t => .dat (.bl t)) st1) (R := fun x H Q => (ts.map (tyV L)).length ≤ sizeLine ∧ ∀ p, H p = none → rIsiT X.K [x, .ref p] (upd H p (.tup (ts.map (tyV L)))) Q) (fun E st => by rw [evE]) (fun {m0 F0 H0 m F H E st σ Q v x Hx} X0 S r h => ⟨by rw [List.length_map, sizeLine_eq]; omega, fun p hp => ?_⟩) h
  obtain ⟨b, hb, q⟩ := Post.blO (H := upd H p (.tup (ts.map (tyV L)))) (X0.trans (Ext.fresh hp)) (S.fresh hp) h
  have r' : VRep L m F (upd H p (.tup (ts.map (tyV L)))) E σ Hx v x := r.ext (Ext.fresh hp)
  have hne : ts ≠ [] := fun z => by rw [z] at h2; simp at h2
  have : ∃ d, drf st v.d = some d ∧ tysF o.sup ts d = some b := by
    cases v with
    | xv c fs =>
      simp only [isiV] at hb
      split at hb
      · rename_i t' _
        simp at h2
      · cases hb
    | dat d => cases e : drf st d with | none => simp only [isiV, Val.d, e] at hb; cases hb | some d' => exact ⟨d', e, by simpa only [isiV, Val.d, e, Option.bind_some] using hb⟩
    | new d => cases e : drf st d with | none => simp only [isiV, Val.d, e] at hb; cases hb | some d' => exact ⟨d', e, by simpa only [isiV, Val.d, e, Option.bind_some] using hb⟩
    | bor d => cases e : drf st d with | none => simp only [isiV, Val.d, e] at hb; cases hb | some d' => exact ⟨d', e, by simpa only [isiV, Val.d, e, Option.bind_some] using hb⟩
  obtain ⟨d, e1, e2⟩ := this
  have hl := r'.drf (S.fresh hp) e1
  exact ⟨x, p, ts.map (tyV L), _, ts.map (tyU L), b, rfl, upd_same, paired_tys ts, tys_tyx f.K e2 hne hl, kits_ofD (L := L) e2 (by simp [tyU_val]), q⟩
/-! fields of a caught exception -/
theorem RepF.lookup (hi : ∀ j k, L.nm j = L.nm k → j = k) {k : Nat} {d : D} : ∀ {fs : List (Nat × D)} {fv : List (Str × V)}, RepF L m F H fs fv → fs.lookup k = some d → ∃ v, fv.lookup (L.nm k) = some v ∧ Rep L m F H d v
  | [], [], _, h => by cases h
  | (j, e) :: fs, (x, w) :: fv, r, h => by
    simp only [RepF] at r
    obtain ⟨rfl, r1, r2⟩ := r
    rw [List.lookup_cons] at h ⊢
    by_cases ek : k = j
    · subst ek
      simp at h ⊢
      subst h
      exact r1
    · have e1 : (k == j) = false := by simpa using ek
      have e2 : (L.nm k == L.nm j) = false := by simpa using fun z => ek (hi k j z)
      rw [e1] at h
      rw [e2]
      exact RepF.lookup hi r2 h
  | [], _ :: _, r, h => by simp only [RepF] at r
  | _ :: _, [], r, h => by simp only [RepF] at r
theorem attr_base {e : Expr} {y : Str} {env : PySem.Env} (h : okA e = true) : attributeBase e y env (eval e env) = eval e env := by cases e <;> simp [okA] at h <;> rfl
theorem pe_fldM (f : Fx C L o B X W) {k : Nat} {e : Expr} {y : Str} {p} (hy : L.nm k = y) (hb : okA e = true) (ha : PE X e (tE L B W o a)) : PE X (.Attribute e y p) (tE L B W o (.fld a k)) := by
  refine ⟨fun pins s σ H Q I ⟨m, F, E, st, S, h⟩ => ?_⟩
  rw [evE] at h
  refine attr_of (attr_base hb) (thn (ha.run pins s σ H _ I (tE_bind Ext.refl S h)) fun u s1 ⟨x, H1, I1, rx, m1, F1, st1, v, X1, X01, S1, r1, h1⟩ => ?_)
  cases v with
  | xv c fs =>
    obtain ⟨i, e1, e2⟩ := r1
    obtain ⟨w, hx1, rfl, ec, hd⟩ := SlR.xc f S1 e1 e2
    obtain rfl : u = Value.ref w.a := rx
    cases el : fldV o.flds st1 (.xv c fs) k with
    | none => rw [el] at h1; exact h1.elim
    | some d =>
      rw [el] at h1
      simp only [fldV] at el
      split at el
      · rename_i hk
        have hk' : k ∈ o.flds c := by simpa using hk
        have T := f.xk c (f.xf c k hk')
        have TX := T.xf
        have hno := T.no k hk'
        obtain ⟨X0, oe, pn, rfl, hz, vs, hv⟩ := f.xs w hx1
        cases ed : w.d with
        | none =>
          rw [ed] at hd
          subst hd
          cases el
        | some dd =>
          rw [ed] at hd
          obtain ⟨fd, fv, e3, rf⟩ := hd
          obtain ⟨z, ez, rz⟩ := rf.lookup f.fi el
          obtain ⟨ha', _⟩ := I1.pin (w.a, oe) (List.mem_append_left _ List.mem_cons_self)
          obtain ⟨mA, hns, hr⟩ := (show ObjOk _ _ H1 s1.heap dd (.xd fv) from I1.hok dd _ e3)
          obtain ⟨od, ho, hl⟩ := lookIn_ns hns
          rw [hy] at ez hno
          obtain ⟨u, hu, ru⟩ := RelO.some_of (v := z) (o := mA y) (by rw [← ez]; exact hr y)
          have J : PySem.W.InstAt s1.heap w.a oe (L.cad c) (some od) := ⟨ha', by rw [hz.1, ec], by unfold PySem.W.notCls; rw [hv] <;> rfl, by rw [hz.2, ed]; exact ho⟩
          exact HandSPX.exc_get I1.kIn J TX.ga TX.gg TX.exC (PySem.W.findObj_own TX.hdC hno rfl (by rw [hl, hu])) (handed_of ru) ⟨z, H1, I1.tok _, ru, Post.dat X01 S1 h1 rz⟩
      · cases el
  | _ => exact h1.elim
end
end Mp

end
section
set_option Elab.async false
set_option linter.all false
set_option maxRecDepth 100000
set_option maxHeartbeats 4000000
/-! S14: cells, targets, walks. -/
namespace Mp
open PySem PySem.Spec PyProof.Rows L2
section
variable {C : CC} {L : Lk} {B : Bs} {W : WX} {o : Orc} {X : Cx} {m m0 m1 m2 m' : List Addr} {F F0 F1 F2 F' : Addr → Prop} {H H0 H1 H2 H' : Hp} {E : Env} {st st' : Sto} {σ : L2.St} {Q : V → Hp → Prop} {me a b c : ME} {es : List ME}
theorem Ext.cell {p : Addr} (X1 : Ext m0 F0 H0 m F H) (hp : H0 p = none) : Ext m0 F0 H0 (m ++ [p]) F H := by
  obtain ⟨l, rfl, hl⟩ := X1.mp
  refine ⟨⟨l ++ [p], by rw [List.append_assoc], fun a ha => ?_⟩, X1.fm, X1.fn, X1.kp, X1.st, X1.tr⟩
  rcases List.mem_append.mp ha with h | h
  · exact hl a h
  · have e : a = p := by simpa using h
    subst e
    exact hp
theorem Mono.cell {p : Addr} : Mono m F H (m ++ [p]) F H := ⟨fun n a h => by rw [List.getElem?_append_left (List.getElem?_eq_some_iff.mp h).1]; exact h, fun _ h => h, fun _ _ => Stay.refl⟩
theorem Sim.cell {p : Addr} {d : D} (S : Sim L B m F E st σ H) (r : ORep L m F H p d) (nf : ¬ F p) (nm : p ∉ m) (hb : B.H p = none) (ho : ∀ i, ¬ OwnAt E σ i p) : Sim L B (m ++ [p]) F E (st ++ [d]) σ H := by
  have M : Mono m F H (m ++ [p]) F H := Mono.cell
  refine ⟨⟨fun n e h => ?_, by simp [S.wd.ln], ?_, fun a f => ⟨(S.wd.ft a f).1, fun z => ?_⟩⟩, S.ex.cell hb, fun i v e => ?_, S.ln, S.ij⟩
  · by_cases hn : n < st.length
    · rw [List.getElem?_append_left hn] at h
      obtain ⟨a, e1, r1⟩ := S.wd.ce n e h
      exact ⟨a, M.mp n a e1, r1.mono M fun o q => q⟩
    · rw [List.getElem?_append_right (by omega)] at h
      have en : n - st.length = 0 := by
        have := (List.getElem?_eq_some_iff.mp h).1
        simp at this
        omega
      rw [en] at h
      simp at h
      subst h
      have en : n = m.length := by rw [S.wd.ln]; omega
      subst en
      exact ⟨p, by simp, r.mono M fun o q => q⟩
  · rw [List.nodup_append]
    exact ⟨S.wd.nd, by simp, fun a ha b hb e => by simp at hb; subst hb; subst e; exact nm ha⟩
  · rcases List.mem_append.mp z with z | z
    · exact (S.wd.ft a f).2 z
    · have e : a = p := by simpa using z
      subst e
      exact nf f
  · obtain ⟨x, e1, r1⟩ := S.sl i v e
    refine ⟨x, e1, ?_⟩
    cases v with
    | dat d => exact Rep.mono M _ _ r1
    | new d =>
      obtain ⟨a, rfl, r1, nf1, nm1, n0⟩ := r1
      refine ⟨a, rfl, r1.mono M fun o q => q, nf1, fun z => ?_, n0⟩
      rcases List.mem_append.mp z with z | z
      · exact nm1 z
      · have ea : a = p := by simpa using z
        subst ea
        exact ho i ⟨⟨d, e⟩, e1⟩
    | bor d => exact r1
    | xv c fs => obtain ⟨q, e, e2, e3, r1⟩ := r1; exact ⟨q, e, e2, e3, r1.mono M⟩
theorem tE_cell (h : tE L B W o (.cell a) σ H Q) : tE L B W o a σ H Q := by
  obtain ⟨m, F, E, st, S, h⟩ := h
  rw [evE] at h
  refine tE.mono (fun x H1 ⟨m1, F1, st1, v, X1, X01, S1, r1, h1⟩ => ?_) (tE_bind Ext.refl S h)
  cases v with
  | new d =>
    obtain ⟨p, rfl, r, nf, nm, n0⟩ := r1
    have G := S.beg
    refine h1 (m1 ++ [p]) F1 _ H1 (X01.cell n0) (S1.cell r nf nm (G.tr p n0) fun i q => G.ow i p q n0) ?_
    show Rep L (m1 ++ [p]) F1 H1 (.ref st1.length) (.ref p)
    simp only [Rep]
    exact ⟨p, rfl, by rw [← S1.wd.ln]; simp⟩
  | _ => exact h1.elim

/-! targets of data -/
def setV : List (Nat × V) → L2.St → L2.St
  | [], σ => σ
  | (i, v) :: r, σ => setV r (σ.set i (some v))
def PairA (L : Lk) (m : List Addr) (F : Addr → Prop) (H : Hp) : List (Nat × D) → List (Nat × V) → Prop
  | [], [] => True
  | (i, d) :: r, (j, v) :: s => j = i ∧ Rep L m F H d v ∧ PairA L m F H r s
  | _, _ => False
theorem PairA.append : ∀ {l l2 : List (Nat × D)} {k k2 : List (Nat × V)}, PairA L m F H l k → PairA L m F H l2 k2 → PairA L m F H (l ++ l2) (k ++ k2)
  | [], _, [], _, _, h => h
  | _ :: _, _, _ :: _, _, h, g => ⟨h.1, h.2.1, PairA.append h.2.2 g⟩
theorem setV_app : ∀ (k k2 : List (Nat × V)) (σ : L2.St), setV (k ++ k2) σ = setV k2 (setV k σ)
  | [], _, _ => rfl
  | (_, _) :: k, k2, σ => by simp only [List.cons_append, setV]; exact setV_app k k2 _
def tgP (K : PySem.W.Frag) (p : Pat) : TG := fun v σ H Q => ∃ L m F d l, L.K = K ∧ Rep L m F H d v ∧ patA p d = some l ∧ ∀ vl, PairA L m F H l vl → Q (setV vl σ) H
def tgPL (K : PySem.W.Frag) (ps : List Pat) : TGs := fun vs σ H Q => ∃ L m F ds l, L.K = K ∧ RepL L m F H ds vs ∧ patAL ps ds = some l ∧ ∀ vl, PairA L m F H l vl → Q (setV vl σ) H
theorem okE_asg {e : Expr} (h : okE e = true) (es : List Expr) (env : PySem.Env) : assignEach (e :: es) env = (false, assign e env) :: assignEach es env := by cases e <;> simp [okE] at h <;> rfl
theorem asg_okL {es : List Expr} {env : PySem.Env} (h : es.all okE = true) : (assignEach es env).length = es.length ∧ (assignEach es env).findIdx? (·.1) = none := by
  induction es with
  | nil => exact ⟨rfl, rfl⟩
  | cons e es ih =>
    rw [List.all_cons, Bool.and_eq_true] at h
    rw [okE_asg h.1]
    obtain ⟨h1, h2⟩ := ih h.2
    refine ⟨by simp [h1], ?_⟩
    rw [List.findIdx?_cons, h2]
    rfl
theorem patAL_len : ∀ {ps : List Pat} {ds : List D} {l}, patAL ps ds = some l → ps.length = ds.length
  | [], [], _, _ => rfl
  | [], _ :: _, _, h => by simp [patAL] at h
  | _ :: _, [], _, h => by simp [patAL] at h
  | p :: ps, d :: ds, l, h => by
    simp only [patAL] at h
    cases e1 : patA p d with
    | none => rw [e1] at h; cases h
    | some a =>
      cases e2 : patAL ps ds with
      | none => rw [e1, e2] at h; cases h
      | some b => simp [patAL_len e2]
/-- what storing asks of the context -/
structure StX (C : CC) (X : Cx) : Prop where
  N : X.N = C.N
  nd : C.N.Nodup
  sc : X.env.scope = C.sc
  fl : C.fl = true → ∀ x, X.fn x = true
  calm : X.calm = true
theorem mtPL_len {C : CC} : ∀ {ps : List Pat} {es : List Expr}, mtPL C ps es = true → ps.length = es.length ∧ es.all okE = true
  | [], [], _ => ⟨rfl, rfl⟩
  | [], _ :: _, h => by simp [mtPL] at h
  | _ :: _, [], h => by simp [mtPL] at h
  | p :: ps, e :: es, h => by
    simp only [mtPL, Bool.and_eq_true] at h
    obtain ⟨h1, h2⟩ := mtPL_len h.2
    exact ⟨by simp [h1], by simp [h.1.1, h2]⟩
theorem PairA.split : ∀ {l l2 : List (Nat × D)} {k : List (Nat × V)}, PairA L m F H (l ++ l2) k → ∃ k1 k2, k = k1 ++ k2 ∧ PairA L m F H l k1 ∧ PairA L m F H l2 k2
  | [], _, k, h => ⟨[], k, rfl, trivial, h⟩
  | (i, d) :: l, l2, (j, v) :: k, h => by
    obtain ⟨k1, k2, rfl, h1, h2⟩ := PairA.split h.2.2
    exact ⟨(j, v) :: k1, k2, rfl, ⟨h.1, h.2.1, h1⟩, h2⟩
  | _ :: _, _, [], h => h.elim
mutual
theorem pgM (f : StX C X) : ∀ {p : Pat} {e : Expr}, mtP C p e = true → PG X e (tgP X.K p)
  | .v i, e, h => by
    unfold mtP at h
    split at h
    · rename_i x pos
      rw [Bool.and_eq_true, decide_eq_true_eq] at h
      have hl : Loc X.env.scope x ∧ (X.fn x = true ∨ X.env.scope.names.lookup x = some .local) := by
        rw [f.sc]
        have h2 := h.2
        split at h2
        · rename_i e; exact ⟨.inl e, .inr e⟩
        · rename_i e; exact ⟨.inr e, .inl (f.fl h2 x)⟩
        · cases h2
      have g := pg_name (X := X) (pos := pos) (i := i) (by rw [f.N]; exact f.nd) (by rw [f.N]; exact h.1) hl.1 hl.2
      refine ⟨fun pins s σ H v u Q I r ⟨L, m, F, d, l, _, rd, hp, hq⟩ => g.run pins s σ H v u Q I r ?_⟩
      simp only [patA, Option.some.injEq] at hp
      subst hp
      exact hq [(i, v)] ⟨rfl, rd, trivial⟩
    · cases h
  | .t ps, e, h => by
    unfold mtP at h
    split at h
    · rename_i es k pos
      obtain ⟨h1, h2⟩ := mtPL_len h
      have g := pg_tup (X := X) (k := k) (pos := pos) f.calm (pgLM f h) (asg_okL h2).1 (asg_okL h2).2
      refine ⟨fun pins s σ H v u Q I r ⟨L, m, F, d, l, eK, rd, hp, hq⟩ => g.run pins s σ H v u Q I r ?_⟩
      unfold patA at hp
      split at hp
      · rename_i ds
        obtain ⟨a, vs, rfl, hs, rl, _⟩ := (Rep.look rd).sqT eK
        exact ⟨a, vs, rfl, hs, by rw [← rl.len, ← patAL_len hp, h1], L, m, F, ds, l, eK, rl, hp, hq⟩
      · cases hp
    · cases h
theorem pgLM (f : StX C X) : ∀ {ps : List Pat} {es : List Expr}, mtPL C ps es = true → PGs X es (tgPL X.K ps)
  | [], [], _ => by
    refine ⟨fun pins s σ H vs us Q I r ⟨L, m, F, ds, l, eK, rl, hp, hq⟩ => pgs_nil.run pins s σ H vs us Q I r ?_⟩
    cases ds with
    | nil =>
      simp only [patAL, Option.some.injEq] at hp
      subst hp
      exact ⟨rl.nil_inv, hq [] trivial⟩
    | cons => simp [patAL] at hp
  | p :: ps, e :: es, h => by
    simp only [mtPL, Bool.and_eq_true] at h
    have g := pgs_cons (pgM f h.1.2) (pgLM f h.2) (by rw [okE_asg h.1.1]; rfl)
    refine ⟨fun pins s σ H vs us Q I r ⟨L, m, F, ds, l, eK, rl, hp, hq⟩ => g.run pins s σ H vs us Q I r ?_⟩
    cases ds with
    | nil => simp [patAL] at hp
    | cons d ds =>
      cases vs with
      | nil => simp only [RepL] at rl
      | cons v vs =>
        simp only [RepL] at rl
        simp only [patAL] at hp
        cases e1 : patA p d with
        | none => rw [e1] at hp; cases hp
        | some l1 =>
          cases e2 : patAL ps ds with
          | none => rw [e1, e2] at hp; cases hp
          | some l2 =>
            rw [e1, e2] at hp
            cases hp
            refine ⟨v, vs, rfl, L, m, F, d, l1, eK, rl.1, e1, fun v1 h1 => ⟨L, m, F, ds, l2, eK, rl.2, e2, fun v2 h2 => ?_⟩⟩
            rw [← setV_app]
            exact hq (v1 ++ v2) (h1.append h2)
  | [], _ :: _, h => by simp [mtPL] at h
  | _ :: _, [], h => by simp [mtPL] at h
end
/-- where a list of stores puts a value -/
theorem setL_get : ∀ {l : List (Nat × D)} {vl : List (Nat × V)} {E E' : Env} {σ : L2.St}, PairA L m F H l vl → setL l E = some E' → E.length = σ.length →
    E'.length = E.length ∧ (setV vl σ).length = σ.length ∧ ∀ i, (i ∈ l.map (·.1) ∧ ∃ d x, E'[i]? = some (some (.dat d)) ∧ (setV vl σ)[i]? = some (some x) ∧ Rep L m F H d x) ∨ (i ∉ l.map (·.1) ∧ E'[i]? = E[i]? ∧ (setV vl σ)[i]? = σ[i]?)
  | [], [], E, E', σ, _, h, hl => by cases h; exact ⟨rfl, rfl, fun i => .inr ⟨by simp, rfl, rfl⟩⟩
  | (j, d) :: l, (k, v) :: vl, E, E', σ, p, h, hl => by
    obtain ⟨rfl, r, p⟩ := p
    simp only [setL] at h
    split at h
    · rename_i hj
      obtain ⟨h1, h2, h3⟩ := setL_get (σ := σ.set k (some v)) p h (by simp [hl])
      refine ⟨by rw [h1]; simp, by simp only [setV]; rw [h2]; simp, fun i => ?_⟩
      simp only [setV, List.map_cons, List.mem_cons]
      rcases h3 i with ⟨h4, h5⟩ | ⟨h4, h5, h6⟩
      · exact .inl ⟨.inr h4, h5⟩
      · by_cases e : i = k
        · subst e
          refine .inl ⟨.inl rfl, d, v, ?_, ?_, r⟩
          · rw [h5, List.getElem?_set_self hj]
          · rw [h6, List.getElem?_set_self (by rw [← hl]; exact hj)]
        · refine .inr ⟨fun z => z.elim e h4, ?_, ?_⟩
          · rw [h5, List.getElem?_set_ne (Ne.symm e)]
          · rw [h6, List.getElem?_set_ne (Ne.symm e)]
    · cases h
  | [], _ :: _, _, _, _, h, _, _ => h.elim
  | _ :: _, [], _, _, _, h, _, _ => h.elim
theorem Sim.pat {l : List (Nat × D)} {vl : List (Nat × V)} {E' : Env} {σ0 : L2.St} (S : Sim L B m F E st σ H) (p : PairA L m F H l vl) (h : setL l E = some E') (hl : σ0.length = σ.length) (he : ∀ i, i ∉ l.map (·.1) → σ0[i]? = σ[i]?) : Sim L B m F E' st (setV vl σ0) H := by
  obtain ⟨h1, h2, h3⟩ := setL_get p h (σ := σ0) (by rw [hl, S.ln])
  refine ⟨S.wd, S.ex, fun i v e => ?_, by rw [h1, h2, S.ln, hl], fun i j a hi hj => ?_⟩
  · rcases h3 i with ⟨_, d, x, e1, e2, r⟩ | ⟨hn, e1, e2⟩
    · rw [e1] at e
      cases e
      exact ⟨x, e2, r⟩
    · rw [e1] at e
      obtain ⟨x, e3, r⟩ := S.sl i v e
      exact ⟨x, by rw [e2, he i hn]; exact e3, r⟩
  · have back : ∀ k, OwnAt E' (setV vl σ0) k a → OwnAt E σ k a := fun k ⟨⟨d, q1⟩, q2⟩ => by
      rcases h3 k with ⟨_, d', x, e1, _⟩ | ⟨hn, e1, e2⟩
      · rw [e1] at q1; cases q1
      · exact ⟨⟨d, by rw [← e1]; exact q1⟩, by rw [← he k hn, ← e2]; exact q2⟩
    exact S.ij i j a (back i hi) (back j hj)
end
end Mp

end
section
set_option Elab.async false
set_option linter.all false
set_option maxRecDepth 100000
set_option maxHeartbeats 4000000
/-! S15: walks, comprehensions. -/
namespace Mp
open PySem PySem.Spec PyProof.Rows L2
/-- an iterator yields the items ds, while kept objects stay and the looked-at ones (O) stay as they are -/
structure ItOk (L : Lk) (m : List Addr) (F : Addr → Prop) (H : Hp) (O : Addr → Prop) (J : It) (ds : List D) : Prop where
  len : ds.length ≤ szMax
  stop : ∀ m' F' H', Mono m F H m' F' H' → (∀ a, O a → ∀ o, H a = some o → H' a = some o) → J.stop ds.length H'
  go : ∀ (i : Nat) (d : D), ds[i]? = some d → ∀ m' F' H', Mono m F H m' F' H' → (∀ a, O a → ∀ o, H a = some o → H' a = some o) →
    J.go i H' ∧ ∀ x H2, J.yld i H' x H2 → (H2 = H' ∧ Rep L m' F' H' d x) ∨ ∃ p es vs, H' p = none ∧ H2 = upd H' p (.tup vs) ∧ x = .ref p ∧ d = .tup es ∧ RepL L m' F' H' es vs ∧ es.length ≤ szMax
def OwnS (k : Bool) (E : Env) (σ : L2.St) (a : Addr) : Prop := k = false ∧ ∃ i, OwnAt E σ i a
def PostI (L : Lk) (B : Bs) (W : WX) (k : Bool) (m : List Addr) (F : Addr → Prop) (H : Hp) (E : Env) (σ : L2.St) (r : ER (List D)) (R : It → Hp → Prop) : Prop :=
  match r with
  | .ok ds st => ∀ m' F' J H', Ext m F H m' F' H' → Sim L B m' F' E st σ H' → ItOk L m' F' H' (OwnS k E σ) J ds → R J H'
  | .ex xc st => ∀ m' F' H' cls d, Ext m F H m' F' H' → Sim L B m' F' E st σ H' → XRep L m' F' H' xc.c xc.fs cls d → W cls d σ H'
  | .bad => False
def tI (L : Lk) (B : Bs) (W : WX) (o : Orc) (k : Bool) (it : MI) : TI := fun σ H R => ∃ m F E st, Sim L B m F E st σ H ∧ PostI L B W k m F H E σ (evI o k it E st) R
section
variable {C : CC} {L : Lk} {B : Bs} {W : WX} {o : Orc} {X : Cx} {m m0 m1 m2 m' : List Addr} {F F0 F1 F2 F' : Addr → Prop} {H H0 H1 H2 H' : Hp} {E : Env} {st st' : Sto} {σ : L2.St} {Q : V → Hp → Prop} {R : It → Hp → Prop} {me a b c : ME} {es : List ME} {k : Bool}
theorem tI_bind {f : Val → Sto → ER (List D)} (X : Ext m0 F0 H0 m F H) (S : Sim L B m F E st σ H) (h : PostI L B W k m0 F0 H0 E σ ((evE o me E st).bind f) R) :
    tE L B W o me σ H (fun x H1 => ∃ m1 F1 st1 v, Ext m F H m1 F1 H1 ∧ Ext m0 F0 H0 m1 F1 H1 ∧ Sim L B m1 F1 E st1 σ H1 ∧ VRep L m1 F1 H1 E σ H v x ∧ PostI L B W k m0 F0 H0 E σ (f v st1) R) := by
  refine ⟨m, F, E, st, S, ?_⟩
  cases e : evE o me E st with
  | ok v st1 =>
    rw [e] at h
    exact fun m1 F1 x H1 a b c => ⟨m1, F1, st1, v, a, X.trans a, b, c, h⟩
  | ex xc st1 =>
    rw [e] at h
    exact fun m1 F1 H1 cls d a b c => h m1 F1 H1 cls d (X.trans a) b c
  | bad =>
    rw [e] at h
    exact h
/-- data that is walked over -/
def Wk (L : Lk) (m : List Addr) (F : Addr → Prop) (H : Hp) (O : Addr → Prop) : D → V → Prop
  | .lst xs, v => ∃ a vs, v = .ref a ∧ (F a ∨ O a) ∧ H a = some (.lst vs) ∧ RepL L m F H xs vs ∧ xs.length ≤ szMax
  | .tup xs, v => Rep L m F H (.tup xs) v
  | _, _ => False
theorem sqT_inj {pins : List (Addr × Obj)} {s : Shared} {p : Addr} {xs ys : List V} (I : Inv X pins σ H s) (h : SqT X.K H p xs) (g : SqT X.K H p ys) : xs = ys := I.tuple_inj h g
theorem PostI.wk {v : Val} {x : V} (X0 : Ext m0 F0 H0 m1 F1 H1) (S0 : Sim L B m0 F0 E st σ H0) (S : Sim L B m1 F1 E st' σ H1) (r : VRep L m1 F1 H1 E σ H0 v x)
    (h : PostI L B W k m0 F0 H0 E σ (ER.opt ((v.it k).bind itemsOf) st') R) :
    ∃ d ds F', v.it k = some d ∧ itemsOf d = some ds ∧ Ext m0 F0 H0 m1 F' H1 ∧ Sim L B m1 F' E st' σ H1 ∧ Wk L m1 F' H1 (OwnS k E σ) d x ∧ PostI L B W k m0 F0 H0 E σ (.ok ds st') R := by
  cases e : v.it k with
  | none => rw [e] at h; exact h.elim
  | some d =>
    rw [e] at h
    cases e2 : itemsOf d with
    | none => simp only [Option.bind_some, e2] at h; exact h.elim
    | some ds =>
      simp only [Option.bind_some, e2] at h
      have kept : v.kp = some d → ∃ d' ds' F', some d = some d' ∧ itemsOf d' = some ds' ∧ Ext m0 F0 H0 m1 F' H1 ∧ Sim L B m1 F' E st' σ H1 ∧ Wk L m1 F' H1 (OwnS k E σ) d' x ∧ PostI L B W k m0 F0 H0 E σ (.ok ds' st') R := fun ek => by
        obtain ⟨F', X', S', r', _⟩ := VRep.kept X0 S0.beg S r ek
        refine ⟨d, ds, F', rfl, e2, X', S', ?_, h⟩
        cases d <;> simp only [itemsOf] at e2 <;> try contradiction
        · exact r'
        · simp only [Rep] at r'
          obtain ⟨a, vs, e, fa, q⟩ := r'
          exact ⟨a, vs, e, .inl fa, q⟩
      cases k with
      | true => exact kept e
      | false =>
        cases v with
        | dat d' => exact kept e
        | new d' =>
          have : d' = d := by simpa [Val.it, Val.d] using e
          subst this
          refine kept ?_
          cases d' <;> simp only [itemsOf] at e2 <;> first | contradiction | rfl
        | bor d' =>
          have : d' = d := by simpa [Val.it, Val.d] using e
          subst this
          obtain ⟨i, e3, e4⟩ := r
          obtain ⟨y, e5, a, rfl, r, nf, nm, n0⟩ := S.sl i _ e3
          rw [e4] at e5; cases e5
          refine ⟨d', ds, F1, rfl, e2, X0, S, ?_, h⟩
          cases d' <;> simp only [itemsOf] at e2 <;> try contradiction
          · simp only [ORep] at r
            obtain ⟨vs, e6, r⟩ := r
            exact ⟨a, vs, rfl, .inr ⟨rfl, i, ⟨_, e3⟩, e4⟩, e6, r⟩
        | xv c fs => cases e
theorem it_list {O : Addr → Prop} {p : Addr} {xs : List D} {vs : List V} (hf : F p ∨ O p) (e : H p = some (.lst vs)) (r : RepL L m F H xs vs) (z : xs.length ≤ szMax) : ItOk L m F H O (Itl X.K p) xs := by
  have there : ∀ m' F' H', Mono m F H m' F' H' → (∀ a, O a → ∀ o, H a = some o → H' a = some o) → H' p = some (.lst vs) := fun m' F' H' M hO => by
    rcases hf with f | f
    · exact (M.st p f).lst e
    · exact hO p f _ e
  have sq : ∀ m' F' H', Mono m F H m' F' H' → (∀ a, O a → ∀ o, H a = some o → H' a = some o) → SqL X.K H' p vs := fun m' F' H' M hO => .inl (.inl (there m' F' H' M hO))
  refine ⟨z, fun m' F' H' M hO => ⟨vs, sq m' F' H' M hO, by rw [r.len]; exact Nat.le_refl _⟩, fun i d ei m' F' H' M hO => ?_⟩
  obtain ⟨v, ev, rv⟩ := r.get ei
  refine ⟨⟨vs, v, sq m' F' H' M hO, ev⟩, fun x H2 ⟨e1, e2⟩ => .inl ⟨e1, ?_⟩⟩
  have := e2 vs (sq m' F' H' M hO)
  rw [ev] at this
  cases this
  exact Rep.mono M _ _ rv
theorem it_tup {O : Addr → Prop} {v : V} {xs : List D} (eK : L.K = X.K) (r : Rep L m F H (.tup xs) v) : ∃ p vs, v = .ref p ∧ SqT X.K H p vs ∧ ItOk L m F H O (Itt X.K p) xs := by
  have r0 := r
  simp only [Rep] at r
  obtain ⟨p, vs, rfl, q, r, z⟩ := r
  have sq : ∀ m' F' H', Mono m F H m' F' H' → SqT X.K H' p vs := fun m' F' H' M => by
    rw [← eK]
    exact q.imp (fun w => (M.st p w.1).rd w.2) id
  refine ⟨p, vs, rfl, sq m F H Mono.refl, z, fun m' F' H' M hO => ⟨vs, sq m' F' H' M, by rw [r.len]; exact Nat.le_refl _⟩, fun i d ei m' F' H' M hO => ?_⟩
  obtain ⟨w, ew, rw'⟩ := r.get ei
  refine ⟨⟨vs, w, sq m' F' H' M, ew⟩, fun x H2 ⟨e1, e2⟩ => .inl ⟨e1, ?_⟩⟩
  have := e2 vs (sq m' F' H' M)
  rw [ew] at this
  cases this
  exact Rep.mono M _ _ rw'
theorem pi_exM (f : Fx C L o B X W) {tg e : Expr} (ha : PE X e (tE L B W o a)) : PI X tg e (tI L B W o k (.ex a)) := by
  refine ⟨fun pins s σ H R I ⟨m, F, E, st, S, h⟩ => ?_⟩
  rw [evI] at h
  refine thn (ha.run pins s σ H _ I (tI_bind Ext.refl S h)) fun v s1 ⟨x, H1, I1, rx, m1, F1, st1, w, X1, X01, S1, r1, h1⟩ => ?_
  obtain ⟨d, ds, F', e1, e2, X', S', hw, h2⟩ := PostI.wk X01 S S1 r1 h1
  have fin : ∀ J, ItOk L m1 F' H1 (OwnS k E σ) J ds → R J H1 := fun J hJ => h2 m1 F' J H1 X' S' hJ
  cases d with
  | lst xs =>
    obtain ⟨p, vs, rfl, hf, e3, r, z⟩ := hw
    cases e2
    have q := fin _ (it_list (X := X) hf e3 r z)
    cases rx
    obtain ⟨its, rv, pl, hz⟩ := I1.list (.inl (.inl e3))
    refine wpAny_pyIter_list pl.isList ?_
    refine ⟨s1.heap.objs.size, [s1.heap.objs.size], _, _, H1, rfl, I1.kept (t' := s1.toks) fun b o e => Heap.get?_push_of_some _ e, turn_list p _, ⟨_, Heap.get?_push_size _ rfl, rfl, rfl⟩, fun b hb => ?_, q⟩
    have e : b = s1.heap.objs.size := by simpa using hb
    subst e
    exact I1.fpOk (Nat.le_refl _) (I1.hok.fresh (Nat.le_refl _))
  | tup xs =>
    cases e2
    obtain ⟨p, vs, rfl, hs, hi⟩ := it_tup (X := X) (O := OwnS k E σ) f.K hw
    have q := fin _ hi
    cases rx
    obtain ⟨its, rv, pl, hz⟩ := I1.tuple hs
    refine wpAny_pyIter_tuple (show s1.heap.IsTuple p its.toArray from pl) ?_
    refine ⟨s1.heap.objs.size, [s1.heap.objs.size], _, _, H1, rfl, I1.kept (t' := s1.toks) fun b o e => Heap.get?_push_of_some _ e, turn_tuple p _, ⟨_, Heap.get?_push_size _ rfl, rfl, rfl⟩, fun b hb => ?_, q⟩
    have e : b = s1.heap.objs.size := by simpa using hb
    subst e
    exact I1.fpOk (Nat.le_refl _) (I1.hok.fresh (Nat.le_refl _))
  | _ => cases e2
/-! ranges -/
theorem rangeL_ok {lo hi : Int} {ds : List D} (h : rangeL lo hi = some ds) : ((hi - lo).toNat ≤ szMax ∧ -(2 ^ 60) ≤ lo ∧ lo ≤ 2 ^ 60 ∧ -(2 ^ 60) ≤ hi ∧ hi ≤ 2 ^ 60) ∧ ds = (List.range (hi - lo).toNat).map fun (k : Nat) => .int (lo + k) := by
  unfold rangeL at h
  split at h
  · cases h; exact ⟨‹_›, rfl⟩
  · cases h
theorem it_range {O : Addr → Prop} {lo hi : Int} {ds : List D} (h : rangeL lo hi = some ds) : ItOk L m F H O (Itr lo (hi - lo).toNat) ds := by
  obtain ⟨h1, rfl⟩ := rangeL_ok h
  refine ⟨by rw [List.length_map, List.length_range]; exact h1.1, fun m' F' H' M hO => ?_, fun i d ei m' F' H' M hO => ?_⟩
  · show (hi - lo).toNat ≤ _
    simp
  · have hi' : i < (hi - lo).toNat := by
      have := (List.getElem?_eq_some_iff.mp ei).1
      simpa using this
    rw [List.getElem?_map, List.getElem?_range hi'] at ei
    cases ei
    refine ⟨hi', fun x H2 ⟨e1, e2⟩ => .inl ⟨e1, ?_⟩⟩
    simp only [Rep]
    exact e2
theorem rngNm : ("range" : Str) ∈ bltN := by decide +kernel
theorem PostI.opt {o' : Option (List D)} (h : PostI L B W k m0 F0 H0 E σ (ER.opt o' st) R) : ∃ ds, o' = some ds ∧ PostI L B W k m0 F0 H0 E σ (.ok ds st) R := by
  cases o' with
  | none => exact h.elim
  | some ds => exact ⟨ds, rfl, h⟩
/-- range(a), range(a, b): the bounds' reading -/
theorem rg1_R (h : tI L B W o k (.rg1 a) σ H R) : tE L B W o a σ H fun x H1 => ∃ n : Int, x = .int n ∧ ∃ ds, rangeL 0 n = some ds ∧ R (Itr 0 (n - 0).toNat) H1 := by
  obtain ⟨m, F, E, st, S, h⟩ := h
  rw [evI] at h
  refine tE.mono (fun x H1 ⟨m1, F1, st1, v, X1, X01, S1, r1, h1⟩ => ?_) (tI_bind Ext.refl S h)
  cases e : v.d with
  | int n =>
    rw [e] at h1
    obtain ⟨ds, e2, h2⟩ := PostI.opt h1
    exact ⟨n, r1.int S1 e, ds, e2, h2 m1 F1 _ H1 X01 S1 (it_range e2)⟩
  | _ => rw [e] at h1; exact h1.elim
theorem rg2_R (h : tI L B W o k (.rg2 a b) σ H R) : tE L B W o a σ H fun x H1 => tE L B W o b σ H1 fun y H2 => ∃ i j : Int, x = .int i ∧ y = .int j ∧ ∃ ds, rangeL i j = some ds ∧ R (Itr i (j - i).toNat) H2 := by
  obtain ⟨m, F, E, st, S, h⟩ := h
  rw [evI] at h
  refine tE.mono (fun x H1 ⟨m1, F1, st1, v, X1, X01, S1, r1, h1⟩ => ?_) (tI_bind Ext.refl S h)
  refine tE.mono (fun y H2 ⟨m2, F2, st2, w, X2, X02, S2, r2, h2⟩ => ?_) (tI_bind X01 S1 h1)
  cases e : v.d with
  | int i =>
    cases e3 : w.d with
    | int j =>
      rw [e, e3] at h2
      obtain ⟨ds, e2, h3⟩ := PostI.opt h2
      exact ⟨i, j, (r1.ext X2).int S2 e, r2.int S2 e3, ds, e2, h3 m2 F2 _ H2 X02 S2 (it_range e2)⟩
    | _ => rw [e, e3] at h2; exact h2.elim
  | _ => rw [e] at h2; exact h2.elim
theorem pi_rg1M (f : Fx C L o B X W) {tg e : Expr} {p p2} (hg : glB C ("range" : Str) = true) (he : okE e = true) (ha : PE X e (tE L B W o a)) : PI X tg (.Call (.Name ("range" : Str) p) [e] [] p2) (tI L B W o k (.rg1 a)) := by
  obtain ⟨h1, h2, h3⟩ := f.gl hg
  have z := pi_range1 (X := X) (tg := tg) (p := p) (pos := p2) h1 (f.blt _ rngNm) (pa_cons ha pa_nil (okE_star he _ _)) (okE_star he _ _)
  refine ⟨fun pins s σ H R I h => z.run pins s σ H R I ?_⟩
  refine tE.mono (fun x H1 ⟨n, e1, ds, e2, q⟩ => ?_) (rg1_R h)
  obtain ⟨h4, _⟩ := rangeL_ok e2
  exact ⟨n, by rw [e1], by omega, by omega, by simpa using q⟩
theorem pi_rg2M (f : Fx C L o B X W) {tg e e' : Expr} {p p2} (hg : glB C ("range" : Str) = true) (he : okE e = true) (he' : okE e' = true) (ha : PE X e (tE L B W o a)) (hb : PE X e' (tE L B W o b)) : PI X tg (.Call (.Name ("range" : Str) p) [e, e'] [] p2) (tI L B W o k (.rg2 a b)) := by
  obtain ⟨h1, h2, h3⟩ := f.gl hg
  have z := pi_range2 (X := X) (tg := tg) (p := p) (pos := p2) h1 (f.blt _ rngNm) (pa_cons ha (pa_cons hb pa_nil (okE_star he' _ _)) (okE_star he _ _)) (by rw [okE_star he, okE_star he'] <;> rfl) (okE_star he' _ _)
  refine ⟨fun pins s σ H R I h => z.run pins s σ H R I ?_⟩
  refine tE.mono (fun x H1 h' => tE.mono (fun y H2 ⟨i, j, e1, e2, ds, e3, q⟩ => ?_) h') (rg2_R h)
  obtain ⟨h4, _⟩ := rangeL_ok e3
  exact ⟨i, j, by rw [e1, e2], ⟨by omega, by omega, by omega, by omega⟩, q⟩
/-! list(..) -/
theorem lstNm : ("list" : Str) ∈ bltN := by decide +kernel
theorem lstBt : bootBuiltins ("list" : Str) = some (.type "list") := by first | rfl | kernel_rfl | with_unfolding_all rfl
end
end Mp

end
section
set_option Elab.async false
set_option linter.all false
set_option maxRecDepth 100000
set_option maxHeartbeats 4000000
/-! S16: list(..), comprehensions. -/
namespace Mp
open PySem PySem.Spec PyProof.Rows L2
section
variable {C : CC} {L : Lk} {B : Bs} {W : WX} {o : Orc} {X : Cx} {m m0 m1 m2 m' : List Addr} {F F0 F1 F2 F' : Addr → Prop} {H H0 H1 H2 H' : Hp} {E : Env} {st st' st1 : Sto} {σ : L2.St} {Q : V → Hp → Prop} {R : It → Hp → Prop} {me a b c : ME} {es : List ME} {k : Bool}
theorem bind_assoc {α β γ : Type} (r : ER α) (f : α → Sto → ER β) (g : β → Sto → ER γ) : (r.bind f).bind g = r.bind fun a st => (f a st).bind g := by cases r <;> rfl
theorem pe_lsExM (f : Fx C L o B X W) {e : Expr} {p p2} (hg : glB C ("list" : Str) = true) (he : okE e = true) (ha : PE X e (tE L B W o a)) : PE X (.Call (.Name ("list" : Str) p) [e] [] p2) (tE L B W o (.lsI (.ex a))) := by
  obtain ⟨h1, h2, h3⟩ := f.gl hg
  refine (pe_callTy call_list_of h1 (f.blt _ lstNm) lstBt (pa_cons ha pa_nil (okE_star he _ _)) h3 h2 (okE_star he _ _) (allOk_any rfl)).imp fun σ H Q ⟨m, F, E, st, S, h⟩ => ?_
  rw [evE, evI, bind_assoc] at h
  refine tE.mono (fun x H1 ⟨m1, F1, st1, v, X1, X01, S1, r1, h1⟩ => ?_) (tE_bind Ext.refl S h)
  cases e0 : (v.it false).bind itemsOf with
  | none => rw [e0] at h1; exact h1.elim
  | some ds0 =>
    obtain ⟨d, ds, F', e1, e2, X', S', hw, _⟩ := PostI.wk (k := false) (R := fun _ _ => True) (B := B) (W := W) X01 S S1 r1 (by rw [e0]; exact fun _ _ _ _ _ _ _ => trivial)
    rw [e1, Option.bind_some, e2] at h1
    have h2 : Post L B W m F H E σ (.ok (.new (.lst ds)) st1) Q := h1
    cases d with
    | lst xs =>
      obtain ⟨q, vs, rfl, hf, e3, r, z⟩ := hw
      cases e2
      exact ⟨q, vs, rfl, .inl (.inl (.inl e3)), fun l hl => (Post.res X' S' h2).n l _ hl ⟨vs, rfl, r, z⟩⟩
    | tup xs =>
      cases e2
      obtain ⟨q, vs, rfl, hs, r, z⟩ := (Rep.look hw).sqT f.K
      exact ⟨q, vs, rfl, .inr hs, fun l hl => (Post.res X' S' h2).n l _ hl ⟨vs, rfl, r, z⟩⟩
    | _ => cases e2
theorem rgV_rep {lo hi : Int} : RepL L m F H ((List.range (hi - lo).toNat).map fun (k : Nat) => .int (lo + k)) (rgV lo hi) := by
  unfold rgV
  have : ∀ l : List Nat, RepL L m F H (l.map fun (k : Nat) => D.int (lo + k)) (l.map fun i => V.int (lo + (i : Nat))) := fun l => by
    induction l with
    | nil => simp only [List.map_nil, RepL]
    | cons x l ih => simp only [List.map_cons, RepL, Rep]; exact ⟨trivial, ih⟩
  exact this _
theorem rgOk_of {lo hi : Int} {ds : List D} (h : rangeL lo hi = some ds) : RgOk lo hi := by
  obtain ⟨⟨h1, h2, h3, h4, h5⟩, _⟩ := rangeL_ok h
  unfold szMax at h1
  exact ⟨by omega, by omega, by omega, by omega, by omega⟩
theorem pe_lsRg1M (f : Fx C L o B X W) (hc : C.cold = true) {e : Expr} {p p2 p3 p4} (hg : glB C ("list" : Str) = true) (hg2 : glB C ("range" : Str) = true) (he : okE e = true) (ha : PE X e (tE L B W o a)) :
    PE X (.Call (.Name ("list" : Str) p) [.Call (.Name ("range" : Str) p3) [e] [] p4] [] p2) (tE L B W o (.lsI (.rg1 a))) := by
  obtain ⟨h1, h2, h3⟩ := f.gl hg
  obtain ⟨g1, g2, g3⟩ := f.gl hg2
  refine (pe_listRg (f.cold hc) h1 (f.blt _ lstNm) (prg_1 (p := p3) (pos := p4) g1 (f.blt _ rngNm) ha (okE_star he _ _)) rfl).imp fun σ H Q ⟨m, F, E, st, S, h⟩ => ?_
  rw [evE, evI, bind_assoc] at h
  refine tE.mono (fun x H1 ⟨m1, F1, st1, v, X1, X01, S1, r1, h1⟩ => ?_) (tE_bind Ext.refl S h)
  cases e : v.d with
  | int n =>
    rw [e] at h1
    cases e2 : rangeL 0 n with
    | none => simp only [e2] at h1; exact h1.elim
    | some ds =>
      simp only [e2] at h1
      have h2 : Post L B W m F H E σ (.ok (.new (.lst ds)) st1) Q := h1
      obtain ⟨h4, rfl⟩ := rangeL_ok e2
      exact ⟨n, r1.int S1 e, rgOk_of e2, fun q hq => (Post.res X01 S1 h2).n q _ hq ⟨_, rfl, rgV_rep, by rw [List.length_map, List.length_range]; exact h4.1⟩⟩
  | _ => rw [e] at h1; exact h1.elim
theorem pe_lsRg2M (f : Fx C L o B X W) (hc : C.cold = true) {e e' : Expr} {p p2 p3 p4} (hg : glB C ("list" : Str) = true) (hg2 : glB C ("range" : Str) = true) (he : okE e = true) (he' : okE e' = true) (ha : PE X e (tE L B W o a)) (hb : PE X e' (tE L B W o b)) :
    PE X (.Call (.Name ("list" : Str) p) [.Call (.Name ("range" : Str) p3) [e, e'] [] p4] [] p2) (tE L B W o (.lsI (.rg2 a b))) := by
  obtain ⟨h1, h2, h3⟩ := f.gl hg
  obtain ⟨g1, g2, g3⟩ := f.gl hg2
  refine (pe_listRg (f.cold hc) h1 (f.blt _ lstNm) (prg_2 (p := p3) (pos := p4) g1 (f.blt _ rngNm) ha hb (okE_star he _ _) (okE_star he' _ _) (allOk_any (by simp [he']))) rfl).imp fun σ H Q ⟨m, F, E, st, S, h⟩ => ?_
  rw [evE, evI, bind_assoc] at h
  refine tE.mono (fun x H1 ⟨m1, F1, st1, v, X1, X01, S1, r1, h1⟩ => ?_) (tE_bind Ext.refl S h)
  rw [bind_assoc] at h1
  refine tE.mono (fun y H2 ⟨m2, F2, st2, w, X2, X02, S2, r2, h2⟩ => ?_) (tE_bind X01 S1 h1)
  cases e : v.d with
  | int i =>
    cases e3 : w.d with
    | int j =>
      rw [e, e3] at h2
      cases e2 : rangeL i j with
      | none => simp only [e2] at h2; exact h2.elim
      | some ds =>
        simp only [e2] at h2
        have h2 : Post L B W m F H E σ (.ok (.new (.lst ds)) st2) Q := h2
        obtain ⟨h4, rfl⟩ := rangeL_ok e2
        exact ⟨i, j, (r1.ext X2).int S2 e, r2.int S2 e3, rgOk_of e2, fun q hq => (Post.res X02 S2 h2).n q _ hq ⟨_, rfl, rgV_rep, by rw [List.length_map, List.length_range]; exact h4.1⟩⟩
    | _ => rw [e, e3] at h2; exact h2.elim
  | _ => rw [e] at h2; exact h2.elim

/-! a container that is being made -/
theorem Ext.updFree {p : Addr} {u : HO} (X1 : Ext m0 F0 H0 m F H) (h0 : H0 p = none) (nf : ¬ F p) : Ext m0 F0 H0 m F (upd H p u) := by
  refine ⟨X1.mp, X1.fm, X1.fn, fun a o e h1 h2 => ?_, fun a fa o e => ?_, fun a e => ?_⟩
  · rw [upd_ne (fun z => by rw [z, h0] at e; cases e)]
    exact X1.kp a o e h1 h2
  · have ne : a ≠ p := fun z => by subst z; exact nf (X1.fm _ fa)
    rw [upd_ne ne]
    exact X1.st a fa o e
  · by_cases ne : a = p
    · subst ne; exact h0
    · rw [upd_ne ne] at e; exact X1.tr a e
theorem Mono.updFree {p : Addr} {u : HO} (nf : ¬ F p) : Mono m F H m F (upd H p u) := ⟨fun _ _ h => h, fun _ h => h, fun a fa o e => by
  have ne : a ≠ p := fun z => by subst z; exact nf fa
  rw [upd_ne ne]; exact .inl e⟩
theorem Sim.updFree {p : Addr} {u : HO} (S : Sim L B m F E st σ H) (nf : ¬ F p) (nm : p ∉ m) (no : ∀ i, ¬ OwnAt E σ i p) (hb : B.H p = none) : Sim L B m F E st σ (upd H p u) := by
  have M : Mono m F H m F (upd H p u) := Mono.updFree nf
  have kp : ∀ a o, a ≠ p → H a = some o → upd H p u a = some o := fun a o ne e => by rw [upd_ne ne]; exact e
  refine ⟨⟨fun n d e => ?_, S.wd.ln, S.wd.nd, fun a fa => ⟨fun z => ?_, (S.wd.ft a fa).2⟩⟩, S.ex.updFree hb nf, fun i v e => ?_, S.ln, S.ij⟩
  · obtain ⟨a, e1, r⟩ := S.wd.ce n d e
    exact ⟨a, e1, r.mono M fun o q => kp a o (fun z => nm (z ▸ List.mem_of_getElem? e1)) q⟩
  · have ne : a ≠ p := fun z => by subst z; exact nf fa
    rw [upd_ne ne] at z
    exact (S.wd.ft a fa).1 z
  · obtain ⟨x, e1, r⟩ := S.sl i v e
    refine ⟨x, e1, ?_⟩
    cases v with
    | dat d => exact Rep.mono M _ _ r
    | new d =>
      obtain ⟨a, rfl, r, nf1, nm1, n0⟩ := r
      exact ⟨a, rfl, r.mono M fun o q => kp a o (fun z => no i (by subst z; exact ⟨⟨d, e⟩, e1⟩)) q, nf1, nm1, n0⟩
    | bor d => exact r
    | xv c fs => obtain ⟨q, e, e2, e3, r⟩ := r; exact ⟨q, e, e2, e3, r.mono M⟩
mutual
theorem patA_sl : ∀ {p : Pat} {d : D} {l}, patA p d = some l → l.map (·.1) = patSl p
  | .v i, d, l, h => by simp only [patA, Option.some.injEq] at h; subst h; rfl
  | .t ps, d, l, h => by
    unfold patA at h
    split at h
    · simp only [patSl]; exact patAL_sl h
    · cases h
theorem patAL_sl : ∀ {ps : List Pat} {ds : List D} {l}, patAL ps ds = some l → l.map (·.1) = patSl.patSlL ps
  | [], [], l, h => by simp only [patAL, Option.some.injEq] at h; subst h; rfl
  | [], _ :: _, _, h => by simp [patAL] at h
  | _ :: _, [], _, h => by simp [patAL] at h
  | p :: ps, d :: ds, l, h => by
    simp only [patAL] at h
    cases e1 : patA p d with
    | none => rw [e1] at h; cases h
    | some a =>
      cases e2 : patAL ps ds with
      | none => rw [e1, e2] at h; cases h
      | some b =>
        rw [e1, e2] at h
        cases h
        simp only [patSl.patSlL, List.map_append, patA_sl e1, patAL_sl e2]
end
theorem wipe_get {σ : L2.St} : ∀ {vs : List Nat} {i : Nat}, i ∉ vs → (wipe σ vs)[i]? = σ[i]?
  | [], _, _ => rfl
  | v :: vs, i, h => by
    unfold wipe
    rw [List.mem_cons, not_or] at h
    rw [List.getElem?_set_ne (Ne.symm h.1), wipe_get h.2]
theorem wipe_in {σ : L2.St} : ∀ {vs : List Nat} {i : Nat}, i ∈ vs → i < σ.length → (wipe σ vs)[i]? = some none
  | v :: vs, i, h, hl => by
    unfold wipe
    by_cases e : i = v
    · subst e
      rw [List.getElem?_set_self (by rw [wipe_length]; exact hl)]
    · rw [List.getElem?_set_ne (Ne.symm e)]
      exact wipe_in (by simpa [e] using h) hl
theorem wipe_eq {σ τ : L2.St} {vs : List Nat} (hl : σ.length = τ.length) (h : ∀ i, i ∉ vs → σ[i]? = τ[i]?) : wipe σ vs = wipe τ vs := by
  refine List.ext_getElem? fun i => ?_
  by_cases hi : i ∈ vs
  · by_cases hz : i < σ.length
    · rw [wipe_in hi hz, wipe_in hi (by rw [← hl]; exact hz)]
    · rw [List.getElem?_eq_none (by rw [wipe_length]; omega), List.getElem?_eq_none (by rw [wipe_length]; omega)]
  · rw [wipe_get hi, wipe_get hi, h i hi]
theorem setV_len : ∀ (vl : List (Nat × V)) (σ : L2.St), (setV vl σ).length = σ.length
  | [], _ => rfl
  | (_, _) :: r, σ => by simp only [setV]; rw [setV_len r]; simp
theorem setV_get : ∀ (vl : List (Nat × V)) (σ : L2.St) (i : Nat), i ∉ vl.map (·.1) → (setV vl σ)[i]? = σ[i]?
  | [], _, _, _ => rfl
  | (j, v) :: r, σ, i, h => by
    simp only [setV, List.map_cons, List.mem_cons, not_or] at h ⊢
    rw [setV_get r _ i h.2, List.getElem?_set_ne (Ne.symm h.1)]
theorem PairA.sl : ∀ {l : List (Nat × D)} {vl : List (Nat × V)}, PairA L m F H l vl → vl.map (·.1) = l.map (·.1)
  | [], [], _ => rfl
  | (i, d) :: l, (j, v) :: vl, h => by simp only [List.map_cons]; rw [h.1, PairA.sl h.2.2]
  | [], _ :: _, h => h.elim
  | _ :: _, [], h => h.elim
end
end Mp

end
section
set_option Elab.async false
set_option linter.all false
set_option maxRecDepth 100000
set_option maxHeartbeats 4000000
/-! S17: comprehensions. -/
namespace Mp
open PySem PySem.Spec PyProof.Rows L2
def wNo : WX := fun _ _ _ _ => False
/-- a clause's test by the evaluator -/
def PostT (L : Lk) (B : Bs) (m : List Addr) (F : Addr → Prop) (H : Hp) (E : Env) (σ : L2.St) (r : ER Val) (Q : Bool → Hp → Prop) : Prop :=
  match r with
  | .ok v st => ∀ m' F' H', Ext m F H m' F' H' → Sim L B m' F' E st σ H' → ∃ t, v = .dat (.bl t) ∧ Q t H'
  | _ => False
section
variable {C : CC} {L : Lk} {B : Bs} {W : WX} {o : Orc} {X : Cx} {m m0 m1 m2 m' : List Addr} {F F0 F1 F2 F' : Addr → Prop} {H H0 H1 H2 H' : Hp} {E : Env} {st st' st0 st1 : Sto} {σ : L2.St} {Q : V → Hp → Prop} {R : It → Hp → Prop} {me a b c : ME} {es : List ME} {k : Bool}
/-- the state of a comprehension at turn i -/
def LcI (L : Lk) (B : Bs) (W : WX) (o : Orc) (a : ME) (cf : Env → Sto → ER Val) (p : Pat) (m0 : List Addr) (F0 : Addr → Prop) (H0 : Hp) (m1 : List Addr) (F1 : Addr → Prop) (H1 : Hp) (E : Env) (σ : L2.St) (Q : V → Hp → Prop) (ds : List D) (D : Addr) (i : Nat) (H2 : Hp) : Prop :=
  ∃ m2 F2 st2 acc accd, Ext m1 F1 H1 m2 F2 H2 ∧ Sim L B m2 F2 E st2 σ H2 ∧ H2 D = some (.lst acc) ∧ RepL L m2 F2 H2 accd acc ∧ D ∉ m2 ∧ ¬ F2 D ∧ accd.length ≤ i ∧ i ≤ ds.length ∧
    Post L B W m0 F0 H0 E σ ((compL (fun E' st' => evE o a E' st') cf p E (ds.drop i) st2 accd.reverse).bind fun l st => .ok (.new (.lst l)) st) Q
theorem Sim.noown {p : Addr} (S : Sim L B m F E st σ H) (hp : H p = none) : ∀ i, ¬ OwnAt E σ i p := fun i q => S.ownThere q hp
theorem lc_R {cf : Env → Sto → ER Val} {p : Pat} {J : It} {ds : List D} {tt : TT} (eK : L.K = X.K) (X01 : Ext m0 F0 H0 m1 F1 H1) (S1 : Sim L B m1 F1 E st1 σ H1) (hJ : ItOk L m1 F1 H1 (OwnS false E σ) J ds)
    (h : Post L B W m0 F0 H0 E σ ((compL (fun E' st' => evE o a E' st') cf p E ds st1 []).bind fun l st => .ok (.new (.lst l)) st) Q)
    (ht : ∀ m F H E' st σ2 (Q' : Bool → Hp → Prop), Sim L B m F E' st σ2 H → PostT L B m F H E' σ2 (cf E' st).nox Q' → tt σ2 H Q') (D : Addr) (hD : H1 D = none) :
    ∃ W' : Nat → Nat → Hp → Prop, (∃ m, W' 0 m (upd H1 D (.lst []))) ∧ ∀ i m H, W' i m H →
      (J.stop i H ∧ Q (.ref D) H) ∨ (J.go i H ∧ ∃ Nx : Hp → Prop, (∀ H', Nx H' → ∃ m', m' < m ∧ W' (i + 1) m' H') ∧ ∀ x H', J.yld i H x H' → tgP X.K p x (wipe σ (patSl p)) H' fun σ2 H2 => wipe σ2 (patSl p) = wipe σ (patSl p) ∧ tt σ2 H2 fun b H3 =>
        if b = true then tE L B wNo o a σ2 H3 fun y H4 => ∃ acc, H4 D = some (.lst acc) ∧ acc.length < sizeLine ∧ Nx (upd H4 D (.lst (acc ++ [y]))) else Nx H3) := by
  have no1 := S1.noown hD
  have nB : B.H D = none := S1.ex.tr D hD
  refine ⟨fun i k H => k = ds.length - i ∧ LcI L B W o a cf p m0 F0 H0 m1 F1 H1 E σ Q ds D i H, ⟨_, rfl, m1, F1, st1, [], [], Ext.fresh hD, S1.fresh hD, upd_same, by simp only [RepL], S1.notcell hD, fun z => (S1.wd.ft D z).1 hD, Nat.le_refl _, Nat.zero_le _, h⟩, ?_⟩
  rintro i k H2 ⟨rfl, m2, F2, st2, acc, accd, X2, S2, eD, rA, nm2, nf2, hl, hi, hp⟩
  have hO : ∀ a, OwnS false E σ a → ∀ o, H1 a = some o → H2 a = some o := fun a' ⟨_, j, ⟨d, e1⟩, e2⟩ ob eo => by
    obtain ⟨y, e3, q, rfl, r, nf, nm, n0⟩ := S1.sl j _ e1
    rw [e2] at e3; cases e3
    exact X2.kp _ ob eo nm nf
  have X02 := X01.trans X2
  by_cases hlt : i < ds.length
  · have ei : ds[i]? = some ds[i] := List.getElem?_eq_some_iff.mpr ⟨hlt, rfl⟩
    obtain ⟨g1, g2⟩ := hJ.go i _ ei m2 F2 H2 X2.mono hO
    refine .inr ⟨g1, LcI L B W o a cf p m0 F0 H0 m1 F1 H1 E σ Q ds D (i + 1), fun H' z => ⟨ds.length - (i + 1), by omega, rfl, z⟩, fun x H' hy => ?_⟩
    rw [List.drop_eq_getElem_cons hlt, compL] at hp
    cases hpf : patF p ds[i] E with
    | none => simp only [hpf] at hp; exact hp.elim
    | some E' =>
      simp only [hpf] at hp
      obtain ⟨l, hpa, hsl⟩ : ∃ l, patA p ds[i] = some l ∧ setL l E = some E' := by
        unfold patF at hpf
        cases e : patA p ds[i] with
        | none => rw [e] at hpf; cases hpf
        | some l => rw [e] at hpf; exact ⟨l, rfl, hpf⟩
      -- the item
      obtain ⟨F3, X3, S3, r3, eD3, nf3⟩ : ∃ F3, Ext m2 F2 H2 m2 F3 H' ∧ Sim L B m2 F3 E st2 σ H' ∧ Rep L m2 F3 H' ds[i] x ∧ H' D = some (.lst acc) ∧ ¬ F3 D := by
        rcases g2 x H' hy with ⟨rfl, r⟩ | ⟨q, es, vs, hq, rfl, rfl, ed, r, z⟩
        · exact ⟨F2, Ext.refl, S2, r, eD, nf2⟩
        · have hne : D ≠ q := fun z => by rw [z, hq] at eD; cases eD
          have Sf := S2.fresh (u := .tup vs) hq
          refine ⟨Fp F2 q, (Ext.fresh hq).keep hq, Sf.keep (by rw [upd_same]; exact fun z => nomatch z) (S2.notcell hq) (S2.noown hq) (S2.ex.tr q hq), ?_, by rw [upd_ne hne]; exact eD, fun w => w.elim nf2 hne⟩
          rw [ed]
          simp only [Rep]
          have Y : Ext m2 F2 H2 m2 (Fp F2 q) (upd H2 q (.tup vs)) := (Ext.fresh hq).keep hq
          exact ⟨q, vs, rfl, .inl ⟨.inr rfl, .inl upd_same⟩, RepL.mono Y.mono _ _ r, z⟩
      refine ⟨L, m2, F3, ds[i], l, eK, r3, hpa, fun vl hvl => ?_⟩
      have esl : vl.map (·.1) = patSl p := by rw [hvl.sl, patA_sl hpa]
      have S4 : Sim L B m2 F3 E' st2 (setV vl (wipe σ (patSl p))) H' := S3.pat hvl hsl (wipe_length _ _) fun j hj => by
        rw [patA_sl hpa] at hj
        exact wipe_get hj
      refine ⟨wipe_eq (by rw [setV_len, wipe_length]) fun j hj => by rw [setV_get _ _ _ (by rw [esl]; exact hj), wipe_get hj], ht _ _ _ _ _ _ _ S4 ?_⟩
      cases hcf : cf E' st2 with
      | bad => rw [hcf] at hp; exact hp.elim
      | ex xc s => rw [hcf] at hp; exact hp.elim
      | ok v st3 =>
        rw [hcf] at hp
        intro m4 F4 H4 X4 S5
        have hp : Post L B W m0 F0 H0 E σ ((ifV v ((evE o a E' st3).nox.bind fun v st2 => (ER.opt v.kp st2).bind fun r st3 => compL (fun E' st' => evE o a E' st') cf p E (ds.drop (i + 1)) st3 (r :: accd.reverse)) (compL (fun E' st' => evE o a E' st') cf p E (ds.drop (i + 1)) st3 accd.reverse) .bad).bind fun l st => .ok (.new (.lst l)) st) Q := hp
        obtain ⟨t, rfl⟩ : ∃ t, v = .dat (.bl t) := by
          unfold ifV at hp
          split at hp
          · exact ⟨_, rfl⟩
          · exact hp.elim
        refine ⟨t, rfl, ?_⟩
        obtain ⟨k4, nf4, nm4⟩ := X4.own (by rw [eD3]; exact fun z => nomatch z) nm2 nf3
        have eD4 := k4 _ eD3
        have X24 := X3.trans X4
        cases t with
        | false =>
          have hp : Post L B W m0 F0 H0 E σ ((compL (fun E' st' => evE o a E' st') cf p E (ds.drop (i + 1)) st3 accd.reverse).bind fun l st => .ok (.new (.lst l)) st) Q := hp
          exact ⟨m4, F4, st3, acc, accd, X2.trans X24, (S2.call X24 S5.wd), eD4, RepL.mono X24.mono _ _ rA, nm4, nf4, by omega, hlt, hp⟩
        | true =>
          have hp : Post L B W m0 F0 H0 E σ (((evE o a E' st3).nox.bind fun v st2 => (ER.opt v.kp st2).bind fun r st3 => compL (fun E' st' => evE o a E' st') cf p E (ds.drop (i + 1)) st3 (r :: accd.reverse)).bind fun l st => .ok (.new (.lst l)) st) Q := hp
          refine ⟨m4, F4, E', st3, S5, ?_⟩
          cases hev : evE o a E' st3 with
          | bad => rw [hev] at hp; exact hp.elim
          | ex xc s => rw [hev] at hp; exact hp.elim
          | ok w st5 =>
            rw [hev] at hp
            intro m5 F5 y H5 X5 S6 r5
            cases hk : w.kp with
            | none => simp only [ER.nox, ER.bind, hk, ER.opt] at hp; exact hp.elim
            | some r =>
              simp only [ER.nox, ER.bind, hk, ER.opt] at hp
              obtain ⟨F6, X6, S7, r6, _⟩ := VRep.kept X5 S5.beg S6 r5 hk
              obtain ⟨k6, nf6, nm6⟩ := X6.own (by rw [eD4]; exact fun z => nomatch z) nm4 nf4
              have eD6 := k6 _ eD4
              have hlen := rA.len
              have hbig := hJ.len
              refine ⟨acc, eD6, szLt (by omega), m5, F6, st5, acc ++ [y], accd ++ [r], ((X2.trans X24).trans X6).updFree hD nf6, (S2.call (X24.trans X6) S7.wd).updFree nf6 nm6 no1 nB, upd_same, ?_, nm6, nf6, by simp; omega, hlt, by rw [List.reverse_append]; exact hp⟩
              have M7 : Mono m5 F6 H5 m5 F6 (upd H5 D (.lst (acc ++ [y]))) := Mono.updFree nf6
              exact RepL.mono M7 _ _ ((RepL.mono (X24.trans X6).mono _ _ rA).append (by simp only [RepL]; exact ⟨r6, trivial⟩))
  · have e : i = ds.length := by omega
    subst e
    refine .inl ⟨hJ.stop m2 F2 H2 X2.mono hO, ?_⟩
    rw [List.drop_eq_nil_of_le (Nat.le_refl _), compL] at hp
    have hp : Post L B W m0 F0 H0 E σ (.ok (.new (.lst accd.reverse.reverse)) st2) Q := hp
    rw [List.reverse_reverse] at hp
    refine hp m2 F2 _ H2 X02 S2 ⟨D, rfl, ?_, nf2, nm2, X01.tr D hD⟩
    simp only [ORep]
    exact ⟨acc, eD, rA, Nat.le_trans hl hJ.len⟩
theorem own_sl {N : List Str} (l : List Nat) : ((l.map fun i => (N.getD i "", i)).map (·.2)) = l := by
  rw [List.map_map]; exact (List.map_congr_left fun _ _ => rfl).trans (List.map_id l)
theorem fold_ok {e : Expr} {env : PySem.Env} (h : ∀ l k p, e ≠ .Set l k p) (x : Value) : foldedSetIterable e env x = pure x := by
  cases e <;> first | rfl | exact absurd rfl (h _ _ _)
theorem lc_tI {cf : Env → Sto → ER Val} {it : MI} {p : Pat} {tt : TT} (eK : L.K = X.K) (ht : ∀ m F H E' st σ2 (Q' : Bool → Hp → Prop), Sim L B m F E' st σ2 H → PostT L B m F H E' σ2 (cf E' st).nox Q' → tt σ2 H Q')
    (h : ∃ m F E st, Sim L B m F E st σ H ∧ Post L B W m F H E σ ((evI o false it E st).bind fun ds st1 => (compL (fun E' st' => evE o a E' st') cf p E ds st1 []).bind fun l st2 => .ok (.new (.lst l)) st2) Q) :
    tLc (tI L B W o false it) (tgP X.K p) tt (tE L B wNo o a) (patSl p) σ H Q := by
  obtain ⟨m, F, E, st, S, h⟩ := h
  refine ⟨m, F, E, st, S, ?_⟩
  cases e : evI o false it E st with
  | bad => rw [e] at h; exact h.elim
  | ex xc s => rw [e] at h; exact h
  | ok ds st1 =>
    rw [e] at h
    intro m1 F1 J H1 X1 S1 hJ D hD
    exact lc_R eK X1 S1 hJ h ht D hD
theorem PI.imp {tg iter : Expr} {t t' : TI} (h : PI X tg iter t) (q : ∀ σ H R, t' σ H R → t σ H R) : PI X tg iter t' := ⟨fun pins s σ H R I z => h.run pins s σ H R I (q _ _ _ z)⟩
/-- [e for p in it] -/
theorem pe_lcM (f : Fx C L o B X W) (hc : C.cold = true) {x tg iter : Expr} {scope : Scope} {pos : Pos} {it : MI} {p : Pat} (hi : PI X tg iter (tI L B W o false it)) (hs : ∀ l k p, iter ≠ .Set l k p)
    (hb : blkC C.N C.sc scope ((patSl p).map fun i => (C.N.getD i "", i)) = true) (hp : mtP (C.blk scope) p tg = true) (he : ∀ X', Fx (C.blk scope) L o B X' wNo → PE X' x (tE L B wNo o a)) :
    PE X (.ListComp x [⟨tg, iter, [], 0⟩] scope pos) (tE L B W o (.lc a p it)) := by
  have ok := blkOk_by (N := X.N) (sc := X.env.scope) (by rw [f.N, f.sc]; exact hb)
  have z := pe_lc (X := X) (pos := pos) (f.cold hc) (by rw [f.N]; exact f.nd) hi ok (g := tgP X.K p) (tt := tYes) (te := tE L B wNo o a) (fun s H a' cl fp => by
      have fb := f.blk hc s H scope cl a' fp
      exact pgM (X := X.blk s H scope (compEnvC scope cl a' X.env) fp) ⟨fb.N, fb.nd, fb.sc, fb.fl, f.cold hc⟩ hp) (fun s H a' cl fp => pts_nil) (fun s H a' cl fp => he _ (f.blk hc s H scope cl a' fp)) (fold_ok hs)
  rw [own_sl] at z
  refine z.imp fun σ H Q ⟨m, F, E, st, S, h⟩ => lc_tI (cf := fun _ st' => .ok (.dat (.bl true)) st') f.K (fun m F H E' st σ2 Q' S' hq => ?_) ⟨m, F, E, st, S, by rw [evE] at h; exact h⟩
  obtain ⟨t, e, q⟩ := hq m F H Ext.refl S'
  cases e
  exact q
/-- [e for p in it if c] -/
theorem pe_lcfM (f : Fx C L o B X W) (hc : C.cold = true) {x y tg iter : Expr} {scope : Scope} {pos : Pos} {it : MI} {p : Pat} (hi : PI X tg iter (tI L B W o false it)) (hs : ∀ l k p, iter ≠ .Set l k p)
    (hb : blkC C.N C.sc scope ((patSl p).map fun i => (C.N.getD i "", i)) = true) (hp : mtP (C.blk scope) p tg = true) (he : ∀ X', Fx (C.blk scope) L o B X' wNo → PE X' x (tE L B wNo o a)) (hy : ∀ X', Fx (C.blk scope) L o B X' wNo → PT X' y (tTest (tE L B wNo o c))) :
    PE X (.ListComp x [⟨tg, iter, [y], 0⟩] scope pos) (tE L B W o (.lcf a p it c)) := by
  have ok := blkOk_by (N := X.N) (sc := X.env.scope) (by rw [f.N, f.sc]; exact hb)
  have z := pe_lc (X := X) (pos := pos) (f.cold hc) (by rw [f.N]; exact f.nd) hi ok (g := tgP X.K p) (tt := tTest (tE L B wNo o c)) (te := tE L B wNo o a) (fun s H a' cl fp => by
      have fb := f.blk hc s H scope cl a' fp
      exact pgM (X := X.blk s H scope (compEnvC scope cl a' X.env) fp) ⟨fb.N, fb.nd, fb.sc, fb.fl, f.cold hc⟩ hp) (fun s H a' cl fp => pts_one (hy _ (f.blk hc s H scope cl a' fp))) (fun s H a' cl fp => he _ (f.blk hc s H scope cl a' fp)) (fold_ok hs)
  rw [own_sl] at z
  refine z.imp fun σ H Q ⟨m, F, E, st, S, h⟩ => lc_tI (cf := fun E' st' => evE o c E' st') f.K (fun m F H E' st σ2 Q' S' hq => ?_) ⟨m, F, E, st, S, by rw [evE] at h; exact h⟩
  refine ⟨m, F, E', st, S', ?_⟩
  cases e : evE o c E' st with
  | bad => rw [e] at hq; exact hq.elim
  | ex xc s => rw [e] at hq; exact hq.elim
  | ok v st2 =>
    rw [e] at hq
    intro m' F' x H' X1 S1 r1
    obtain ⟨t, rfl, q⟩ := hq m' F' H' X1 S1
    exact ⟨t, r1, q⟩
end
end Mp

end
section
set_option Elab.async false
set_option linter.all false
set_option maxRecDepth 100000
set_option maxHeartbeats 4000000
/-! S17r: repr. -/
namespace Mp
open PySem PySem.Spec PyProof.Rows L2
def rRep (K : PySem.W.Frag) : List V → Hp → VK → Prop := fun xs H Q => ∃ L m F d x, xs = [x] ∧ L.K = K ∧ Look L m F H d x ∧ repOk d = true ∧ Q (.str (toPD d).shown) H
mutual
theorem sh_show {L : Lk} {m : List Addr} {F : Addr → Prop} {H : Hp} : ∀ (d : D) (v : V) (n : Nat), pd d n = true → shO d = true → Rep L m F H d v → (toPD d).showable = true ∧ (toPD d).leavesShort 1921 = true ∧ (toPD d).weight = wt d
  | .non, v, n, _, _, _ => ⟨rfl, rfl, rfl⟩
  | .bl _, v, n, _, _, _ => ⟨rfl, rfl, rfl⟩
  | .int i, v, n, _, h, _ => by
    have h : i.natAbs.log2 < 1920 := of_decide_eq_true h
    refine ⟨decide_eq_true h, decide_eq_true (int_text_len_1921 h), rfl⟩
  | .str s, v, n, _, _, r => by
    simp only [Rep] at r
    refine ⟨rfl, ?_, by simp [toPD, PyData.weight, wt, strV]⟩
    simp only [toPD, PyData.leavesShort, strV]
    rw [List.all_eq_true]
    intro c hc
    have := r.2.2 c (by simpa using hc)
    exact decide_eq_true (by omega)
  | .tup xs, v, n, p, h, r => by
    cases n with
    | zero => simp [pd] at p
    | succ n =>
      simp only [Rep] at r
      obtain ⟨a, vs, _, _, rl, _⟩ := r
      simp only [pd] at p
      simp only [shO] at h
      obtain ⟨h1, h2, h3⟩ := sh_showL xs vs n p h rl
      exact ⟨h1, h2, h3⟩
  | .lst xs, v, n, p, h, r => by
    cases n with
    | zero => simp [pd] at p
    | succ n =>
      simp only [Rep] at r
      obtain ⟨a, vs, _, _, _, rl, _⟩ := r
      simp only [pd] at p
      simp only [shO] at h
      obtain ⟨h1, h2, h3⟩ := sh_showL xs vs n p h rl
      exact ⟨h1, h2, h3⟩
  | .dct _, _, _, p, _, _ => by simp [pd] at p
  | .set _, _, _, p, _, _ => by simp [pd] at p
  | .obj _ _, _, _, p, _, _ => by simp [pd] at p
  | .ref _, _, _, p, _, _ => by simp [pd] at p
  | .fn _, _, _, p, _, _ => by simp [pd] at p
  | .scr _, _, _, p, _, _ => by simp [pd] at p
  | .bad, _, _, p, _, _ => by simp [pd] at p
theorem sh_showL {L : Lk} {m : List Addr} {F : Addr → Prop} {H : Hp} : ∀ (ds : List D) (vs : List V) (n : Nat), pdL ds n = true → shOL ds = true → RepL L m F H ds vs → PyData.showableAll (toPDL ds) = true ∧ PyData.leavesShortAll 1921 (toPDL ds) = true ∧ PyData.weightAll (toPDL ds) = wtL ds
  | [], _, _, _, _, _ => ⟨rfl, rfl, rfl⟩
  | d :: ds, vs, n, p, h, r => by
    cases vs with
    | nil => simp only [RepL] at r
    | cons v vs =>
      simp only [RepL] at r
      simp only [pdL, Bool.and_eq_true] at p
      simp only [shOL, Bool.and_eq_true] at h
      obtain ⟨a1, a2, a3⟩ := sh_show d v n p.1 h.1 r.1
      obtain ⟨b1, b2, b3⟩ := sh_showL ds vs n p.2 h.2 r.2
      refine ⟨?_, ?_, ?_⟩
      · simp only [toPDL, PyData.showableAll, a1, b1, Bool.and_self]
      · simp only [toPDL, PyData.leavesShortAll, a2, b2, Bool.and_self]
      · simp only [toPDL, PyData.weightAll, wtL, a3, b3]
end
mutual
theorem same_pd : ∀ (a b : D), same a b = true → toPD a = toPD b
  | .non, b, h => by cases b <;> simp [same] at h; rfl
  | .bl x, b, h => by cases b <;> simp [same] at h; subst h; rfl
  | .int x, b, h => by cases b <;> simp [same] at h; subst h; rfl
  | .str x, b, h => by cases b <;> simp [same] at h; subst h; rfl
  | .tup xs, b, h => by cases b <;> simp [same] at h; simp only [toPD]; rw [sameL_pd _ _ h]
  | .lst xs, b, h => by cases b <;> simp [same] at h; simp only [toPD]; rw [sameL_pd _ _ h]
  | .dct _, b, h => by cases b <;> simp [same] at h
  | .set _, b, h => by cases b <;> simp [same] at h
  | .obj _ _, b, h => by cases b <;> simp [same] at h
  | .ref _, b, h => by cases b <;> simp [same] at h
  | .fn _, b, h => by cases b <;> simp [same] at h
  | .scr _, b, h => by cases b <;> simp [same] at h
  | .bad, b, h => by cases b <;> simp [same] at h
theorem sameL_pd : ∀ (a b : List D), sameL a b = true → toPDL a = toPDL b
  | [], b, h => by cases b <;> simp [sameL] at h; rfl
  | x :: xs, b, h => by
    cases b with
    | nil => simp [sameL] at h
    | cons y ys =>
      simp only [sameL, Bool.and_eq_true] at h
      simp only [toPDL, same_pd _ _ h.1, sameL_pd _ _ h.2]
end
section
variable {C : CC} {L : Lk} {B : Bs} {W : WX} {o : Orc} {X : Cx} {m m0 m1 m2 m' : List Addr} {F F0 F1 F2 F' : Addr → Prop} {H H0 H1 H2 H' : Hp} {E : Env} {st st' st0 st1 : Sto} {σ : L2.St} {Q : V → Hp → Prop} {a b c : ME}
theorem call_reprM (hu : X.A.units + 64 < cLine) (hg : X.A.guards = some []) : CallR X (.builtin "repr") (rRep X.K) := by
  intro pins s σ H xs us Q I rx h
  obtain ⟨L, m, F, d, x, rfl, eK, hl, hok, q⟩ := h
  unfold repOk at hok
  simp only [Bool.and_eq_true, decide_eq_true_eq] at hok
  obtain ⟨⟨p, hs⟩, hw⟩ := hok
  obtain ⟨u, rfl, ru⟩ := Vals.one rx
  have facts : (toPD d).showable = true ∧ (toPD d).leavesShort 1921 = true ∧ (toPD d).weight = wt d := by
    cases d with
    | lst xs =>
      obtain ⟨a, vs, _, _, rl, _⟩ := hl
      exact sh_showL xs vs 39 (by simpa [pd, pdMax] using p) (by simpa [shO] using hs) rl
    | dct _ => simp [pd] at p
    | set _ => simp [pd] at p
    | obj _ _ => simp [pd] at p
    | _ => exact sh_show (L := L) (m := m) (F := F) (H := H) _ x pdMax p hs hl
  obtain ⟨f1, f2, f3⟩ := facts
  have hsz : (toPD d).shown.length ≤ sizeLine := by
    have := PyData.shown_le 1921 (by decide) (toPD d) f2
    rw [f3] at this
    rw [sizeLine_eq]
    omega
  have dp : Dp X.K H x (toPD d) := eK ▸ dp_look p hl
  have isRef : ∀ a, x = .ref a → wpAny (model X.prog X.w) X.A (call (.builtin "repr") [u]) (EP X pins σ Q) X.xe s := fun a e => by
    subst e
    obtain rfl : u = Value.ref a := ru
    obtain ⟨as, rd⟩ := Dp.reads I (toPD d) (.ref a) (.ref a) dp rfl
    have hd := dep_of d pdMax p
    refine repr_of_reads' (h₀ := s.heap) rd f1 (PyData.noDict_hsm (PyData.hasDict_of_canLay _ (lay_look p hl))) hg (by unfold pdMax at hd; omega) (fun _ _ e => e) (fun h' u tk hk => ⟨.str _, H, I.kept (t' := tk) hk, ⟨_, rfl⟩, q⟩) hsz
  cases d with
  | non => cases (show x = .non from hl); cases ru; exact PySem.P.repr_of_none ⟨.str _, H, I.tok _, ⟨_, rfl⟩, q⟩
  | bl z => cases (show x = .bl z from hl); cases ru; exact PySem.P.repr_of_bool ⟨.str _, H, I.tok _, ⟨_, rfl⟩, q⟩
  | int z =>
    cases hl.int
    obtain ⟨t, rfl⟩ := ru
    exact PySem.P.repr_of_int (of_decide_eq_true hs) ⟨.str _, H, I.tok _, ⟨_, rfl⟩, q⟩
  | str z =>
    simp only [Look, Rep] at hl
    obtain ⟨rfl, _⟩ := hl
    obtain ⟨t, rfl⟩ := ru
    exact PySem.P.repr_of_str ⟨.str _, H, I.tok _, ⟨_, rfl⟩, q⟩ hsz
  | tup xs => simp only [Look, Rep] at hl; obtain ⟨a, _, e, _⟩ := hl; exact isRef a e
  | lst xs => obtain ⟨a, _, e, _⟩ := hl; exact isRef a e
  | _ => simp [pd] at p
theorem repNm : ("repr" : Str) ∈ bltN := by decide +kernel
theorem repBt : bootBuiltins ("repr" : Str) = some (.builtin "repr") := by first | rfl | kernel_rfl | with_unfolding_all rfl
theorem repOk_lb {d : D} (h : repOk d = true) : d ≠ .bad := by rintro rfl; simp [repOk, pd] at h
theorem neR_R (f : Fx C L o B X W) (h : tE L B W o (.neR a b) σ H Q) : tOp rNe (tCB (rRep X.K) (tCons (tE L B W o a) tNil)) (tCB (rRep X.K) (tCons (tE L B W o b) tNil)) σ H Q := by
  obtain ⟨m, F, E, st, S, h⟩ := h
  rw [evE] at h
  refine tE.mono (fun x H1 ⟨m1, F1, st1, v, X1, X01, S1, r1, h1⟩ => ?_) (tE_bind Ext.refl S h)
  by_cases hr : repOk v.d = true
  · rw [if_pos hr] at h1
    refine ⟨L, m1, F1, v.d, x, rfl, f.K, r1.lk S1 (repOk_lb hr), hr, ?_⟩
    refine tE.mono (fun y H2 ⟨m2, F2, st2, w, X2, X02, S2, r2, h2⟩ => ?_) (tE_bind X01 S1 h1)
    by_cases hr2 : (repOk w.d && same v.d w.d) = true
    · rw [if_pos hr2] at h2
      rw [Bool.and_eq_true] at hr2
      refine ⟨L, m2, F2, w.d, y, rfl, f.K, r2.lk S2 (repOk_lb hr2.1), hr2.1, rfl, ?_⟩
      rw [same_pd _ _ hr2.2, decide_eq_true rfl]
      exact Post.bl X02 S2 h2
    · rw [if_neg hr2] at h2; exact h2.elim
  · rw [if_neg hr] at h1; exact h1.elim
theorem pe_neRM (f : Fx C L o B X W) {y z : Expr} {p1 p2 p3 p4 p : Pos} (hg : glB C ("repr" : Str) = true) (hy : okE y = true) (hz : okE z = true) (ha : PE X y (tE L B W o a)) (hb : PE X z (tE L B W o b)) :
    PE X (.Compare (.Call (.Name ("repr" : Str) p1) [y] [] p2) [.NotEq] [.Call (.Name ("repr" : Str) p3) [z] [] p4] p) (tE L B W o (.neR a b)) ∧ PT X (.Compare (.Call (.Name ("repr" : Str) p1) [y] [] p2) [.NotEq] [.Call (.Name ("repr" : Str) p3) [z] [] p4] p) (tTest (tE L B W o (.neR a b))) := by
  obtain ⟨h1, h2, h3⟩ := f.gl hg
  have r := call_reprM (X := X) f.hu f.gd
  have e1 : PE X (.Call (.Name ("repr" : Str) p1) [y] [] p2) (tCB (rRep X.K) (tCons (tE L B W o a) tNil)) := pe_callB r h1 (f.blt _ repNm) repBt (pa_cons ha pa_nil (okE_star hy _ _)) h3 h2 (okE_star hy _ _) (allOk_any rfl)
  have e2 : PE X (.Call (.Name ("repr" : Str) p3) [z] [] p4) (tCB (rRep X.K) (tCons (tE L B W o b) tNil)) := pe_callB r h1 (f.blt _ repNm) repBt (pa_cons hb pa_nil (okE_star hz _ _)) h3 h2 (okE_star hz _ _) (allOk_any rfl)
  exact ⟨(pe_cmpR op_ne e1 e2 (okE_mark rfl)).imp fun σ H Q h => neR_R f h, (pt_cmpR op_ne e1 e2 (okE_mark rfl)).imp fun σ H Q h => neR_R f h⟩
end
end Mp

end
section
set_option Elab.async false
set_option linter.all false
set_option maxRecDepth 100000
set_option maxHeartbeats 4000000
/-! S18: every expression that the checker takes. -/
namespace Mp
open PySem PySem.Spec PyProof.Rows L2
theorem _root_.L2.PW.imp {X : Cx} {e : Expr} {t t' : TT} (h : PW X e t) (q : ∀ σ H Q, t' σ H Q → t σ H Q) : PW X e t' := ⟨fun wh pins s σ H Q I z => h.run wh pins s σ H Q I (q _ _ _ z)⟩
theorem pt_valM {X : Cx} {e : Expr} {t : TE} (h : PE X e t) (he : ∀ whole, isTrue e X.env whole = (do let v ← whole; standAt e.pos; holding [v] (truthy v))) : PT X e (tTest t) := pt_val h he
theorem pv {X : Cx} {e : Expr} {t : TE} (h : PE X e t) (he : ∀ whole, isTrue e X.env whole = (do let v ← whole; standAt e.pos; holding [v] (truthy v))) : PE X e t ∧ PT X e (tTest t) := ⟨h, pt_val h he⟩
theorem mtL_len {C : CC} : ∀ {ms : List ME} {es : List Expr}, mtL C ms es = true → ms.length = es.length ∧ es.all okE = true
  | [], [], _ => ⟨rfl, rfl⟩
  | [], _ :: _, h => by simp [mtL] at h
  | _ :: _, [], h => by simp [mtL] at h
  | m :: ms, e :: es, h => by
    simp only [mtL, Bool.and_eq_true] at h
    obtain ⟨h1, h2⟩ := mtL_len h.2
    exact ⟨by simp [h1], by simp [h.1.1, h2]⟩
/-- a row of expressions: as arguments, as and, or -/
structure SLs (X : Cx) (L : Lk) (B : Bs) (W : WX) (o : Orc) (ms : List ME) (es : List Expr) : Prop where
  pa : PA X es (tL L B W o ms)
  an : es.isEmpty = false → ∀ p, PE X (.BoolOp .And es p) (tAndM L B W o ms) ∧ PW X (.BoolOp .And es p) (tTest (tAndM L B W o ms))
  or : es.isEmpty = false → ∀ p, PE X (.BoolOp .Or es p) (tOrM L B W o ms) ∧ PW X (.BoolOp .Or es p) (tTest (tOrM L B W o ms))
def SE (me : ME) : Prop := ∀ (C : CC) (L : Lk) (B : Bs) (W : WX) (o : Orc) (X : Cx), Fx C L o B X W → ∀ (e : Expr), mtE C me e = true → PE X e (tE L B W o me) ∧ PT X e (tTest (tE L B W o me))
def SL (ms : List ME) : Prop := ∀ (C : CC) (L : Lk) (B : Bs) (W : WX) (o : Orc) (X : Cx), Fx C L o B X W → ∀ (es : List Expr), mtL C ms es = true → SLs X L B W o ms es
def SI (it : MI) : Prop := ∀ (C : CC) (L : Lk) (B : Bs) (W : WX) (o : Orc) (X : Cx), Fx C L o B X W → ∀ (e : Expr), mtI C it e = true → (∀ tg k, PI X tg e (tI L B W o k it)) ∧ (∀ l k p, e ≠ .Set l k p)
section
variable {C : CC} {L : Lk} {B : Bs} {W : WX} {o : Orc} {X : Cx}
theorem sNil : SL [] := by
  intro C L B W o X f es h
  cases es with
  | nil => exact ⟨pa_nil.imp (fun _ _ _ h => tL_nil h), (fun z => absurd z (by decide)), (fun z => absurd z (by decide))⟩
  | cons => simp [mtL] at h
theorem evAnd_ne {o : Orc} {E : Env} {st : Sto} : evAnd o [] E st = .bad := by rw [evAnd]
theorem sCons {m : ME} {ms : List ME} (h1 : SE m) (h2 : SL ms) : SL (m :: ms) := by
  intro C L B W o X f es h
  cases es with
  | nil => simp [mtL] at h
  | cons e es =>
    simp only [mtL, Bool.and_eq_true] at h
    obtain ⟨pe, pt⟩ := h1 _ _ _ _ _ _ f _ h.1.2
    have r := h2 _ _ _ _ _ _ f _ h.2
    obtain ⟨hl, _⟩ := mtL_len h.2
    refine ⟨(pa_cons pe r.pa (okE_star h.1.1 _ _)).imp fun _ _ _ h => tL_cons h, fun _ p => ?_, fun _ p => ?_⟩
    · cases es with
      | nil =>
        obtain rfl : ms = [] := by simpa using hl
        exact ⟨(pe_one pe).imp fun _ _ _ h => tAnd1 h, (pw_and1 pt).imp fun _ _ _ h => tAnd1 h⟩
      | cons e2 es =>
        obtain ⟨m2, ms, rfl⟩ : ∃ m2 ms', ms = m2 :: ms' := by cases ms with | nil => simp at hl | cons a b => exact ⟨a, b, rfl⟩
        obtain ⟨q1, q2⟩ := r.an rfl p
        refine ⟨(pe_and pe q1).imp fun _ _ _ h => tAnd2 h, (pw_and pt q2).imp fun σ H Q h => ?_⟩
        refine tE.mono (fun x H1 ⟨c, e, q⟩ => ⟨c, e, ?_⟩) (tAnd2 h)
        cases c with
        | true => exact q
        | false =>
          obtain ⟨k, ek, q⟩ := (show ∃ k, V.bl false = .bl k ∧ Q k H1 from q)
          cases ek
          exact q
    · cases es with
      | nil =>
        obtain rfl : ms = [] := by simpa using hl
        exact ⟨(pe_one pe).imp fun _ _ _ h => tOr1 h, (pw_or1 pt).imp fun _ _ _ h => tOr1 h⟩
      | cons e2 es =>
        obtain ⟨m2, ms, rfl⟩ : ∃ m2 ms', ms = m2 :: ms' := by cases ms with | nil => simp at hl | cons a b => exact ⟨a, b, rfl⟩
        obtain ⟨q1, q2⟩ := r.or rfl p
        refine ⟨(pe_or pe q1).imp fun _ _ _ h => tOr2 h, (pw_or pt q2).imp fun σ H Q h => ?_⟩
        refine tE.mono (fun x H1 ⟨c, e, q⟩ => ⟨c, e, ?_⟩) (tOr2 h)
        cases c with
        | false => exact q
        | true =>
          obtain ⟨k, ek, q⟩ := (show ∃ k, V.bl true = .bl k ∧ Q k H1 from q)
          cases ek
          exact q
theorem pt_ifeM {c a b : ME} {x y w : Expr} {p} (hc : PT X x (tTest (tE L B W o c))) (ha : PT X y (tTest (tE L B W o a))) (hb : PT X w (tTest (tE L B W o b))) : PT X (.IfExp x y w p) (tTest (tE L B W o (.ife c a b))) := by
  refine ⟨fun pins s σ H Q I ⟨m, F, E, st, S, h⟩ => ?_⟩
  rw [evE] at h
  have hc' := hc.run pins s σ H (fun t H1 => if t = true then tTest (tE L B W o a) σ H1 Q else tTest (tE L B W o b) σ H1 Q) I (tE.mono (fun x H1 ⟨m1, F1, st1, v, X1, X01, S1, r1, h1⟩ => by
    obtain ⟨t, rfl, h2⟩ := Post.ifV h1
    refine ⟨t, r1.bl, ?_⟩
    cases t with
    | true => exact ⟨m1, F1, E, st1, S1, Post.at X01 h2⟩
    | false => exact ⟨m1, F1, E, st1, S1, Post.at X01 h2⟩) (tE_bind Ext.refl S h))
  refine isTrue_IfExp (thn hc' fun d s1 ⟨H1, I1, q1⟩ => ?_)
  cases d with
  | true => exact ha.run pins s1 σ H1 Q I1 q1
  | false => exact hb.run pins s1 σ H1 Q I1 q1
end
mutual
theorem sE : ∀ me : ME, SE me
  | .non => by
    intro C L B W o X f e h
    unfold mtE at h
    split at h
    · exact ⟨pe_nonM, pt_valM pe_nonM fun _ => rfl⟩
    · cases h
  | .bl b => by
    intro C L B W o X f e h
    unfold mtE at h
    split at h
    · obtain rfl := (beq_iff_eq.mp h)
      exact ⟨pe_blM, pt_valM pe_blM fun _ => rfl⟩
    · cases h
  | .int i => by
    intro C L B W o X f e h
    unfold mtE at h
    split at h
    · obtain rfl := of_decide_eq_true h
      exact ⟨pe_intM, pt_valM pe_intM fun _ => rfl⟩
    · cases h
  | .str s => by
    intro C L B W o X f e h
    unfold mtE at h
    split at h
    · simp only [Bool.and_eq_true, decide_eq_true_eq, List.all_eq_true] at h
      obtain ⟨⟨rfl, h1⟩, h2⟩ := h
      exact ⟨pe_strM h1 h2, pt_valM (pe_strM h1 h2) fun _ => rfl⟩
    · cases h
  | .var i => by
    intro C L B W o X f e h
    unfold mtE at h
    split at h
    · exact ⟨pe_varM f h, pt_valM (pe_varM f h) fun _ => rfl⟩
    · cases h
  | .bin op a b => by
    intro C L B W o X f e h
    unfold mtE at h
    split at h
    · simp only [Bool.and_eq_true, decide_eq_true_eq] at h
      obtain ⟨⟨rfl, h1⟩, h2⟩ := h
      exact pv (pe_binM (op := op) f (sE a _ _ _ _ _ _ f _ h1).1 (sE b _ _ _ _ _ _ f _ h2).1) fun _ => rfl
    · cases h
  | .neg a => by
    intro C L B W o X f e h
    unfold mtE at h
    split at h
    · simp only [Bool.and_eq_true, decide_eq_true_eq] at h
      obtain ⟨rfl, h1⟩ := h
      exact pv (pe_negM (sE a _ _ _ _ _ _ f _ h1).1) fun _ => rfl
    · cases h
  | .cmp op a b => by
    intro C L B W o X f e h
    unfold mtE at h
    split at h
    · simp only [Bool.and_eq_true, decide_eq_true_eq] at h
      obtain ⟨⟨⟨rfl, h0⟩, h1⟩, h2⟩ := h
      exact ⟨pe_cmpM f (sE a _ _ _ _ _ _ f _ h1).1 (sE b _ _ _ _ _ _ f _ h2).1 h0, pt_cmpM f (sE a _ _ _ _ _ _ f _ h1).1 (sE b _ _ _ _ _ _ f _ h2).1 h0⟩
    · cases h
  | .isN a => by
    intro C L B W o X f e h
    unfold mtE at h
    split at h
    · simp only [Bool.and_eq_true, decide_eq_true_eq] at h
      obtain ⟨rfl, h1⟩ := h
      exact ⟨pe_isNM (sE a _ _ _ _ _ _ f _ h1).1, pt_isNM (sE a _ _ _ _ _ _ f _ h1).1⟩
    · cases h
  | .notN a => by
    intro C L B W o X f e h
    unfold mtE at h
    split at h
    · simp only [Bool.and_eq_true, decide_eq_true_eq] at h
      obtain ⟨rfl, h1⟩ := h
      exact ⟨pe_notNM (sE a _ _ _ _ _ _ f _ h1).1, pt_notNM (sE a _ _ _ _ _ _ f _ h1).1⟩
    · cases h
  | .and es => by
    intro C L B W o X f e h
    unfold mtE at h
    split at h
    · simp only [Bool.and_eq_true, decide_eq_true_eq, Bool.not_eq_true'] at h
      obtain ⟨⟨rfl, h0⟩, h1⟩ := h
      obtain ⟨z1, z2⟩ := (sL es _ _ _ _ _ _ f _ h1).an h0 ‹_›
      exact ⟨z1.imp fun σ H Q ⟨m, F, E, st, S, h⟩ => ⟨m, F, E, st, S, by rw [evE] at h; exact h⟩, z2.pt.imp fun σ H Q ⟨m, F, E, st, S, h⟩ => ⟨m, F, E, st, S, by rw [evE] at h; exact h⟩⟩
    · cases h
  | .or es => by
    intro C L B W o X f e h
    unfold mtE at h
    split at h
    · simp only [Bool.and_eq_true, decide_eq_true_eq, Bool.not_eq_true'] at h
      obtain ⟨⟨rfl, h0⟩, h1⟩ := h
      obtain ⟨z1, z2⟩ := (sL es _ _ _ _ _ _ f _ h1).or h0 ‹_›
      exact ⟨z1.imp fun σ H Q ⟨m, F, E, st, S, h⟩ => ⟨m, F, E, st, S, by rw [evE] at h; exact h⟩, z2.pt.imp fun σ H Q ⟨m, F, E, st, S, h⟩ => ⟨m, F, E, st, S, by rw [evE] at h; exact h⟩⟩
    · cases h
  | .not a => by
    intro C L B W o X f e h
    unfold mtE at h
    split at h
    · simp only [Bool.and_eq_true, decide_eq_true_eq] at h
      obtain ⟨rfl, h1⟩ := h
      exact ⟨pe_notM (sE a _ _ _ _ _ _ f _ h1).1, pt_notM (sE a _ _ _ _ _ _ f _ h1).2⟩
    · cases h
  | .ife c a b => by
    intro C L B W o X f e h
    unfold mtE at h
    split at h
    · simp only [Bool.and_eq_true] at h
      obtain ⟨⟨h1, h2⟩, h3⟩ := h
      exact ⟨pe_ifeM (sE c _ _ _ _ _ _ f _ h1).2 (sE a _ _ _ _ _ _ f _ h2).1 (sE b _ _ _ _ _ _ f _ h3).1, pt_ifeM (sE c _ _ _ _ _ _ f _ h1).2 (sE a _ _ _ _ _ _ f _ h2).2 (sE b _ _ _ _ _ _ f _ h3).2⟩
    · cases h
  | .tup es => by
    intro C L B W o X f e h
    unfold mtE at h
    split at h
    · simp only [Bool.and_eq_true, decide_eq_true_eq] at h
      exact pv (pe_tupM h.1 (sL es _ _ _ _ _ _ f _ h.2).pa) fun _ => rfl
    · cases h
  | .lst es => by
    intro C L B W o X f e h
    unfold mtE at h
    split at h
    · simp only [Bool.and_eq_true, decide_eq_true_eq] at h
      exact pv (pe_lstM h.1 (sL es _ _ _ _ _ _ f _ h.2).pa) fun _ => rfl
    · cases h
  | .fld a k => by
    intro C L B W o X f e h
    unfold mtE at h
    split at h
    · simp only [Bool.and_eq_true, decide_eq_true_eq] at h
      exact pv (pe_fldM f (f.nm _ _ h.1.1) h.1.2 (sE a _ _ _ _ _ _ f _ h.2).1) fun _ => rfl
    · cases h
  | .sub a i => by
    intro C L B W o X f e h
    unfold mtE at h
    split at h
    · simp only [Bool.and_eq_true] at h
      obtain ⟨⟨h0, h1⟩, h2⟩ := h
      exact pv (pe_subM f (sE a _ _ _ _ _ _ f _ h1).1 (sE i _ _ _ _ _ _ f _ h2).1 h0) fun _ => rfl
    · cases h
  | .slU a hi => by
    intro C L B W o X f e h
    unfold mtE at h
    split at h
    · simp only [Bool.and_eq_true] at h
      exact pv (pe_slUM f (sE a _ _ _ _ _ _ f _ h.1).1 (sE hi _ _ _ _ _ _ f _ h.2).1) fun _ => rfl
    · cases h
  | .slL a lo => by
    intro C L B W o X f e h
    unfold mtE at h
    split at h
    · simp only [Bool.and_eq_true] at h
      exact pv (pe_slLM f (sE a _ _ _ _ _ _ f _ h.1).1 (sE lo _ _ _ _ _ _ f _ h.2).1) fun _ => rfl
    · cases h
  | .slB a lo hi => by
    intro C L B W o X f e h
    unfold mtE at h
    split at h
    · simp only [Bool.and_eq_true] at h
      exact pv (pe_slBM f (sE a _ _ _ _ _ _ f _ h.1.1).1 (sE lo _ _ _ _ _ _ f _ h.1.2).1 (sE hi _ _ _ _ _ _ f _ h.2).1) fun _ => rfl
    · cases h
  | .call g es => by
    intro C L B W o X f e h
    unfold mtE at h
    split at h
    · simp only [Bool.and_eq_true, decide_eq_true_eq, Bool.not_eq_true'] at h
      obtain ⟨⟨⟨⟨hc, hf⟩, hg⟩, hne⟩, hl⟩ := h
      exact pv (pe_callM f hc hf hg (mtL_len hl).2 hne (sL es _ _ _ _ _ _ f _ hl).pa) fun _ => rfl
    · cases h
  | .bi g es => by
    intro C L B W o X f e h
    unfold mtE at h
    split at h
    · simp only [Bool.and_eq_true, decide_eq_true_eq, Bool.or_eq_true, Bool.not_eq_true'] at h
      obtain ⟨⟨⟨⟨⟨hx, hb⟩, hlen⟩, hg⟩, hc⟩, hl⟩ := h
      exact pv (pe_biM f hb hx hlen (by rw [(mtL_len hl).1]; exact hlen) hg (fun q => hc.resolve_left (by rw [q]; exact fun z => nomatch z)) (mtL_len hl).2 (sL es _ _ _ _ _ _ f _ hl).pa) fun _ => rfl
    · cases h
  | .isi a ts => by
    intro C L B W o X f e h
    unfold mtE at h
    split at h
    · simp only [Bool.and_eq_true, decide_eq_true_eq] at h
      obtain ⟨⟨⟨⟨rfl, hg⟩, hy⟩, ha⟩, ht⟩ := h
      split at ht
      · exact pv (pe_isi1M f hg hy ht (sE a _ _ _ _ _ _ f _ ha).1) fun _ => rfl
      · split at ht
        · simp only [Bool.and_eq_true, decide_eq_true_eq] at ht
          exact pv (pe_isiTM f hg hy ht.2 ht.1.1 ht.1.2 (sE a _ _ _ _ _ _ f _ ha).1) fun _ => rfl
        · cases ht
    · cases h
  | .lsI (.ex a) => by
    intro C L B W o X f e h
    unfold mtE at h
    split at h
    · simp only [Bool.and_eq_true, decide_eq_true_eq] at h
      obtain ⟨⟨⟨⟨rfl, hg⟩, hy⟩, hc⟩, hi⟩ := h
      unfold mtI at hi
      rw [Bool.and_eq_true] at hi
      exact pv (pe_lsExM f hg hy (sE a _ _ _ _ _ _ f _ hi.2).1) fun _ => rfl
    · cases h
  | .lsI (.rg1 a) => by
    intro C L B W o X f e h
    unfold mtE at h
    split at h
    · simp only [Bool.and_eq_true, decide_eq_true_eq] at h
      obtain ⟨⟨⟨⟨rfl, hg⟩, hy⟩, hc⟩, hi⟩ := h
      unfold mtI at hi
      split at hi
      · simp only [Bool.and_eq_true, decide_eq_true_eq] at hi
        obtain ⟨⟨⟨rfl, hg2⟩, he⟩, ha⟩ := hi
        exact pv (pe_lsRg1M f hc hg hg2 he (sE a _ _ _ _ _ _ f _ ha).1) fun _ => rfl
      · cases hi
    · cases h
  | .lsI (.rg2 a b) => by
    intro C L B W o X f e h
    unfold mtE at h
    split at h
    · simp only [Bool.and_eq_true, decide_eq_true_eq] at h
      obtain ⟨⟨⟨⟨rfl, hg⟩, hy⟩, hc⟩, hi⟩ := h
      unfold mtI at hi
      split at hi
      · simp only [Bool.and_eq_true, decide_eq_true_eq] at hi
        obtain ⟨⟨⟨⟨⟨rfl, hg2⟩, he⟩, he'⟩, ha⟩, hb⟩ := hi
        exact pv (pe_lsRg2M f hc hg hg2 he he' (sE a _ _ _ _ _ _ f _ ha).1 (sE b _ _ _ _ _ _ f _ hb).1) fun _ => rfl
      · cases hi
    · cases h
  | .lc a p it => by
    intro C L B W o X f e h
    unfold mtE at h
    split at h
    · simp only [Bool.and_eq_true, decide_eq_true_eq] at h
      obtain ⟨⟨⟨⟨⟨⟨hc, hi⟩, hb⟩, _⟩, hp⟩, ha⟩, _⟩ := h
      obtain ⟨i1, i2⟩ := sI it _ _ _ _ _ _ f _ hi
      exact pv (pe_lcM f hc (i1 _ false) i2 hb hp fun X' f' => (sE a _ _ _ _ _ _ f' _ ha).1) fun _ => rfl
    · cases h
  | .lcf a p it c => by
    intro C L B W o X f e h
    unfold mtE at h
    split at h
    · simp only [Bool.and_eq_true, decide_eq_true_eq] at h
      obtain ⟨⟨⟨⟨⟨⟨⟨hc, hi⟩, hb⟩, _⟩, hp⟩, ha⟩, _⟩, hy⟩ := h
      obtain ⟨i1, i2⟩ := sI it _ _ _ _ _ _ f _ hi
      exact pv (pe_lcfM f hc (i1 _ false) i2 hb hp (fun X' f' => (sE a _ _ _ _ _ _ f' _ ha).1) (fun X' f' => (sE c _ _ _ _ _ _ f' _ hy).2)) fun _ => rfl
    · cases h
  | .cell a => by
    intro C L B W o X f e h
    unfold mtE at h
    obtain ⟨z1, z2⟩ := sE a _ _ _ _ _ _ f _ h
    exact ⟨z1.imp fun σ H Q h => tE_cell h, z2.imp fun σ H Q h => tE_cell h⟩
  | .fnv _ => by intro C L B W o X f e h; unfold mtE at h; cases h
  | .con _ => by intro C L B W o X f e h; unfold mtE at h; cases h
  | .chn .. => by intro C L B W o X f e h; unfold mtE at h; cases h
  | .neR a b => by
    intro C L B W o X f e h
    unfold mtE at h
    split at h
    · simp only [Bool.and_eq_true, decide_eq_true_eq] at h
      obtain ⟨⟨⟨⟨⟨⟨⟨rfl, rfl⟩, rfl⟩, hg⟩, hy⟩, hz⟩, h1⟩, h2⟩ := h
      exact pe_neRM f hg hy hz (sE a _ _ _ _ _ _ f _ h1).1 (sE b _ _ _ _ _ _ f _ h2).1
    · cases h
  | .dct .. => by intro C L B W o X f e h; unfold mtE at h; cases h
  | .rev .. => by intro C L B W o X f e h; unfold mtE at h; cases h
  | .calv .. => by intro C L B W o X f e h; unfold mtE at h; cases h
  | .meth .. => by intro C L B W o X f e h; unfold mtE at h; cases h
  | .make .. => by intro C L B W o X f e h; unfold mtE at h; cases h
  | .xfl .. => by intro C L B W o X f e h; unfold mtE at h; cases h
  | .lenO .. => by intro C L B W o X f e h; unfold mtE at h; cases h
  | .srtk .. => by intro C L B W o X f e h; unfold mtE at h; cases h
  | .fs .. => by intro C L B W o X f e h; unfold mtE at h; cases h
  | .lsI (.rgd ..) => by intro C L B W o X f e h; unfold mtE at h; split at h <;> simp [mtI] at h
  | .lsI (.enum ..) => by intro C L B W o X f e h; unfold mtE at h; split at h <;> simp [mtI] at h
  | .lsI (.zip ..) => by intro C L B W o X f e h; unfold mtE at h; split at h <;> simp [mtI] at h
  | .lsI (.items ..) => by intro C L B W o X f e h; unfold mtE at h; split at h <;> simp [mtI] at h
  | .lsI (.vals ..) => by intro C L B W o X f e h; unfold mtE at h; split at h <;> simp [mtI] at h
theorem sL : ∀ ms : List ME, SL ms
  | [] => sNil
  | m :: ms => sCons (sE m) (sL ms)
theorem sI : ∀ it : MI, SI it
  | .ex a => by
    intro C L B W o X f e h
    unfold mtI at h
    rw [Bool.and_eq_true] at h
    exact ⟨fun tg k => pi_exM f (sE a _ _ _ _ _ _ f _ h.2).1, fun l k p z => by rw [z] at h; exact absurd h.1 (by simp [okE])⟩
  | .rg1 a => by
    intro C L B W o X f e h
    unfold mtI at h
    split at h
    · simp only [Bool.and_eq_true, decide_eq_true_eq] at h
      obtain ⟨⟨⟨rfl, hg⟩, he⟩, ha⟩ := h
      exact ⟨fun tg k => pi_rg1M f hg he (sE a _ _ _ _ _ _ f _ ha).1, fun l k p z => nomatch z⟩
    · cases h
  | .rg2 a b => by
    intro C L B W o X f e h
    unfold mtI at h
    split at h
    · simp only [Bool.and_eq_true, decide_eq_true_eq] at h
      obtain ⟨⟨⟨⟨⟨rfl, hg⟩, he⟩, he'⟩, ha⟩, hb⟩ := h
      exact ⟨fun tg k => pi_rg2M f hg he he' (sE a _ _ _ _ _ _ f _ ha).1 (sE b _ _ _ _ _ _ f _ hb).1, fun l k p z => nomatch z⟩
    · cases h
  | .rgd .. => by intro C L B W o X f e h; unfold mtI at h; cases h
  | .enum .. => by intro C L B W o X f e h; unfold mtI at h; cases h
  | .zip .. => by intro C L B W o X f e h; unfold mtI at h; cases h
  | .items .. => by intro C L B W o X f e h; unfold mtI at h; cases h
  | .vals .. => by intro C L B W o X f e h; unfold mtI at h; cases h
end
end Mp

end
section
set_option Elab.async false
set_option linter.all false
set_option maxRecDepth 100000
set_option maxHeartbeats 4000000
/-! S19: statements: the frame. -/
namespace Mp
open PySem PySem.Spec PyProof.Rows L2
theorem Mono.trans {m m' m'' : List Addr} {F F' F'' : Addr → Prop} {H H' H'' : Hp} (a : Mono m F H m' F' H') (b : Mono m' F' H' m'' F'' H'') : Mono m F H m'' F'' H'' :=
  ⟨fun n p h => b.mp n p (a.mp n p h), fun p h => b.fm p (a.fm p h), fun p h => (a.st p h).trans (b.st p (a.fm p h))⟩
def PostS (L : Lk) (B : Bs) (W : WX) (m : List Addr) (F : Addr → Prop) (H : Hp) (r : SR) (D : Ends) : Prop :=
  match r with
  | .nx E st => ∀ m' F' σ' H', Mono m F H m' F' H' → Sim L B m' F' E st σ' H' → D.nx σ' H'
  | .bk E st => ∀ m' F' σ' H', Mono m F H m' F' H' → Sim L B m' F' E st σ' H' → D.bk σ' H'
  | .ct E st => ∀ m' F' σ' H', Mono m F H m' F' H' → Sim L B m' F' E st σ' H' → D.ct σ' H'
  | .rt v st => ∀ m' F' x H', Wd L m' F' st H' → Ext B.m B.F B.H m' F' H' → OutRep L m' F' H' B.H v x → D.rt x H'
  | .ex xc E st => ∀ m' F' σ' H' cls d, Mono m F H m' F' H' → Sim L B m' F' E st σ' H' → XRep L m' F' H' xc.c xc.fs cls d → W cls d σ' H'
  | .bad => False
def tS (L : Lk) (B : Bs) (W : WX) (o : Orc) (s : MS) : TS := fun D σ H => ∃ m F E st, Sim L B m F E st σ H ∧ PostS L B W m F H (exS o s E st) D
def tB (L : Lk) (B : Bs) (W : WX) (o : Orc) (s : List MS) : TS := fun D σ H => ∃ m F E st, Sim L B m F E st σ H ∧ PostS L B W m F H (exB o s E st) D
section
variable {C : CC} {L : Lk} {B : Bs} {W : WX} {o : Orc} {X : Cx} {m m0 m1 m2 m' : List Addr} {F F0 F1 F2 F' : Addr → Prop} {H H0 H1 H2 H' : Hp} {E : Env} {st st' st0 st1 : Sto} {σ : L2.St} {Q : V → Hp → Prop} {me a b c : ME} {es : List ME} {k : Bool} {D : Ends} {s : MS} {ss : List MS}
theorem PostS.at {r : SR} (X0 : Mono m0 F0 H0 m F H) (h : PostS L B W m0 F0 H0 r D) : PostS L B W m F H r D := by
  cases r with
  | nx E st => exact fun m1 F1 σ1 H1 a b => h m1 F1 σ1 H1 (X0.trans a) b
  | bk E st => exact fun m1 F1 σ1 H1 a b => h m1 F1 σ1 H1 (X0.trans a) b
  | ct E st => exact fun m1 F1 σ1 H1 a b => h m1 F1 σ1 H1 (X0.trans a) b
  | rt v st => exact h
  | ex xc E st => exact fun m1 F1 σ1 H1 cls d a b c => h m1 F1 σ1 H1 cls d (X0.trans a) b c
  | bad => exact h
theorem tE_sr {f : Val → Sto → SR} (X0 : Mono m0 F0 H0 m F H) (S : Sim L B m F E st σ H) (h : PostS L B W m0 F0 H0 ((evE o me E st).sr E f) D) :
    tE L B W o me σ H (fun x H1 => ∃ m1 F1 st1 v, Ext m F H m1 F1 H1 ∧ Mono m0 F0 H0 m1 F1 H1 ∧ Sim L B m1 F1 E st1 σ H1 ∧ VRep L m1 F1 H1 E σ H v x ∧ PostS L B W m0 F0 H0 (f v st1) D) := by
  refine ⟨m, F, E, st, S, ?_⟩
  cases e : evE o me E st with
  | ok v st1 =>
    rw [e] at h
    exact fun m1 F1 x H1 a b c => ⟨m1, F1, st1, v, a, X0.trans a.mono, b, c, h⟩
  | ex xc st1 =>
    rw [e] at h
    exact fun m1 F1 H1 cls d a b c => h m1 F1 σ H1 cls d (X0.trans a.mono) b c
  | bad =>
    rw [e] at h
    exact h
theorem PostS.ifV {v : Val} {r1 r2 : SR} (h : PostS L B W m0 F0 H0 (Mp.ifV v r1 r2 .bad) D) : ∃ t, v = .dat (.bl t) ∧ PostS L B W m0 F0 H0 (if t then r1 else r2) D := by
  unfold Mp.ifV at h
  split at h
  · exact ⟨_, rfl, h⟩
  · exact h.elim
theorem pss_nilM : PSs X [] (tB L B W o []) := pss_nil.imp fun D σ H ⟨m, F, E, st, S, h⟩ => by
  rw [exB] at h
  exact h m F σ H Mono.refl S
theorem tB_cons (h : tB L B W o (s :: ss) D σ H) : tSeq (tS L B W o s) (tB L B W o ss) D σ H := by
  obtain ⟨m, F, E, st, S, h⟩ := h
  rw [exB] at h
  refine ⟨m, F, E, st, S, ?_⟩
  cases e : exS o s E st with
  | nx E1 st1 =>
    rw [e] at h
    exact fun m1 F1 σ1 H1 X1 S1 => ⟨m1, F1, E1, st1, S1, PostS.at X1 h⟩
  | bk E1 st1 => rw [e] at h; exact h
  | ct E1 st1 => rw [e] at h; exact h
  | rt v st1 => rw [e] at h; exact h
  | ex xc E1 st1 => rw [e] at h; exact h
  | bad => rw [e] at h; exact h
theorem pss_consM {s' : Stmt} {l : List Stmt} (h1 : PS X s' (tS L B W o s)) (h2 : PSs X l (tB L B W o ss)) : PSs X (s' :: l) (tB L B W o (s :: ss)) := (pss_cons h1 h2).imp fun D σ H h => tB_cons h
/-- a container of a variable is kept from now on -/
theorem tB_frz {i : Nat} (h : tB L B W o (.frz i :: ss) D σ H) : tB L B W o ss D σ H := by
  obtain ⟨m, F, E, st, S, h⟩ := h
  rw [exB, exS] at h
  split at h
  · rename_i d e
    cases hs : d.isSet with
    | true => rw [hs] at h; exact h.elim
    | false =>
      rw [hs] at h
      have h : PostS L B W m F H (exB o ss (E.set i (some (.dat d))) st) D := h
      obtain ⟨x, e2, p, rfl, r, nf, nm, n0⟩ := S.sl i _ e
      have hi := (List.getElem?_eq_some_iff.mp e).1
      have M : Mono m F H m (Fp F p) H := Mono.fp
      have own_i : OwnAt E σ i p := ⟨⟨d, e⟩, e2⟩
      have oth : ∀ j, j ≠ i → ¬ OwnAt E σ j p := fun j hj q => hj (S.ij j i p q own_i)
      have S' : Sim L B m (Fp F p) (E.set i (some (.dat d))) st σ H := by
        refine ⟨⟨fun n d' e' => ?_, S.wd.ln, S.wd.nd, fun a fa => ?_⟩, ⟨S.ex.mp, fun a f => .inl (S.ex.fm a f), fun a f => ?_, S.ex.kp, S.ex.st, S.ex.tr⟩, fun j v ej => ?_, by rw [List.length_set]; exact S.ln, fun j k a hj hk => ?_⟩
        · obtain ⟨a, e1, r1⟩ := S.wd.ce n d' e'
          exact ⟨a, e1, r1.mono M fun o q => q⟩
        · rcases fa with fa | rfl
          · exact S.wd.ft a fa
          · exact ⟨r.there, nm⟩
        · rcases f with f | rfl
          · exact S.ex.fn a f
          · exact .inr n0
        · by_cases hj : j = i
          · subst hj
            rw [List.getElem?_set_self hi] at ej
            cases ej
            exact ⟨.ref p, e2, (r.mono M fun o q => q).kept (.inr rfl) fun xs z => by rw [z] at hs; cases hs⟩
          · rw [List.getElem?_set_ne (Ne.symm hj)] at ej
            obtain ⟨x, e1, r1⟩ := S.sl j v ej
            refine ⟨x, e1, ?_⟩
            cases v with
            | dat d => exact Rep.mono M _ _ r1
            | new d =>
              obtain ⟨a, rfl, r1, nf1, nm1, n1⟩ := r1
              refine ⟨a, rfl, r1.mono M fun o q => q, fun z => ?_, nm1, n1⟩
              rcases z with z | rfl
              · exact nf1 z
              · exact oth j hj ⟨⟨d, ej⟩, e1⟩
            | bor d => exact r1
            | xv c fs => obtain ⟨q, e, e2, e3, r⟩ := r1; exact ⟨q, e, e2, e3, r.mono M⟩
        · have back : ∀ k, OwnAt (E.set i (some (.dat d))) σ k a → OwnAt E σ k a := fun k ⟨⟨d', q1⟩, q2⟩ => by
            by_cases hk : k = i
            · subst hk; rw [List.getElem?_set_self hi] at q1; cases q1
            · rw [List.getElem?_set_ne (Ne.symm hk)] at q1; exact ⟨⟨d', q1⟩, q2⟩
          exact S.ij j k a (back j hj) (back k hk)
      exact ⟨m, Fp F p, _, st, S', PostS.at M h⟩
  · exact ⟨m, F, E, st, S, h⟩
/-- a value into a slot -/
theorem Sim.set {i : Nat} {v : Val} {x : V} (S : Sim L B m F E st σ H) (G : Beg B E σ H0) (r : VRep L m F H E σ H0 v x) (hi : i < E.length) (hv : (∃ d, v = .dat d) ∨ ∃ d, v = .new d) : Sim L B m F (E.set i (some v)) st (σ.set i (some x)) H := by
  have hi2 : i < σ.length := by rw [← S.ln]; exact hi
  have back : ∀ k a, k ≠ i → OwnAt (E.set i (some v)) (σ.set i (some x)) k a → OwnAt E σ k a := fun k a hk ⟨⟨d', q1⟩, q2⟩ => by
    rw [List.getElem?_set_ne (Ne.symm hk)] at q1 q2
    exact ⟨⟨d', q1⟩, q2⟩
  have own : ∀ a, OwnAt (E.set i (some v)) (σ.set i (some x)) i a → H0 a = none := fun a ⟨⟨d', q1⟩, q2⟩ => by
    rw [List.getElem?_set_self hi] at q1
    rw [List.getElem?_set_self hi2] at q2
    cases q1; cases q2
    obtain ⟨b, e, _, _, _, n⟩ := r
    cases e
    exact n
  refine ⟨S.wd, S.ex, fun j w e => ?_, by simp [S.ln], fun j k a hj hk => ?_⟩
  · by_cases hj : j = i
    · subst hj
      rw [List.getElem?_set_self hi] at e
      cases e
      refine ⟨x, List.getElem?_set_self hi2, ?_⟩
      rcases hv with ⟨d, rfl⟩ | ⟨d, rfl⟩
      · exact r
      · obtain ⟨a, e, r, nf, nm, n0⟩ := r
        exact ⟨a, e, r, nf, nm, G.tr a n0⟩
    · rw [List.getElem?_set_ne (Ne.symm hj)] at e
      obtain ⟨y, e1, r1⟩ := S.sl j w e
      exact ⟨y, by rw [List.getElem?_set_ne (Ne.symm hj)]; exact e1, r1⟩
  · by_cases h1 : j = i
    · by_cases h2 : k = i
      · rw [h1, h2]
      · exact absurd (own a (h1 ▸ hj)) (G.ow k a (back k a h2 hk))
    · by_cases h2 : k = i
      · exact absurd (own a (h2 ▸ hk)) (G.ow j a (back j a h1 hj))
      · exact S.ij j k a (back j a h1 hj) (back k a h2 hk)
theorem tgF_v {i : Nat} {v : Val} {r : Env → Sto → SR} (h : PostS L B W m0 F0 H0 ((tgF o (.v i) v E st).sr E r) D) : i < E.length ∧ ((∃ d, v = .dat d) ∨ ∃ d, v = .new d) ∧ PostS L B W m0 F0 H0 (r (E.set i (some v)) st) D := by
  unfold tgF at h
  cases v with
  | dat d =>
    simp only at h
    split at h
    · exact ⟨‹_›, .inl ⟨d, rfl⟩, h⟩
    · exact h.elim
  | new d =>
    simp only at h
    split at h
    · exact ⟨‹_›, .inr ⟨d, rfl⟩, h⟩
    · exact h.elim
  | bor d => exact h.elim
  | xv c fs => exact h.elim
/-- name = e -/
theorem tS_asg {i : Nat} (h : tS L B W o (.asg (.v i) me) D σ H) : tAsg (tE L B W o me) (gName i) D σ H := by
  obtain ⟨m, F, E, st, S, h⟩ := h
  rw [exS] at h
  refine tE.mono (fun x H1 ⟨m1, F1, st1, v, X1, M1, S1, r1, h1⟩ => ?_) (tE_sr Mono.refl S h)
  obtain ⟨hi, hv, h2⟩ := tgF_v h1
  exact h2 m1 F1 _ H1 M1 (S1.set S.beg r1 hi hv)
theorem ps_retM {e : Expr} {p : Pos} (ha : PE X e (tE L B W o a)) : PS X (.Return (some e) p) (tS L B W o (.ret a)) := (ps_ret ha).imp fun D σ H ⟨m, F, E, st, S, h⟩ => by
  rw [exS] at h
  refine tE.mono (fun x H1 ⟨m1, F1, st1, v, X1, M1, S1, r1, h1⟩ => ?_) (tE_sr Mono.refl S h)
  cases v with
  | xv c fs => exact h1.elim
  | dat d => exact h1 m1 F1 x H1 S1.wd S1.ex r1
  | new d => obtain ⟨p, e, r, nf, nm, n0⟩ := r1; exact h1 m1 F1 x H1 S1.wd S1.ex ⟨p, e, r, nf, nm, S.ex.tr p n0⟩
  | bor d =>
    obtain ⟨i, e1, e2⟩ := r1
    obtain ⟨y, e3, p, rfl, r, nf, nm, n0⟩ := S1.sl i _ e1
    rw [e2] at e3; cases e3
    exact h1 m1 F1 _ H1 S1.wd S1.ex ⟨p, rfl, r, nf, nm, n0⟩
theorem ps_retNM {p : Pos} : PS X (.Return none p) (tS L B W o .retN) := ps_retN.imp fun D σ H ⟨m, F, E, st, S, h⟩ => by
  rw [exS] at h
  exact h m F .non H S.wd S.ex (by simp [OutRep, Rep])
theorem ps_passM {p : Pos} : PS X (.Pass p) (tS L B W o .pass) := ps_pass.imp fun D σ H ⟨m, F, E, st, S, h⟩ => by
  rw [exS] at h; exact h m F σ H Mono.refl S
theorem ps_brkM {p : Pos} : PS X (.Break p) (tS L B W o .brk) := ps_break.imp fun D σ H ⟨m, F, E, st, S, h⟩ => by
  rw [exS] at h; exact h m F σ H Mono.refl S
theorem ps_contM {p : Pos} : PS X (.Continue p) (tS L B W o .cont) := ps_continue.imp fun D σ H ⟨m, F, E, st, S, h⟩ => by
  rw [exS] at h; exact h m F σ H Mono.refl S
theorem ps_exprM {e : Expr} {p : Pos} (hs : swapsWith e none p.line X.env = pure false) (ha : PE X e (tE L B W o a)) : PS X (.Expr e p) (tS L B W o (.expr a)) := (ps_expr ha hs).imp fun D σ H ⟨m, F, E, st, S, h⟩ => by
  rw [exS] at h
  refine tE.mono (fun x H1 ⟨m1, F1, st1, v, X1, M1, S1, r1, h1⟩ => ?_) (tE_sr Mono.refl S h)
  exact h1 m1 F1 σ H1 M1 S1
theorem ps_iteM {c : ME} {s1 s2 : List MS} {e : Expr} {l1 l2 : List Stmt} {p : Pos} (hc : PT X e (tTest (tE L B W o c))) (h1 : PSs X l1 (tB L B W o s1)) (h2 : PSs X l2 (tB L B W o s2)) : PS X (.If e l1 l2 p) (tS L B W o (.ite c s1 s2)) :=
  (ps_if hc h1 h2).imp fun D σ H ⟨m, F, E, st, S, h⟩ => by
    rw [exS] at h
    refine tE.mono (fun x H1 ⟨m1, F1, st1, v, X1, M1, S1, r1, h1⟩ => ?_) (tE_sr Mono.refl S h)
    obtain ⟨t, rfl, h2⟩ := PostS.ifV h1
    refine ⟨t, r1.bl, ?_⟩
    cases t with
    | true => exact ⟨m1, F1, E, st1, S1, PostS.at M1 h2⟩
    | false => exact ⟨m1, F1, E, st1, S1, PostS.at M1 h2⟩
/-- a loop's turn -/
theorem PostS.lp {r : SR} {k : Env → Sto → SR} {N : L2.St → Hp → Prop} (h : PostS L B W m0 F0 H0 (r.lp k) D) (hN : ∀ E st, PostS L B W m0 F0 H0 (k E st) D → ∀ m' F' σ' H', Mono m0 F0 H0 m' F' H' → Sim L B m' F' E st σ' H' → N σ' H') :
    PostS L B W m0 F0 H0 r { D with nx := N, ct := N, bk := D.nx } := by
  cases r with
  | nx E st => exact fun m1 F1 σ1 H1 a b => hN E st h m1 F1 σ1 H1 a b
  | ct E st => exact fun m1 F1 σ1 H1 a b => hN E st h m1 F1 σ1 H1 a b
  | bk E st => exact fun m1 F1 σ1 H1 a b => h m1 F1 σ1 H1 a b
  | rt v st => exact h
  | ex xc E st => exact h
  | bad => exact h
theorem ps_whlM {c : ME} {b : List MS} {e : Expr} {l : List Stmt} {p : Pos} (hp : PassesOwn (model X.prog X.w) X.A X.env X.xe) (hc : PT X e (tTest (tE L B W o c))) (hb : PSs X l (tB L B W o b)) : PS X (.While e l [] p) (tS L B W o (.whl c b)) :=
  (ps_while hp hc hb).imp fun D σ H ⟨m, F, E, st, S, h⟩ => by
    rw [exS] at h
    refine ⟨fun n σ' H' => ∃ m' F' E' st', Mono m F H m' F' H' ∧ Sim L B m' F' E' st' σ' H' ∧ PostS L B W m F H (whlL (fun E' st' => evE o c E' st') (fun E' st' => exB o b E' st') n E' st') D, ⟨whlMax, m, F, E, st, Mono.refl, S, h⟩, ?_⟩
    rintro n σ1 H1 ⟨m1, F1, E1, st1, M1, S1, h1⟩
    cases n with
    | zero => exact h1.elim
    | succ n =>
      rw [whlL] at h1
      refine tE.mono (fun x H2 ⟨m2, F2, st2, v, X2, M2, S2, r2, h2⟩ => ?_) (tE_sr M1 S1 h1)
      obtain ⟨t, rfl, h3⟩ := PostS.ifV h2
      refine ⟨t, r2.bl, ?_⟩
      cases t with
      | false => exact h3 m2 F2 σ1 H2 M2 S2
      | true =>
        refine ⟨fun σ' H' => ∃ m' F' E' st', Mono m F H m' F' H' ∧ Sim L B m' F' E' st' σ' H' ∧ PostS L B W m F H (whlL (fun E' st' => evE o c E' st') (fun E' st' => exB o b E' st') n E' st') D, fun σ' H' z => ⟨n, Nat.lt_succ_self n, z⟩, m2, F2, E1, st2, S2, PostS.at M2 (PostS.lp h3 fun E' st' q m' F' σ' H' M' S' => ⟨m', F', E', st', M', S', q⟩)⟩
theorem ps_frM (eK : L.K = X.K) {p : Pat} {it : MI} {b : List MS} {tg e : Expr} {l : List Stmt} {pos : Pos} (hp : PassesOwn (model X.prog X.w) X.A X.env X.xe) (hc : X.calm = true) (hi : PI X tg e (tI L B W o true it)) (hg : PG X tg (tgP X.K p)) (hb : PSs X l (tB L B W o b))
    (hs : ∀ l k p, e ≠ .Set l k p) : PS X (.For tg e l [] pos) (tS L B W o (.fr p it b)) :=
  (ps_for hp hc hi hg hb (fold_ok hs)).imp fun D σ H ⟨m, F, E, st, S, h⟩ => by
    rw [exS] at h
    refine ⟨m, F, E, st, S, ?_⟩
    cases e : evI o true it E st with
    | bad => rw [e] at h; exact h
    | ex xc s => rw [e] at h; exact fun m1 F1 H1 cls d X1 S1 r1 => h m1 F1 σ H1 cls d X1.mono S1 r1
    | ok ds st1 =>
      rw [e] at h
      have h : PostS L B W m F H (forL p (fun E' st' => exB o b E' st') ds E st1) D := h
      intro m1 F1 J H1 X1 S1 hJ
      refine ⟨fun i k σ' H' => k = ds.length - i ∧ i ≤ ds.length ∧ ∃ m' F' E' st', Mono m F H m' F' H' ∧ Mono m1 F1 H1 m' F' H' ∧ Sim L B m' F' E' st' σ' H' ∧ PostS L B W m F H (forL p (fun E' st' => exB o b E' st') (ds.drop i) E' st') D, ⟨_, rfl, Nat.zero_le _, m1, F1, E, st1, X1.mono, Mono.refl, S1, h⟩, ?_⟩
      rintro i k σ2 H2 ⟨rfl, hi, m2, F2, E2, st2, M2, M12, S2, h2⟩
      have hO : ∀ a, OwnS true E σ a → ∀ o, H1 a = some o → H2 a = some o := fun a ⟨z, _⟩ => by cases z
      by_cases hlt : i < ds.length
      · have ei : ds[i]? = some ds[i] := List.getElem?_eq_some_iff.mpr ⟨hlt, rfl⟩
        obtain ⟨g1, g2⟩ := hJ.go i _ ei m2 F2 H2 M12 hO
        rw [List.drop_eq_getElem_cons hlt, forL] at h2
        cases hpf : patF p ds[i] E2 with
        | none => simp only [hpf] at h2; exact h2.elim
        | some E' =>
          simp only [hpf] at h2
          obtain ⟨l, hpa, hsl⟩ : ∃ l, patA p ds[i] = some l ∧ setL l E2 = some E' := by
            unfold patF at hpf
            cases e : patA p ds[i] with
            | none => rw [e] at hpf; cases hpf
            | some l => rw [e] at hpf; exact ⟨l, rfl, hpf⟩
          refine .inr ⟨g1, fun σ' H' => ∃ m' F' E' st', Mono m F H m' F' H' ∧ Mono m1 F1 H1 m' F' H' ∧ Sim L B m' F' E' st' σ' H' ∧ PostS L B W m F H (forL p (fun E' st' => exB o b E' st') (ds.drop (i + 1)) E' st') D, fun σ' H' z => ⟨ds.length - (i + 1), by omega, rfl, hlt, z⟩, fun x H' hy => ?_⟩
          obtain ⟨F3, X3, S3, r3⟩ : ∃ F3, Ext m2 F2 H2 m2 F3 H' ∧ Sim L B m2 F3 E2 st2 σ2 H' ∧ Rep L m2 F3 H' ds[i] x := by
            rcases g2 x H' hy with ⟨rfl, r⟩ | ⟨q, es, vs, hq, rfl, rfl, ed, r, z⟩
            · exact ⟨F2, Ext.refl, S2, r⟩
            · have Sf := S2.fresh (u := .tup vs) hq
              refine ⟨Fp F2 q, (Ext.fresh hq).keep hq, Sf.keep (by rw [upd_same]; exact fun z => nomatch z) (S2.notcell hq) (S2.noown hq) (S2.ex.tr q hq), ?_⟩
              rw [ed]
              simp only [Rep]
              have Y : Ext m2 F2 H2 m2 (Fp F2 q) (upd H2 q (.tup vs)) := (Ext.fresh hq).keep hq
              exact ⟨q, vs, rfl, .inl ⟨.inr rfl, .inl upd_same⟩, RepL.mono Y.mono _ _ r, z⟩
          refine ⟨L, m2, F3, ds[i], l, eK, r3, hpa, fun vl hvl => ?_⟩
          have S4 := S3.pat hvl hsl rfl fun _ _ => rfl
          -- the body, from this turn's state
          refine ⟨m2, F3, E', st2, S4, ?_⟩
          have M3 := M2.trans X3.mono
          have M13 := M12.trans X3.mono
          -- what the rest asks is told from the loop's begin, and from the walk's
          have key : PostS L B W m F H (exB o b E' st2) { D with nx := fun σ' H' => ∃ E' st' m' F', Sim L B m' F' E' st' σ' H' ∧ Mono m F H m' F' H' ∧ PostS L B W m F H (forL p (fun E' st' => exB o b E' st') (ds.drop (i + 1)) E' st') D, ct := fun σ' H' => ∃ E' st' m' F', Sim L B m' F' E' st' σ' H' ∧ Mono m F H m' F' H' ∧ PostS L B W m F H (forL p (fun E' st' => exB o b E' st') (ds.drop (i + 1)) E' st') D, bk := D.nx } :=
            PostS.lp h2 fun E' st' q m' F' σ' H' M' S' => ⟨E', st', m', F', S', M', q⟩
          cases hb : exB o b E' st2 with
          | nx E5 st5 => rw [hb] at h2; exact fun m5 F5 σ5 H5 M5 S5 => ⟨m5, F5, E5, st5, M3.trans M5, M13.trans M5, S5, h2⟩
          | ct E5 st5 => rw [hb] at h2; exact fun m5 F5 σ5 H5 M5 S5 => ⟨m5, F5, E5, st5, M3.trans M5, M13.trans M5, S5, h2⟩
          | bk E5 st5 => rw [hb] at h2; exact fun m5 F5 σ5 H5 M5 S5 => h2 m5 F5 σ5 H5 (M3.trans M5) S5
          | rt v st5 => rw [hb] at h2; exact h2
          | ex xc E5 st5 => rw [hb] at h2; exact fun m5 F5 σ5 H5 cls d M5 S5 r5 => h2 m5 F5 σ5 H5 cls d (M3.trans M5) S5 r5
          | bad => rw [hb] at h2; exact h2
      · have e : i = ds.length := by omega
        subst e
        rw [List.drop_eq_nil_of_le (Nat.le_refl _), forL] at h2
        exact .inl ⟨hJ.stop m2 F2 H2 M12 hO, h2 m2 F2 σ2 H2 M2 S2⟩
end
end Mp

end
section
set_option Elab.async false
set_option linter.all false
set_option maxRecDepth 100000
set_option maxHeartbeats 4000000
/-! S20: places that change; stores in a row. -/
namespace Mp
open PySem PySem.Spec PyProof.Rows L2
section
variable {C : CC} {L : Lk} {B : Bs} {W : WX} {o : Orc} {X : Cx} {m m0 m1 m2 m' : List Addr} {F F0 F1 F2 F' : Addr → Prop} {H H0 H1 H2 H' : Hp} {E : Env} {st st' st0 st1 : Sto} {σ : L2.St} {Q : V → Hp → Prop} {me a b c : ME} {es : List ME} {k : Bool} {D : Ends} {s : MS} {ss : List MS}
theorem Sim.updOwn {i : Nat} {d d' : Mp.D} {p : Addr} {u : HO} (S : Sim L B m F E st σ H) (e : E[i]? = some (some (.new d))) (e2 : σ[i]? = some (some (.ref p))) (r' : ORep L m F (upd H p u) p d') : Sim L B m F (E.set i (some (.new d'))) st σ (upd H p u) := by
  obtain ⟨x, e3, q, rfl, r, nf, nm, n0⟩ := S.sl i _ e
  rw [e2] at e3; cases e3
  have hi := (List.getElem?_eq_some_iff.mp e).1
  have M : Mono m F H m F (upd H p u) := Mono.updFree nf
  have kp : ∀ a o, a ≠ p → H a = some o → upd H p u a = some o := fun a o ne e => by rw [upd_ne ne]; exact e
  have oth : ∀ j, j ≠ i → ¬ OwnAt E σ j p := fun j hj q => hj (S.ij j i p q ⟨⟨d, e⟩, e2⟩)
  refine ⟨⟨fun n d e => ?_, S.wd.ln, S.wd.nd, fun a fa => ⟨fun z => ?_, (S.wd.ft a fa).2⟩⟩, S.ex.updFree n0 nf, fun j v ej => ?_, by rw [List.length_set]; exact S.ln, fun j k a hj hk => ?_⟩
  · obtain ⟨a, e1, r⟩ := S.wd.ce n d e
    exact ⟨a, e1, r.mono M fun o q => kp a o (fun z => nm (z ▸ List.mem_of_getElem? e1)) q⟩
  · have ne : a ≠ p := fun z => by subst z; exact nf fa
    rw [upd_ne ne] at z
    exact (S.wd.ft a fa).1 z
  · by_cases hj : j = i
    · subst hj
      rw [List.getElem?_set_self hi] at ej
      cases ej
      exact ⟨_, e2, p, rfl, r', nf, nm, n0⟩
    · rw [List.getElem?_set_ne (Ne.symm hj)] at ej
      obtain ⟨x, e1, r⟩ := S.sl j v ej
      refine ⟨x, e1, ?_⟩
      cases v with
      | dat d => exact Rep.mono M _ _ r
      | new d =>
        obtain ⟨a, rfl, r, nf1, nm1, n1⟩ := r
        exact ⟨a, rfl, r.mono M fun o q => kp a o (fun z => oth j hj (by subst z; exact ⟨⟨d, ej⟩, e1⟩)) q, nf1, nm1, n1⟩
      | bor d => exact r
      | xv c fs => obtain ⟨q, e, e2, e3, r⟩ := r; exact ⟨q, e, e2, e3, r.mono M⟩
  · have back : ∀ k, OwnAt (E.set i (some (.new d'))) σ k a → OwnAt E σ k a := fun k ⟨⟨d', q1⟩, q2⟩ => by
      by_cases hk : k = i
      · subst hk; exact ⟨⟨d, e⟩, q2⟩
      · rw [List.getElem?_set_ne (Ne.symm hk)] at q1; exact ⟨⟨d', q1⟩, q2⟩
    exact S.ij j k a (back j hj) (back k hk)
theorem Sim.updCell {n : Nat} {d d' : Mp.D} {p : Addr} {u : HO} (S : Sim L B m F E st σ H) (hn : m[n]? = some p) (hs : st[n]? = some d) (r' : ORep L m F (upd H p u) p d') : Sim L B m F E (st.set n d') σ (upd H p u) := by
  have pm : p ∈ m := List.mem_of_getElem? hn
  have nf : ¬ F p := fun z => (S.wd.ft p z).2 pm
  have M : Mono m F H m F (upd H p u) := Mono.updFree nf
  have kp : ∀ a o, a ≠ p → H a = some o → upd H p u a = some o := fun a o ne e => by rw [upd_ne ne]; exact e
  have hl := (List.getElem?_eq_some_iff.mp hs).1
  refine ⟨⟨fun k d2 e => ?_, by rw [List.length_set]; exact S.wd.ln, S.wd.nd, fun a fa => ⟨fun z => ?_, (S.wd.ft a fa).2⟩⟩, ?_, fun j v ej => ?_, S.ln, S.ij⟩
  · by_cases hk : k = n
    · subst hk
      rw [List.getElem?_set_self hl] at e
      cases e
      exact ⟨p, hn, r'⟩
    · rw [List.getElem?_set_ne (Ne.symm hk)] at e
      obtain ⟨a, e1, r⟩ := S.wd.ce k d2 e
      refine ⟨a, e1, r.mono M fun o q => kp a o (fun z => hk ?_) q⟩
      subst z
      obtain ⟨h1, h2⟩ := List.getElem?_eq_some_iff.mp e1
      exact (List.getElem?_inj h1 S.wd.nd).mp (e1.trans hn.symm)
  · have ne : a ≠ p := fun z => by subst z; exact nf fa
    rw [upd_ne ne] at z
    exact (S.wd.ft a fa).1 z
  · refine ⟨S.ex.mp, S.ex.fm, S.ex.fn, fun a o e h1 h2 => ?_, fun a fa o e => ?_, fun a e => ?_⟩
    · have ne : a ≠ p := fun z => by
        subst z
        obtain ⟨l, hl, hf⟩ := S.ex.mp
        rw [hl] at pm
        rcases List.mem_append.mp pm with q | q
        · exact h1 q
        · rw [hf a q] at e; cases e
      rw [upd_ne ne]
      exact S.ex.kp a o e h1 h2
    · have ne : a ≠ p := fun z => by subst z; exact nf (S.ex.fm _ fa)
      rw [upd_ne ne]
      exact S.ex.st a fa o e
    · by_cases ne : a = p
      · subst ne; rw [upd_same] at e; cases e
      · rw [upd_ne ne] at e; exact S.ex.tr a e
  · obtain ⟨x, e1, r⟩ := S.sl j v ej
    refine ⟨x, e1, ?_⟩
    cases v with
    | dat d => exact Rep.mono M _ _ r
    | new d =>
      obtain ⟨a, rfl, r, nf1, nm1, n1⟩ := r
      exact ⟨a, rfl, r.mono M fun o q => kp a o (fun z => nm1 (by rw [z]; exact pm)) q, nf1, nm1, n1⟩
    | bor d => exact r
    | xv c fs => obtain ⟨q, e, e2, e3, r⟩ := r; exact ⟨q, e, e2, e3, r.mono M⟩
/-- a place (a variable's own container, or a cell) that is changed: f on the data, u in the heap -/
theorem PostS.chg {i : Nat} {f : Mp.D → Option Mp.D} (M0 : Mono m0 F0 H0 m F H) (S : Sim L B m F E st σ H) (h : PostS L B W m0 F0 H0 ((chgE o (.var i) f E st).sr E fun E' st' => .nx E' st') D) :
    ∃ p d d', σ[i]? = some (some (.ref p)) ∧ f d = some d' ∧ ORep L m F H p d ∧ ¬ F p ∧ ∀ u, ORep L m F (upd H p u) p d' → D.nx σ (upd H p u) := by
  unfold chgE at h
  simp only at h
  split at h
  · rename_i d e
    cases ef : f d with
    | none => rw [ef] at h; exact h.elim
    | some d' =>
      rw [ef] at h
      obtain ⟨x, e2, p, rfl, r, nf, nm, n0⟩ := S.sl i _ e
      exact ⟨p, d, d', e2, ef, r, nf, fun u r' => h m F σ _ (M0.trans (Mono.updFree nf)) (S.updOwn e e2 r')⟩
  · rename_i n e
    cases es : st[n]? with
    | none => rw [es] at h; exact h.elim
    | some d =>
      rw [es] at h
      cases ef : f d with
      | none => simp only [Option.bind_some, ef] at h; exact h.elim
      | some d' =>
        simp only [Option.bind_some, ef] at h
        obtain ⟨x, e2, r⟩ := S.sl i _ e
        simp only [SlR, Rep] at r
        obtain ⟨p, rfl, hp⟩ := r
        obtain ⟨p', e1, r⟩ := S.wd.ce n d es
        rw [hp] at e1; cases e1
        have nf : ¬ F p := fun z => (S.wd.ft p z).2 (List.mem_of_getElem? hp)
        exact ⟨p, d, d', e2, ef, r, nf, fun u r' => h m F σ _ (M0.trans (Mono.updFree nf)) (S.updCell hp es r')⟩
  · exact h.elim
theorem bind_sr {α : Type} (r : ER Val) (f : Val → Sto → ER α) (E : Env) (g : α → Sto → SR) : (r.bind f).sr E g = r.sr E fun a st => (f a st).sr E g := by cases r <;> rfl
/-- xs[i] = e, xs a variable -/
theorem tS_sub {i : Nat} {b : ME} (h : tS L B W o (.asg (.sub (.var i) b) me) D σ H) : tAsg (tE L B W o me) (gSub (tVar i) (tE L B W o b) rSetL) D σ H := by
  obtain ⟨m, F, E, st, S, h⟩ := h
  rw [exS] at h
  refine tE.mono (fun x H1 ⟨m1, F1, st1, v, X1, M1, S1, r1, h1⟩ => ?_) (tE_sr Mono.refl S h)
  rw [tgF] at h1
  cases hpl : plcB (.var i) E with
  | false => rw [hpl] at h1; exact h1.elim
  | true =>
  rw [hpl, if_pos rfl] at h1
  obtain ⟨x0, e0⟩ : ∃ x0, σ[i]? = some (some x0) := by
    simp only [plcB] at hpl
    split at hpl
    · rename_i v0 e; obtain ⟨x, e1, _⟩ := S.sl i _ e; exact ⟨x, e1⟩
    · cases hpl
  cases hk : v.kp with
  | none => rw [hk] at h1; exact h1.elim
  | some d =>
    rw [hk] at h1
    have h1 : PostS L B W m F H (((evE o b E st1).bind fun x st1 => (ER.opt x.kp st1).bind fun j st2 => chgE o (.var i) (fun c => setSub c j d) E st2).sr E fun E' st2 => .nx E' st2) D := h1
    rw [bind_sr] at h1
    obtain ⟨F', X', S', r', mF, _⟩ := VRep.kept X1 S.beg S1 r1 hk
    have M1' : Mono m F H m1 F' H1 := M1.trans ⟨fun _ _ z => z, mF, fun _ _ => Stay.refl⟩
    have key := tE_sr M1' S' h1
    have fin : ∀ y H2, (∃ m2 F2 st2 w, Ext m1 F' H1 m2 F2 H2 ∧ Mono m F H m2 F2 H2 ∧ Sim L B m2 F2 E st2 σ H2 ∧ VRep L m2 F2 H2 E σ H1 w y ∧ PostS L B W m F H (((ER.opt w.kp st2).bind fun j st2 => chgE o (.var i) (fun c => setSub c j d) E st2).sr E fun E' st2 => .nx E' st2) D) →
        ∃ p, σ[i]? = some (some (.ref p)) ∧ rSetL (.ref p) y x H2 (fun H3 => D.nx σ H3) := fun y H2 ⟨m2, F2, st2, w, X2, M2, S2, r2, h2⟩ => by
      cases hk2 : w.kp with
      | none => rw [hk2] at h2; exact h2.elim
      | some j =>
        rw [hk2] at h2
        have h2 : PostS L B W m F H ((chgE o (.var i) (fun c => setSub c j d) E st2).sr E fun E' st2 => .nx E' st2) D := h2
        obtain ⟨p, d0, d1, ep, ef, ro, nf, hq⟩ := PostS.chg M2 S2 h2
        have hx := Rep.mono X2.mono _ _ r'
        cases d0 <;> simp only [setSub] at ef <;> try contradiction
        rename_i xs
        cases j <;> simp only at ef <;> try contradiction
        rename_i k _
        simp only [Option.map_eq_some_iff] at ef
        obtain ⟨n, en, rfl⟩ := ef
        simp only [ORep] at ro
        obtain ⟨vs, eH, rl, z⟩ := ro
        have ey : y = .int k := by
          cases w with
          | dat e => cases hk2; exact r2
          | new e => obtain ⟨rfl, _⟩ := kp_new hk2; obtain ⟨_, _, r3, _⟩ := r2; simp only [ORep] at r3
          | bor e => cases hk2
          | xv c fs => cases hk2
        refine ⟨p, ep, p, vs, k, n, rfl, ey, eH, by rw [ixN_idx, ← rl.len]; exact en, hq _ ?_⟩
        simp only [ORep]
        have M3 : Mono m2 F2 H2 m2 F2 (upd H2 p (.lst (vs.set n x))) := Mono.updFree nf
        exact ⟨_, upd_same, RepL.mono M3 _ _ (rl.set n hx), by rw [List.length_set]; exact z⟩
    refine ⟨x0, e0, tE.mono (fun y H2 z => ?_) key⟩
    obtain ⟨p, ep, q⟩ := fin y H2 z
    rw [e0] at ep; cases ep
    exact q
end
end Mp

end
section
set_option Elab.async false
set_option linter.all false
set_option maxRecDepth 100000
set_option maxHeartbeats 4000000
/-! S21: insert, stores in a row, a comprehension's name. -/
namespace Mp
open PySem PySem.Spec PyProof.Rows L2
def slots : List Tg → Option (List Nat)
  | [] => some []
  | .v i :: r => (slots r).map (i :: ·)
  | _ :: _ => none
def setSl : List Nat → List V → L2.St → L2.St
  | i :: is, x :: xs, σ => setSl is xs (σ.set i (some x))
  | _, _, σ => σ
section
variable {C : CC} {L : Lk} {B : Bs} {W : WX} {o : Orc} {X : Cx} {m m0 m1 m2 m' : List Addr} {F F0 F1 F2 F' : Addr → Prop} {H H0 H1 H2 H' : Hp} {E : Env} {st st' st0 st1 : Sto} {σ : L2.St} {Q : V → Hp → Prop} {me a b c : ME} {es : List ME} {k : Bool} {D : Ends} {s : MS} {ss : List MS}
theorem PostS.plcL {i : Nat} {r : SR} (S : Sim L B m F E st σ H) (h : PostS L B W m0 F0 H0 (if !Mp.plcL (.var i) E st then .bad else r) D) : PostS L B W m0 F0 H0 r D ∧ ∃ p xs, σ[i]? = some (some (.ref p)) ∧ H p = some (.lst xs) := by
  cases hp : Mp.plcL (.var i) E st with
  | false => rw [hp] at h; exact h.elim
  | true =>
    rw [hp] at h
    refine ⟨h, ?_⟩
    simp only [Mp.plcL] at hp
    split at hp
    · rename_i xs e
      obtain ⟨x, e1, p, rfl, r, _⟩ := S.sl i _ e
      simp only [ORep] at r
      obtain ⟨vs, e2, _⟩ := r
      exact ⟨p, vs, e1, e2⟩
    · rename_i n e
      obtain ⟨x, e1, r⟩ := S.sl i _ e
      simp only [SlR, Rep] at r
      obtain ⟨p, rfl, hm⟩ := r
      split at hp
      · rename_i xs es
        obtain ⟨p', e2, r⟩ := S.wd.ce n _ es
        rw [hm] at e2; cases e2
        simp only [ORep] at r
        obtain ⟨vs, e2, _⟩ := r
        exact ⟨p, vs, e1, e2⟩
      · cases hp
    · cases hp
/-- xs.insert(i, e) -/
theorem tS_ins {i : Nat} (h : tS L B W o (.ins (.var i) a b) D σ H) : tDrop (tBM X.K "list" (fun x vs H Q => ∃ (l : Addr) (xs : List V) (i : Int) (y : V), x = .ref l ∧ vs = [.int i, y] ∧ H l = some (.lst xs) ∧ xs.length < sizeLine ∧ 0 ≤ i ∧ i < 2 ^ 63 ∧
    Q .non (upd H l (.lst (xs.take i.toNat ++ [y] ++ xs.drop i.toNat)))) (tVar i) (tCons (tE L B W o a) (tCons (tE L B W o b) tNil))) D σ H := by
  obtain ⟨m, F, E, st, S, h⟩ := h
  rw [exS] at h
  obtain ⟨h, p, xs, ep, eH⟩ := PostS.plcL S h
  refine ⟨_, ep, .inl ⟨rfl, xs, .inl (.inl eH)⟩, ?_⟩
  refine tE.mono (fun y H1 ⟨m1, F1, st1, w, X1, M1, S1, r1, h1⟩ => ?_) (tE_sr Mono.refl S h)
  refine tE.mono (fun x H2 ⟨m2, F2, st2, v, X2, M2, S2, r2, h2⟩ => ?_) (tE_sr M1 S1 h1)
  cases e1 : w.d with
  | int k =>
    rw [e1] at h2
    cases hk : v.kp with
    | none => rw [hk] at h2; exact h2.elim
    | some d =>
      rw [hk] at h2
      obtain ⟨F', X', S', r', mF, _⟩ := VRep.kept X2 S1.beg S2 r2 hk
      obtain ⟨q, d0, d1, eq, ef, ro, nf, hq⟩ := PostS.chg (M2.trans ⟨fun _ _ z => z, mF, fun _ _ => Stay.refl⟩) S' h2
      rw [ep] at eq
      cases eq
      have hw : w.d ≠ .bad := by rw [e1]; exact fun z => nomatch z
      have ey : y = .int k := (r1.ext X2).int S2 e1
      cases d0 <;> simp only at ef <;> try contradiction
      rename_i ds
      split at ef
      · rename_i hz
        cases ef
        simp only [ORep] at ro
        obtain ⟨vs, e2, rl, z⟩ := ro
        refine ⟨p, vs, k, x, rfl, by rw [ey], e2, by rw [← rl.len]; exact szLt (Nat.le_of_lt hz.1), hz.2.1, by have := hz.2.2; omega, hq _ ?_⟩
        simp only [ORep]
        have M3 : Mono m2 F' H2 m2 F' (upd H2 p (.lst (vs.take k.toNat ++ [x] ++ vs.drop k.toNat))) := Mono.updFree nf
        refine ⟨_, upd_same, RepL.mono M3 _ _ ?_, ?_⟩
        · have e3 : ds.take (clampI ds.length k) = ds.take k.toNat ∧ ds.drop (clampI ds.length k) = ds.drop k.toNat := by
            unfold clampI
            rw [if_neg (by omega)]
            by_cases hlt : k.toNat ≤ ds.length
            · rw [Nat.min_eq_left hlt]; exact ⟨rfl, rfl⟩
            · rw [Nat.min_eq_right (by omega), List.take_of_length_le (Nat.le_refl _), List.take_of_length_le (by omega), List.drop_eq_nil_of_le (Nat.le_refl _), List.drop_eq_nil_of_le (by omega)]
              exact ⟨rfl, rfl⟩
          rw [e3.1, e3.2, List.append_assoc]
          exact (rl.take _).append (by simp only [List.singleton_append, RepL]; exact ⟨r', rl.drop _⟩)
        · have h1 := hz.1
          simp only [List.length_append, List.length_cons, List.length_take, List.length_drop]
          omega
      · cases ef
  | _ => rw [e1] at h2; exact h2.elim
theorem strInsert : ("insert" : Str) = ("insert" : Str) := rfl
theorem ps_insM (f : Fx C L o B X W) {i : Nat} {x : Str} {e1 e2 : Expr} {ap cp p : Pos} {q : Pos} (hv : visB C i x = true) (h1 : okE e1 = true) (h2 : okE e2 = true) (hl : (ap.endLine == cp.line) = true) (ha : PE X e1 (tE L B W o a)) (hb : PE X e2 (tE L B W o b)) :
    PS X (.Expr (.Call (.Attribute (.Name x q) ("insert" : Str) ap) [e1, e2] [] cp) p) (tS L B W o (.ins (.var i) a b)) := by
  obtain ⟨g1, g2, g3, g4⟩ := f.vis hv
  refine (ps_expr (pe_bm PySem.F.plainAttrs_list PySem.F.slot_list_insert PySem.F.type_list_insert mt_insert (pe_var g1 g2 g3 g4) (pa_cons ha (pa_cons hb pa_nil (okE_star h2 _ _)) (okE_star h1 _ _)) rfl ?_ hl (okE_star h1 _ _) (allOk_any (by simp [h2]))) rfl).imp fun D σ H h => tS_ins h
  rw [okE_star h1, okE_star h2]
  rfl
/-! stores in a row -/
theorem Sim.set' {i : Nat} {v : Val} {x : V} (S : Sim L B m F E st σ H) (r : SlR L B m F H i v x) (hi : i < E.length) (hv : (∃ d, v = .dat d) ∨ ∃ d, v = .new d) (no : ∀ d a, v = .new d → x = .ref a → ∀ j, j ≠ i → ¬ OwnAt E σ j a) :
    Sim L B m F (E.set i (some v)) st (σ.set i (some x)) H := by
  have hi2 : i < σ.length := by rw [← S.ln]; exact hi
  have back : ∀ k a, k ≠ i → OwnAt (E.set i (some v)) (σ.set i (some x)) k a → OwnAt E σ k a := fun k a hk ⟨⟨d', q1⟩, q2⟩ => by
    rw [List.getElem?_set_ne (Ne.symm hk)] at q1 q2
    exact ⟨⟨d', q1⟩, q2⟩
  have own : ∀ a, OwnAt (E.set i (some v)) (σ.set i (some x)) i a → ∃ d, v = .new d ∧ x = .ref a := fun a ⟨⟨d', q1⟩, q2⟩ => by
    rw [List.getElem?_set_self hi] at q1
    rw [List.getElem?_set_self hi2] at q2
    cases q1; cases q2
    exact ⟨d', rfl, rfl⟩
  refine ⟨S.wd, S.ex, fun j w e => ?_, by simp [S.ln], fun j k a hj hk => ?_⟩
  · by_cases hj : j = i
    · subst hj
      rw [List.getElem?_set_self hi] at e
      cases e
      exact ⟨x, List.getElem?_set_self hi2, r⟩
    · rw [List.getElem?_set_ne (Ne.symm hj)] at e
      obtain ⟨y, e1, r1⟩ := S.sl j w e
      exact ⟨y, by rw [List.getElem?_set_ne (Ne.symm hj)]; exact e1, r1⟩
  · by_cases h1 : j = i
    · by_cases h2 : k = i
      · rw [h1, h2]
      · obtain ⟨d, e1, e2⟩ := own a (h1 ▸ hj)
        exact absurd (back k a h2 hk) (no d a e1 e2 k h2)
    · by_cases h2 : k = i
      · obtain ⟨d, e1, e2⟩ := own a (h2 ▸ hk)
        exact absurd (back j a h1 hj) (no d a e1 e2 j h1)
      · exact S.ij j k a (back j a h1 hj) (back k a h2 hk)
/-- a value that a slot may take, told without the state -/
def VN (L : Lk) (B : Bs) (m : List Addr) (F : Addr → Prop) (H : Hp) : Val → V → Prop
  | .dat d, x => Rep L m F H d x
  | .new d, x => ∃ a, x = .ref a ∧ ORep L m F H a d ∧ ¬ F a ∧ a ∉ m ∧ B.H a = none
  | .bor _, _ => True
  | .xv _ _, _ => True
def VNL (L : Lk) (B : Bs) (m : List Addr) (F : Addr → Prop) (H : Hp) : List Val → List V → Prop
  | [], [] => True
  | v :: vs, x :: xs => VN L B m F H v x ∧ VNL L B m F H vs xs
  | _, _ => False
theorem VsL.vn (tr : ∀ a, H0 a = none → B.H a = none) : ∀ {vs : List Val} {xs : List V}, VsL L m F H E σ H0 vs xs → VNL L B m F H vs xs
  | [], [], _ => trivial
  | v :: vs, x :: xs, h => by
    refine ⟨?_, VsL.vn tr h.2⟩
    have h1 := h.1
    cases v with
    | dat d => exact h1
    | new d => obtain ⟨a, e, r, nf, nm, n0⟩ := h1; exact ⟨a, e, r, nf, nm, tr a n0⟩
    | bor d => trivial
    | xv c fs => trivial
theorem VNL.ext (X1 : Ext m F H m' F' H') : ∀ {vs : List Val} {xs : List V}, VNL L B m F H vs xs → VNL L B m' F' H' vs xs
  | [], [], _ => trivial
  | v :: vs, x :: xs, h => by
    refine ⟨?_, VNL.ext X1 h.2⟩
    have h1 := h.1
    cases v with
    | dat d => exact Rep.mono X1.mono _ _ h1
    | new d =>
      obtain ⟨a, e, r, nf, nm, n0⟩ := h1
      obtain ⟨k, nf', nm'⟩ := X1.own r.there nm nf
      exact ⟨a, e, r.mono X1.mono k, nf', nm', n0⟩
    | bor d => trivial
    | xv c fs => trivial
theorem tgL_v {f : Env → Sto → SR} {E0 : Env} : ∀ {ts : List Tg} {is : List Nat} {vs : List Val} {xs : List V} {E : Env} {σ : L2.St}, slots ts = some is → Sim L B m F E st σ H → VNL L B m F H vs xs → (news vs xs).Nodup → (∀ a, V.ref a ∈ news vs xs → ∀ j, ¬ OwnAt E σ j a) →
    PostS L B W m0 F0 H0 ((tgL o ts vs E st).sr E0 f) D → ∃ E', Sim L B m F E' st (setSl is xs σ) H ∧ PostS L B W m0 F0 H0 (f E' st) D ∧ is.length = xs.length
  | [], is, vs, xs, E, σ, hs, S, hv, nd, no, h => by
    cases hs
    cases vs with
    | nil =>
      cases xs with
      | nil => rw [tgL] at h; exact ⟨E, S, h, rfl⟩
      | cons => exact hv.elim
    | cons v vs => rw [tgL] at h; exact h.elim; all_goals (intros; simp_all)
  | .v i :: ts, is, vs, xs, E, σ, hs, S, hv, nd, no, h => by
    simp only [slots, Option.map_eq_some_iff] at hs
    obtain ⟨is', hs, rfl⟩ := hs
    cases vs with
    | nil => rw [tgL] at h; exact h.elim; all_goals (intros; simp_all)
    | cons v vs =>
      cases xs with
      | nil => exact hv.elim
      | cons x xs =>
        rw [tgL] at h
        have hh : i < E.length ∧ ((∃ d, v = .dat d) ∨ ∃ d, v = .new d) ∧ PostS L B W m0 F0 H0 ((tgL o ts vs (E.set i (some v)) st).sr E0 f) D := by
          cases v with
          | dat d =>
            simp only [tgF] at h
            by_cases hi : i < E.length
            · rw [if_pos hi] at h; exact ⟨hi, .inl ⟨d, rfl⟩, h⟩
            · rw [if_neg hi] at h; exact h.elim
          | new d =>
            simp only [tgF] at h
            by_cases hi : i < E.length
            · rw [if_pos hi] at h; exact ⟨hi, .inr ⟨d, rfl⟩, h⟩
            · rw [if_neg hi] at h; exact h.elim
          | bor d => simp only [tgF] at h; exact h.elim
          | xv c fs => simp only [tgF] at h; exact h.elim
        obtain ⟨hi, hdn, h2⟩ := hh
        simp only [news] at nd no
        rw [List.nodup_append] at nd
        have r : SlR L B m F H i v x := by
          have h1 := hv.1
          rcases hdn with ⟨d, rfl⟩ | ⟨d, rfl⟩
          · exact h1
          · exact h1
        have S1 := S.set' r hi hdn fun d a e1 e2 j hj => no a (List.mem_append_left _ (by rw [e1, e2]; simp)) j
        obtain ⟨E', S2, h3, hl⟩ := tgL_v hs S1 hv.2 nd.2.1 (fun a ha j q => by
          by_cases hj : j = i
          · subst hj
            obtain ⟨⟨d, q1⟩, q2⟩ := q
            rw [List.getElem?_set_self hi] at q1
            rw [List.getElem?_set_self (by rw [← S.ln]; exact hi)] at q2
            cases q1; cases q2
            exact nd.2.2 (.ref a) (by simp) (.ref a) ha rfl
          · obtain ⟨⟨d, q1⟩, q2⟩ := q
            rw [List.getElem?_set_ne (Ne.symm hj)] at q1 q2
            exact no a (List.mem_append_right _ ha) j ⟨⟨d, q1⟩, q2⟩) h2
        exact ⟨E', S2, h3, by simp [hl]⟩
  | .fld .. :: _, _, _, _, _, _, hs, _, _, _, _, _ => by simp [slots] at hs
  | .sub .. :: _, _, _, _, _, _, hs, _, _, _, _, _ => by simp [slots] at hs
  | .t .. :: _, _, _, _, _, _, hs, _, _, _, _, _ => by simp [slots] at hs
theorem tL_sr {f : List Val → Sto → SR} (X0 : Mono m0 F0 H0 m F H) (S : Sim L B m F E st σ H) (h : PostS L B W m0 F0 H0 ((evL o es E st).sr E f) D) :
    tL L B W o es σ H (fun xs H1 => ∃ m1 F1 st1 vs, Ext m F H m1 F1 H1 ∧ Mono m0 F0 H0 m1 F1 H1 ∧ Sim L B m1 F1 E st1 σ H1 ∧ VsRep L m1 F1 H1 E σ H vs xs ∧ evL o es E st = .ok vs st1 ∧ PostS L B W m0 F0 H0 (f vs st1) D) := by
  refine ⟨m, F, E, st, S, ?_⟩
  cases e : evL o es E st with
  | ok v st1 =>
    rw [e] at h
    exact fun m1 F1 x H1 a b c => ⟨m1, F1, st1, v, a, X0.trans a.mono, b, c, rfl, h⟩
  | ex xc st1 =>
    rw [e] at h
    exact fun m1 F1 H1 cls d a b c => h m1 F1 σ H1 cls d (X0.trans a.mono) b c
  | bad =>
    rw [e] at h
    exact h
/-- a, b = e, f by the swap -/
theorem tS_par {ts : List Tg} {i j : Nat} (hs : slots ts = some [i, j]) (h : tS L B W o (.par ts es) D σ H) : tPar i j (tL L B W o es) D σ H := by
  obtain ⟨m, F, E, st, S, h⟩ := h
  rw [exS] at h
  refine tL.mono (fun xs H1 ⟨m1, F1, st1, vs, X1, M1, S1, r1, e1, h1⟩ => ?_) (tL_sr Mono.refl S h)
  obtain ⟨E', S2, h2, hl⟩ := tgL_v hs S1 (r1.al.vn S.ex.tr) r1.nd (fun a ha j q => by
    obtain ⟨a', e, n⟩ := news_fresh r1.al _ ha
    cases e
    exact S.ownThere q n) h1
  match xs, hl with
  | [x, y], _ => exact ⟨x, y, rfl, h2 m1 F1 _ H1 M1 S2⟩
/-- a, b, .. = e, f, .. by the tuple -/
theorem tS_parT {ts : List Tg} {is : List Nat} (hs : slots ts = some is) (hz : es.length ≤ szMax) (h : tS L B W o (.par ts es) D σ H) :
    tAsg (tTup (tL L B W o es)) (fun v σ H Q => ∃ a xs, v = .ref a ∧ SqT X.K H a xs ∧ xs.length = is.length ∧ Q (setSl is xs σ) H) D σ H := by
  obtain ⟨m, F, E, st, S, h⟩ := h
  rw [exS] at h
  refine tL.mono (fun xs H1 ⟨m1, F1, st1, vs, X1, M1, S1, r1, e1, h1⟩ => ?_) (tL_sr Mono.refl S h)
  have hlen : xs.length = es.length := by rw [← VsL.len r1.al, evL_len e1]
  refine ⟨by rw [hlen]; exact Nat.le_trans hz szLine, fun p hp => ?_⟩
  have Xf : Ext m1 F1 H1 m1 F1 (upd H1 p (.tup xs)) := Ext.fresh hp
  obtain ⟨E', S2, h2, hl⟩ := tgL_v hs (S1.fresh (u := .tup xs) hp) ((r1.al.vn S.ex.tr).ext Xf) r1.nd (fun a ha j q => by
    obtain ⟨a', e, n⟩ := news_fresh r1.al _ ha
    cases e
    exact S.ownThere q n) h1
  exact ⟨p, xs, rfl, .inl (.inl upd_same), hl.symm, h2 m1 F1 _ _ (M1.trans Xf.mono) S2⟩
end
end Mp

end
section
set_option Elab.async false
set_option linter.all false
set_option maxRecDepth 100000
set_option maxHeartbeats 4000000
/-! S22: raise, try; the checker of statements. -/
namespace Mp
open PySem PySem.Spec PyProof.Rows L2
/-- making an own exception -/
def XMk (X : Cx) (L : Lk) (o : Orc) (c : Nat) (x : Str) : Prop := ∀ (l : List Expr) (p p2 : Pos) (t : TA), PA X l t → l.all okE = true → l.length = (o.flds c).length → Gl X x → (x == ("__debug__" : Str)) = false →
  L2N.PMk X (.Call (.Name x p) l [] p2) (fun σ H Q => t σ H fun vs H1 => (o.flds c = [] → Q (.ref (L.cad c)) none H1) ∧ (o.flds c ≠ [] → vs.length = (o.flds c).length ∧ ∀ d, H1 d = none → Q (.ref (L.cad c)) (some d) (upd H1 d (.xd (((o.flds c).map L.nm).zip vs)))))
def XcM (P : Program) (w : World) (K : PySem.W.Frag) (mg : Str → Option Value) (base : Heap) (A : Around) (L : Lk) (o : Orc) (c : Nat) (x : Str) : Prop := ∀ X : Cx, X.prog = P → X.w = w → X.K = K → X.mg = mg → X.base = base → X.A = A → XMk X L o c x
structure Sx (C : CC) (L : Lk) (o : Orc) (B : Bs) (X : Cx) (W : WX) : Prop where
  fx : Fx C L o B X W
  kd : C.sc.kind = .function
  po : PassesOwn (model X.prog X.w) X.A X.env X.xe
  hs : X.stack = X.env :: X.outer
  hf : X.env.frame = some X.env.locals
  mkx : C.cold = true → ∀ c x, C.nm.cls[c]? = some x → (o.sup c).contains c = true → C.nm.ar[c]? = some (o.flds c).length → XcM X.prog X.w X.K X.mg X.base X.A L o c x
  ar : ∀ c n, n < 1000 → C.nm.ar[c]? = some n → (o.flds c).length = n
  em : ∀ c' c x, C.nm.cls[c]? = some x → (o.sup c').contains c' = true → PySem.W.exmOne X.K (.ref (L.cad c')) (.ref (L.cad c)) = some ((o.sup c').contains c)
section
variable {C : CC} {L : Lk} {B : Bs} {W : WX} {o : Orc} {X : Cx} {m m0 m1 m2 m' : List Addr} {F F0 F1 F2 F' : Addr → Prop} {H H0 H1 H2 H' : Hp} {E : Env} {st st' st0 st1 : Sto} {σ : L2.St} {Q : V → Hp → Prop} {me a b c : ME} {es : List ME} {k : Bool} {D : Ends} {s : MS} {ss : List MS}
theorem RepF.zip : ∀ {ks : List Nat} {ds : List Mp.D} {vs : List V}, RepL L m F H ds vs → RepF L m F H (ks.zip ds) ((ks.map L.nm).zip vs)
  | [], _, _, _ => by simp [RepF]
  | _ :: _, [], [], _ => by simp [RepF]
  | k :: ks, d :: ds, v :: vs, h => by
    simp only [RepL] at h
    simp only [List.zip_cons_cons, List.map_cons, RepF]
    exact ⟨trivial, h.1, RepF.zip h.2⟩
  | _ :: _, [], _ :: _, h => by simp only [RepL] at h
  | _ :: _, _ :: _, [], h => by simp only [RepL] at h
theorem ps_raisM (f : Sx C L o B X W) (hc : C.cold = true) {c : Nat} {x : Str} {l : List Expr} {p p2 p3 : Pos} (hx : C.nm.cls[c]? = some x) (hg : glB C x = true) (hl : l.all okE = true) (har : C.nm.ar[c]? = some l.length) (hk : l.length < 1000) (hlen2 : es.length = l.length) (ha : PA X l (tL L B W o es)) :
    PS X (.Raise (some (.Call (.Name x p) l [] p2)) none p3) (tS L B W o (.rais c es)) := by
  obtain ⟨g1, g2, g3⟩ := f.fx.gl hg
  have hlen : l.length = (o.flds c).length := (f.ar c _ hk har).symm
  by_cases hv : (o.sup c).contains c = true
  · have mk := f.mkx hc c x hx hv (by rw [← hlen]; exact har) X rfl rfl rfl rfl rfl rfl l p p2 _ ha hl hlen g1 g2
    refine (L2N.ps_raise (f.fx.cold hc) f.fx.tk mk).imp fun D σ H ⟨m, F, E, st, S, h⟩ => ?_
    rw [exS, hv] at h
    have h : PostS L B W m F H ((evL o es E st).sr E fun vs st1 => match (kpL vs).bind (excF o c) with | some fs => .ex ⟨c, fs⟩ E st1 | none => .bad) D := h
    refine tL.mono (fun xs H1 ⟨m1, F1, st1, vs, X1, M1, S1, r1, e1, h1⟩ => ?_) (tL_sr Mono.refl S h)
    cases ek : kpL vs with
    | none => rw [ek] at h1; exact h1.elim
    | some ds =>
      rw [ek] at h1
      simp only [Option.bind_some] at h1
      obtain ⟨F', X', S', r', mF, _⟩ := VsRep.kept X1 S.beg S1 r1.al r1.nd ek
      have M1' : Mono m F H m1 F' H1 := M1.trans ⟨fun _ _ z => z, mF, fun _ _ => Stay.refl⟩
      cases ex : excF o c ds with
      | none => rw [ex] at h1; exact h1.elim
      | some fs =>
        rw [ex] at h1
        unfold excF at ex
        split at ex
        · cases ex
          rename_i hln
          refine ⟨fun hf => ?_, fun hf => ⟨r'.len.symm.trans (by exact (eq_of_beq hln).symm), fun d hd => ?_⟩⟩
          · refine h1 m1 F' σ H1 _ none M1' S' ⟨rfl, ?_⟩
            rw [hf]; rfl
          · have Xf : Ext m1 F' H1 m1 F' (upd H1 d (.xd (((o.flds c).map L.nm).zip xs))) := Ext.fresh hd
            have Sf := S'.fresh (u := .xd (((o.flds c).map L.nm).zip xs)) hd
            have Sk := Sf.keep (p := d) (by rw [upd_same]; exact fun z => nomatch z) (S'.notcell hd) (fun j q => S'.noown hd j q) (S'.ex.tr d hd)
            have Mk : Mono m1 F' H1 m1 (Fp F' d) (upd H1 d (.xd (((o.flds c).map L.nm).zip xs))) := Xf.mono.trans Mono.fp
            exact h1 m1 (Fp F' d) σ _ _ (some d) (M1'.trans Mk) Sk ⟨rfl, .inr rfl, _, upd_same, RepF.mono Mk _ _ (RepF.zip r')⟩
        · cases ex
  · -- no class of that number
    refine ⟨fun pins s σ H D I ⟨m, F, E, st, S, h⟩ => ?_⟩
    rw [exS] at h
    have : (o.sup c).contains c = false := by simpa using hv
    rw [this] at h
    exact h.elim
/-- the context of an except suite -/
def CC.hot (C : CC) : CC := { C with cold := false }
theorem Sx.suite (f : Sx C L o B X W) {i : Nat} {a : Addr} {oe : Obj} {cls : Value} {d : Option Addr} {pn : List (Addr × Obj)} (hz : L2N.Zn cls d oe) (hv : ∃ vs, oe.data = .fields vs) : Sx C.hot L o { B with x := some ⟨i, a, cls, d⟩ } (X.suite a ((a, oe) :: pn)) wNo := by
  have F := f.fx
  refine ⟨⟨F.K, F.hu, F.gd, F.N, F.nd, F.sc, (fun z => nomatch z), F.fl, ?_, F.blt, (fun z => nomatch z), (fun z => nomatch z), fun q e => ?_, F.cl, F.xk, F.xf, F.fi, F.nm⟩, f.kd, PassesOwn.never, f.hs, f.hf, (fun z => nomatch z), f.ar, f.em⟩
  · rintro u s' ⟨_, _, _, _, _, _, _, _, _, _, _, _, _, _, _, _, w⟩
    exact w
  · cases e
    exact ⟨X, oe, pn, rfl, hz.zc, hv⟩
theorem Sx.tr (f : Sx C L o B X W) {W' : WX} {pn : List (Addr × Obj)} {xe : Value → Shared → Prop} (tk : L2N.Takes (X.tr pn xe) W') (po : PassesOwn (model X.prog X.w) X.A X.env xe) (hx : B.x = none) : Sx C L o B (X.tr pn xe) W' := by
  have F := f.fx
  refine ⟨⟨F.K, F.hu, F.gd, F.N, F.nd, F.sc, F.cold, F.fl, tk, F.blt, fun c i x e => ?_, F.cx, fun q e => ?_, F.cl, F.xk, F.xf, F.fi, F.nm⟩, f.kd, po, f.hs, f.hf, f.mkx, f.ar, f.em⟩
  · obtain ⟨h1, h2, h3⟩ := F.fn c i x e
    exact ⟨h1, h2, h3⟩
  · rw [hx] at e; cases e
theorem Sim.noxv (S : Sim L B m F E st σ H) (hx : B.x = none) {i c : Nat} {fs : List (Nat × Mp.D)} (e : E[i]? = some (some (.xv c fs))) : False := by
  obtain ⟨x, _, q, h, _⟩ := S.sl i _ e
  rw [hx] at h; cases h
/-- into an except suite: the exception in slot i -/
theorem Sim.enter (S : Sim L B m F E st σ H) (hx : B.x = none) {i c : Nat} {fs : List (Nat × Mp.D)} {cls : Value} {d : Option Addr} {p : Addr} (hi : i < E.length) (r : XRep L m F H c fs cls d) :
    Sim L { B with x := some ⟨i, p, cls, d⟩ } m F (E.set i (some (.xv c fs))) st (σ.set i (some (.ref p))) H := by
  have hi2 : i < σ.length := by rw [← S.ln]; exact hi
  refine ⟨S.wd, S.ex, fun j v e => ?_, by simp [S.ln], fun j k a hj hk => ?_⟩
  · by_cases hj : j = i
    · subst hj
      rw [List.getElem?_set_self hi] at e
      cases e
      exact ⟨_, List.getElem?_set_self hi2, _, rfl, rfl, rfl, r⟩
    · rw [List.getElem?_set_ne (Ne.symm hj)] at e
      obtain ⟨x, e1, r1⟩ := S.sl j v e
      refine ⟨x, by rw [List.getElem?_set_ne (Ne.symm hj)]; exact e1, ?_⟩
      cases v with
      | dat d => exact r1
      | new d => exact r1
      | bor d => exact r1
      | xv c fs => exact (S.noxv hx e).elim
  · have back : ∀ k, OwnAt (E.set i (some (.xv c fs))) (σ.set i (some (.ref p))) k a → OwnAt E σ k a := fun k ⟨⟨d', q1⟩, q2⟩ => by
      by_cases hk : k = i
      · subst hk; rw [List.getElem?_set_self hi] at q1; cases q1
      · rw [List.getElem?_set_ne (Ne.symm hk)] at q1 q2; exact ⟨⟨d', q1⟩, q2⟩
    exact S.ij j k a (back j hj) (back k hk)
/-- out of it: the slot let go -/
theorem Sim.left {q : Xi} (S : Sim L { B with x := some q } m F E st σ H) : Sim L B m F (E.set q.i none) st (σ.set q.i none) H := by
  refine ⟨S.wd, S.ex, fun j v e => ?_, by simp [S.ln], fun j k a hj hk => ?_⟩
  · by_cases hj : j = q.i
    · subst hj
      by_cases hl : q.i < E.length
      · rw [List.getElem?_set_self hl] at e; cases e
      · rw [List.getElem?_eq_none (by simp; omega)] at e; cases e
    · rw [List.getElem?_set_ne (Ne.symm hj)] at e
      obtain ⟨x, e1, r1⟩ := S.sl j v e
      refine ⟨x, by rw [List.getElem?_set_ne (Ne.symm hj)]; exact e1, ?_⟩
      cases v with
      | dat d => exact r1
      | new d => exact r1
      | bor d => exact r1
      | xv c fs =>
        obtain ⟨q', h1, h2, _⟩ := r1
        cases h1
        exact absurd h2.symm hj
  · have back : ∀ k, OwnAt (E.set q.i none) (σ.set q.i none) k a → OwnAt E σ k a := fun k ⟨⟨d', q1⟩, q2⟩ => by
      by_cases hk : k = q.i
      · subst hk
        by_cases hl : q.i < E.length
        · rw [List.getElem?_set_self hl] at q1; cases q1
        · rw [List.getElem?_eq_none (by simp; omega)] at q1; cases q1
      · rw [List.getElem?_set_ne (Ne.symm hk)] at q1 q2; exact ⟨⟨d', q1⟩, q2⟩
    exact S.ij j k a (back j hj) (back k hk)
/-- try: body, except x as n: suite -/
theorem ps_tr1M (f : Sx C L o B X W) (hc : C.cold = true) {c i : Nat} {x n : Str} {sb sh : List MS} {body suite : List Stmt} {b₀ : Stmt} {np pos' pos : Pos} (hx : C.nm.cls[c]? = some x) (hg : glB C x = true) (hn : C.N[i]? = some n) (hl : C.sc.names.lookup n = some .local)
    (hb : ∀ X' W', Sx C L o B X' W' → PSs X' body (tB L B W' o sb)) (hh : ∀ B' X' W', Sx C.hot L o B' X' W' → PSs X' (b₀ :: suite) (tB L B' W' o sh)) :
    PS X (.Try body [.ExceptHandler (some (.Name x np)) (some n) (b₀ :: suite) pos'] [] [] pos) (tS L B W o (.tr sb [(c, some i, sh)])) := by
  obtain ⟨g1, g2, g3⟩ := f.fx.gl hg
  have bx := f.fx.cx hc
  have z := L2N.ps_try_as (X := X) (c := .ref (L.cad c)) (np := np) (pos := pos) (pos' := pos') (body := body) (tb := fun W' => tB L B W' o sb) (ts := fun a cls d => tB L { B with x := some ⟨i, a, cls, d⟩ } wNo o sh) f.hs f.hf (by rw [f.fx.N]; exact f.fx.nd) (by rw [f.fx.N]; exact hn) (by show X.env.scope.names.lookup n = _; rw [f.fx.sc]; exact hl)
    (show Names X x (.ref (L.cad c)) from ⟨g1, g2, .inl (f.fx.cl c x hx)⟩) f.fx.tk (fun W' pn xe tk po => hb _ _ (f.tr tk po bx)) (fun a oe cls d pn hz hv => hh _ _ _ (f.suite hz hv))
  refine z.imp fun D σ H ⟨m, F, E, st, S, h⟩ => ?_
  rw [exS] at h
  refine ⟨m, F, E, st, S, ?_⟩
  cases e : exB o sb E st with
  | nx E1 st1 => rw [e] at h; exact h
  | bk E1 st1 => rw [e] at h; exact h
  | ct E1 st1 => rw [e] at h; exact h
  | rt v st1 => rw [e] at h; exact h
  | bad => rw [e] at h; exact h
  | ex xc E1 st1 =>
    rw [e] at h
    have h : PostS L B W m F H (if (o.sup xc.c).contains xc.c then exH o xc [(c, some i, sh)] E1 st1 else .bad) D := h
    intro m1 F1 σ1 H1 cls d M1 S1 r1
    by_cases hv : (o.sup xc.c).contains xc.c = true
    · rw [if_pos hv, exH] at h
      have ec : cls = .ref (L.cad xc.c) := r1.1
      refine ⟨(o.sup xc.c).contains c, by rw [ec]; exact f.em xc.c c x hx hv, fun hb p hp => ?_, fun hb => ?_⟩
      · rw [if_pos hb] at h
        split at h
        · rename_i hi
          refine ⟨m1, F1, _, st1, S1.enter bx hi r1, ?_⟩
          cases e2 : exB o sh (E1.set i (some (.xv xc.c xc.fs))) st1 with
          | nx E2 st2 => rw [e2] at h; exact fun m2 F2 σ2 H2 M2 S2 => h m2 F2 _ H2 (M1.trans M2) S2.left
          | bk E2 st2 => rw [e2] at h; exact fun m2 F2 σ2 H2 M2 S2 => h m2 F2 _ H2 (M1.trans M2) S2.left
          | ct E2 st2 => rw [e2] at h; exact fun m2 F2 σ2 H2 M2 S2 => h m2 F2 _ H2 (M1.trans M2) S2.left
          | rt v st2 => rw [e2] at h; exact h
          | ex x2 E2 st2 => rw [e2] at h; exact h.elim
          | bad => rw [e2] at h; exact h
        · exact h.elim
      · rw [hb, if_neg Bool.false_ne_true, exH] at h
        exact h m1 F1 σ1 H1 cls d M1 S1 r1
    · rw [if_neg hv] at h
      exact h.elim
end
end Mp

end
section
set_option Elab.async false
set_option linter.all false
set_option maxRecDepth 100000
set_option maxHeartbeats 4000000
/-! S23: the checker of statements; every statement that it takes. -/
namespace Mp
open PySem PySem.Spec PyProof.Rows L2
/-- no comprehension -/
def ncB : Expr → Bool
  | .ListComp .. => false | .SetComp .. => false | .DictComp .. => false | _ => true
/-- a name that may be stored -/
def stB (C : CC) (i : Nat) (x : Str) : Bool := decide (C.N[i]? = some x) && (match C.sc.names.lookup x with | some .local => true | some .cell => C.fl | _ => false)
def locB (C : CC) (x : Str) : Bool := decide (C.sc.names.lookup x = some .local)
/-- does the store stand in the comprehension's own frame's stead -/
def swB (C : CC) (e : Expr) (x : Str) (l : Nat) : Bool := match e with
  | .ListComp _ _ scope pos => locB C x && decide (l = pos.line) && !(scope.names.any fun (n, k) => n == x && (k == .local || k == .cell))
  | _ => false
/-- names on the left, all local, on one line -/
def nmsB (C : CC) (ln : Nat) : List Expr → List Nat → Option (List Str)
  | [], is => match is with | [] => some [] | _ => none
  | e :: r, is => match e, is with
    | .Name x p, i :: is => if decide (C.N[i]? = some x) && locB C x && decide (p.line = ln) then (nmsB C ln r is).map (x :: ·) else none
    | _, _ => none
/-- names on the left that may be stored -/
def nmsS (C : CC) : List Expr → List Nat → Bool
  | [], is => match is with | [] => true | _ => false
  | e :: r, is => match e, is with | .Name x _, i :: is => stB C i x && nmsS C r is | _, _ => false
mutual
def mtS (C : CC) : MS → Stmt → Bool
  | .asg t me, s => match s with
    | .Assign [.Name x p] e pos => (match t with
      | .v i => stB C i x && okE e && mtE C me e && (if swB C e x p.line then (match me with | .lc .. => true | .lcf .. => true | _ => false) else (match e with | .SetComp .. => false | .DictComp .. => false | _ => true))
      | _ => false)
    | .Assign [.Subscript (.Name x p) z q] e pos => (match t with
      | .sub (.var i) b => visB C i x && okE z && okE e && mtE C b z && mtE C me e
      | _ => false)
    | _ => false
  | .par ts es, s => match s with
    | .Assign [.Tuple tl _ _] (.Tuple l _ _) pos => C.cold && mtL C es l && decide (es.length ≤ szMax) && (match slots ts with
      | some [i, j] => (match tl, l with
        | [.Name x px, .Name y py], [a, b] => decide (C.N[i]? = some x) && decide (C.N[j]? = some y) && locB C x && locB C y && decide (py.line = px.line) && decide (x ≠ y) && !(foldedForSure 8 a && foldedForSure 8 b) && !(constantsAlone 8 a && constantsAlone 8 b)
        | _, _ => false)
      | some is => decide (4 ≤ tl.length) && nmsS C tl is
      | none => false)
    | _ => false
  | .expr me, s => match s with | .Expr e _ => ncB e && okE e && mtE C me e | _ => false
  | .ins (.var i) a b, s => match s with
    | .Expr (.Call (.Attribute (.Name x _) y ap) [e1, e2] [] cp) _ => decide (y = ("insert" : Str)) && visB C i x && okE e1 && okE e2 && decide (ap.endLine = cp.line) && mtE C a e1 && mtE C b e2
    | _ => false
  | .ite c a b, s => match s with | .If e l1 l2 _ => mtE C c e && mtB C a l1 && mtB C b l2 | _ => false
  | .whl c b, s => match s with | .While e l [] _ => mtE C c e && mtB C b l | _ => false
  | .fr p it b, s => match s with | .For tg e l [] _ => C.cold && mtI C it e && mtP C p tg && mtB C b l | _ => false
  | .ret e, s => match s with | .Return (some x) _ => okE x && mtE C e x | _ => false
  | .retN, s => match s with | .Return none _ => true | _ => false
  | .rais c es, s => match s with
    | .Raise (some (.Call (.Name x _) l [] _)) none _ => C.cold && decide (C.nm.cls[c]? = some x) && glB C x && decide (C.nm.ar[c]? = some l.length) && decide (l.length < 1000) && mtL C es l
    | _ => false
  | .tr b hs, s => match s with
    | .Try body hds [] [] _ => C.cold && mtB C b body && mtH C hs hds
    | _ => false
  | .pass, s => match s with | .Pass _ => true | _ => false
  | .brk, s => match s with | .Break _ => true | _ => false
  | .cont, s => match s with | .Continue _ => true | _ => false
  | _, _ => false
def mtB (C : CC) : List MS → List Stmt → Bool
  | [], l => match l with | [] => true | _ => false
  | s :: ss, l => match s with
    | .frz _ => mtB C ss l
    | s => match l with | x :: r => mtS C s x && mtB C ss r | _ => false
def mtH (C : CC) : List (Nat × Option Nat × List MS) → List ExceptHandler → Bool
  | [], _ => false
  | h :: r, l => match h with
    | (c, sl, b) => match r, l with
      | [], [.ExceptHandler (some (.Name x _)) (some n) (b₀ :: suite) _] => (match sl with
        | some i => decide (C.nm.cls[c]? = some x) && glB C x && decide (C.N[i]? = some n) && locB C n && mtB C.hot b (b₀ :: suite)
        | none => false)
      | _, _ => false
end
section
variable {C : CC} {L : Lk} {B : Bs} {W : WX} {o : Orc} {X : Cx}
theorem sw_nc {e : Expr} {t : Option Expr} {l : Nat} {env : PySem.Env} (h : ncB e = true) : swapsWith e t l env = pure false := by cases e <;> simp [ncB] at h <;> rfl
theorem sw_sub {e z w : Expr} {q : Pos} {l : Nat} {env : PySem.Env} : swapsWith e (some (.Subscript z w q)) l env = pure false := by cases e <;> rfl
theorem sw_name {e : Expr} {x : Str} {p : Pos} {l : Nat} (f : Sx C L o B X W) : swapsWith e (some (.Name x p)) l X.env = pure (swB C e x p.line) ∨ ∃ a b s q, (e = .SetComp a b s q ∨ ∃ c, e = .DictComp a c b s q) := by
  have hb : X.env.blockKind = .function := by
    have := f.kd
    rw [← f.fx.sc] at this
    unfold Env.blockKind
    rw [this]
    rfl
  cases e with
  | ListComp a b s q =>
    left
    have hk : X.env.kindOf x = C.sc.names.lookup x := by show X.env.scope.names.lookup x = _; rw [f.fx.sc]
    unfold swapsWith swB
    simp only [hb, hk]
    show pure ((ScopeKind.function == ScopeKind.function) && (C.sc.names.lookup x == some .local) && (p.line == q.line) && !(s.names.any fun (n, k) => n == x && (k == .local || k == .cell))) = pure _
    have h1 : (C.sc.names.lookup x == some NameKind.local) = locB C x := by
      unfold locB
      cases C.sc.names.lookup x with
      | none => rfl
      | some k => cases k <;> rfl
    rw [h1]
    rfl
  | SetComp a b s q => exact .inr ⟨a, b, s, q, .inl rfl⟩
  | DictComp a c b s q => exact .inr ⟨a, b, s, q, .inr ⟨c, rfl⟩⟩
  | _ => exact .inl rfl
theorem sws1 {e x z : Expr} {q : Pos} {l : Nat} {env : PySem.Env} : swapsWithSole [.Subscript x z q] e l env = pure false := by cases e <;> rfl
theorem sws_sub {e x z : Expr} {q : Pos} {env : PySem.Env} : swappedStores [.Subscript x z q] e env = pure none := by cases e <;> rfl
theorem asg_sub {x z : Expr} {pos : Pos} {env : PySem.Env} (h : okE z = true) (v : Value) : assign (.Subscript x z pos) env v = (do
      let ov ← holding [v] (eval x env)
      let iv ← holding [v, ov] (eval z env)
      standAt pos
      holding [v, ov, iv] (setItem ov iv v)
      release [v, ov, iv] []) := by cases z <;> simp [okE] at h <;> rfl
theorem ps_setLcM (f : Sx C L o B X W) (hc : C.cold = true) {i : Nat} {y : Str} {py spos : Pos} {x tg iter : Expr} {scope : Scope} {pos : Pos} {it : MI} {p : Pat} {a : ME} (hy : C.N[i]? = some y) (hyl : C.sc.names.lookup y = some .local) (hsw : swB C (.ListComp x [⟨tg, iter, [], 0⟩] scope pos) y py.line = true)
    (hi : PI X tg iter (tI L B W o false it)) (hs : ∀ l k p, iter ≠ .Set l k p) (hb : blkC C.N C.sc scope ((patSl p).map fun i => (C.N.getD i "", i)) = true) (hp : mtP (C.blk scope) p tg = true) (he : ∀ X', Fx (C.blk scope) L o B X' wNo → PE X' x (tE L B wNo o a)) :
    PS X (.Assign [.Name y py] (.ListComp x [⟨tg, iter, [], 0⟩] scope pos) spos) (tAsg (tE L B W o (.lc a p it)) (gName i)) := by
  have F := f.fx
  have ok := blkOk_by (N := X.N) (sc := X.env.scope) (by rw [F.N, F.sc]; exact hb)
  have hsw' : swapsWith (.ListComp x [⟨tg, iter, [], 0⟩] scope pos) (some (.Name y py)) spos.line X.env = pure true := by
    rcases sw_name (l := spos.line) (e := .ListComp x [⟨tg, iter, [], 0⟩] scope pos) (x := y) (p := py) f with h | ⟨_, _, _, _, h | ⟨_, h⟩⟩
    · rw [h, hsw]
    · cases h
    · cases h
  have z := ps_setLc (X := X) (spos := spos) (py := py) (F.cold hc) (by rw [F.N]; exact F.nd) (by rw [F.N]; exact hy) (by rw [F.sc]; exact hyl) hsw' hi ok (g := tgP X.K p) (tt := tYes) (te := tE L B wNo o a) (fun s H a' cl fp => by
      have fb := F.blk hc s H scope cl a' fp
      exact pgM (X := X.blk s H scope (compEnvC scope cl a' X.env) fp) ⟨fb.N, fb.nd, fb.sc, fb.fl, F.cold hc⟩ hp) (fun s H a' cl fp => pts_nil) (fun s H a' cl fp => he _ (F.blk hc s H scope cl a' fp)) (fold_ok hs)
  rw [own_sl] at z
  refine z.imp fun D σ H ⟨m, F0, E, st, S, h⟩ => lc_tI (cf := fun _ st' => .ok (.dat (.bl true)) st') F.K (fun m F H E' st σ2 Q' S' hq => ?_) ⟨m, F0, E, st, S, by rw [evE] at h; exact h⟩
  obtain ⟨t, e, q⟩ := hq m F H Ext.refl S'
  cases e
  exact q
theorem ps_setLcfM (f : Sx C L o B X W) (hc : C.cold = true) {i : Nat} {y : Str} {py spos : Pos} {x w tg iter : Expr} {scope : Scope} {pos : Pos} {it : MI} {p : Pat} {a c : ME} (hy : C.N[i]? = some y) (hyl : C.sc.names.lookup y = some .local) (hsw : swB C (.ListComp x [⟨tg, iter, [w], 0⟩] scope pos) y py.line = true)
    (hi : PI X tg iter (tI L B W o false it)) (hs : ∀ l k p, iter ≠ .Set l k p) (hb : blkC C.N C.sc scope ((patSl p).map fun i => (C.N.getD i "", i)) = true) (hp : mtP (C.blk scope) p tg = true) (he : ∀ X', Fx (C.blk scope) L o B X' wNo → PE X' x (tE L B wNo o a)) (hw : ∀ X', Fx (C.blk scope) L o B X' wNo → PT X' w (tTest (tE L B wNo o c))) :
    PS X (.Assign [.Name y py] (.ListComp x [⟨tg, iter, [w], 0⟩] scope pos) spos) (tAsg (tE L B W o (.lcf a p it c)) (gName i)) := by
  have F := f.fx
  have ok := blkOk_by (N := X.N) (sc := X.env.scope) (by rw [F.N, F.sc]; exact hb)
  have hsw' : swapsWith (.ListComp x [⟨tg, iter, [w], 0⟩] scope pos) (some (.Name y py)) spos.line X.env = pure true := by
    rcases sw_name (l := spos.line) (e := .ListComp x [⟨tg, iter, [w], 0⟩] scope pos) (x := y) (p := py) f with h | ⟨_, _, _, _, h | ⟨_, h⟩⟩
    · rw [h, hsw]
    · cases h
    · cases h
  have z := ps_setLc (X := X) (spos := spos) (py := py) (F.cold hc) (by rw [F.N]; exact F.nd) (by rw [F.N]; exact hy) (by rw [F.sc]; exact hyl) hsw' hi ok (g := tgP X.K p) (tt := tTest (tE L B wNo o c)) (te := tE L B wNo o a) (fun s H a' cl fp => by
      have fb := F.blk hc s H scope cl a' fp
      exact pgM (X := X.blk s H scope (compEnvC scope cl a' X.env) fp) ⟨fb.N, fb.nd, fb.sc, fb.fl, F.cold hc⟩ hp) (fun s H a' cl fp => pts_one (hw _ (F.blk hc s H scope cl a' fp))) (fun s H a' cl fp => he _ (F.blk hc s H scope cl a' fp)) (fold_ok hs)
  rw [own_sl] at z
  refine z.imp fun D σ H ⟨m, F0, E, st, S, h⟩ => lc_tI (cf := fun E' st' => evE o c E' st') F.K (fun m F H E' st σ2 Q' S' hq => ?_) ⟨m, F0, E, st, S, by rw [evE] at h; exact h⟩
  refine ⟨m, F, E', st, S', ?_⟩
  cases e : evE o c E' st with
  | bad => rw [e] at hq; exact hq.elim
  | ex xc s => rw [e] at hq; exact hq.elim
  | ok v st2 =>
    rw [e] at hq
    intro m' F' x H' X1 S1 r1
    obtain ⟨t, rfl, q⟩ := hq m' F' H' X1 S1
    exact ⟨t, r1, q⟩
/-- two names on the left, by the swap -/
theorem swap2 (f : Sx C L o B X W) {x y : Str} {px py pt pt2 : Pos} {kt k2 : Nat} {a b : Expr} (hx : C.sc.names.lookup x = some .local) (hy : C.sc.names.lookup y = some .local) (hl : py.line = px.line) (hne : x ≠ y) (ha : okE a = true) (hb : okE b = true)
    (h1 : (foldedForSure 8 a && foldedForSure 8 b) = false) (h2 : (constantsAlone 8 a && constantsAlone 8 b) = false) : swappedStores [.Tuple [.Name x px, .Name y py] kt pt] (.Tuple [a, b] k2 pt2) X.env = pure (some [x, y]) := by
  have hbk : X.env.blockKind = .function := by
    have := f.kd
    rw [← f.fx.sc] at this
    unfold Env.blockKind
    rw [this]
    rfl
  have kx : X.env.kindOf x = some .local := by show X.env.scope.names.lookup x = _; rw [f.fx.sc]; exact hx
  have ky : X.env.kindOf y = some .local := by show X.env.scope.names.lookup y = _; rw [f.fx.sc]; exact hy
  have e1 : ([a, b].any fun | .Starred .. => true | _ => false) = false := by
    cases a <;> simp [okE] at ha <;> cases b <;> simp [okE] at hb <;> rfl
  have e2 : [a, b].all (foldedForSure 8) = false := by simpa using h1
  have e3 : [a, b].all (constantsAlone 8) = false := by simpa using h2
  have e4 : (x == y) = false := by simpa using hne
  have e5 : ([x, y] : List Str).eraseDups = [x, y] := by
    simp [List.eraseDups_cons, e4, Ne.symm hne]
  have e6 : [(Expr.Name x px), (Expr.Name y py)].filterMap (fun | .Name id pos => if X.env.kindOf id == some .local && pos.line == px.line then some id else none | _ => none) = [x, y] := by
    simp only [List.filterMap_cons, kx, ky, hl]
    simp
  have go : swappedStores [.Tuple [.Name x px, .Name y py] kt pt] (.Tuple [a, b] k2 pt2) X.env = (do
      if !(([(Expr.Name x px), (Expr.Name y py)] : List Expr).length == 2 || ([(Expr.Name x px), (Expr.Name y py)] : List Expr).length == 3) || [a, b].length != ([(Expr.Name x px), (Expr.Name y py)] : List Expr).length || X.env.blockKind != .function then return none
      if ([a, b].any fun | .Starred .. => true | _ => false) then return none
      let names := [(Expr.Name x px), (Expr.Name y py)].filterMap (fun | .Name id pos => if X.env.kindOf id == some .local && pos.line == px.line then some id else none | _ => none)
      if names.length != ([(Expr.Name x px), (Expr.Name y py)] : List Expr).length || names.eraseDups.length != names.length then return none
      if [a, b].all (foldedForSure 8) then return none
      if [a, b].all (constantsAlone 8) then unsupported "assign.tuple-of-constant-expressions:order-of-the-stores"
      return some names) := rfl
  rw [go, e1, e2, e3, e6]
  dsimp only
  rw [e5, hbk]
  rfl
theorem swap4 {ts vs : List Expr} {k k2 : Nat} {p p2 : Pos} {env : PySem.Env} (h : 4 ≤ ts.length) : swappedStores [.Tuple ts k p] (.Tuple vs k2 p2) env = pure none := by
  have h1 : (ts.length == 2) = false := by simp; omega
  have h2 : (ts.length == 3) = false := by simp; omega
  unfold swappedStores
  simp only [h1, h2]
  rfl
theorem st_loc (f : Sx C L o B X W) {i : Nat} {x : Str} (h : stB C i x = true) : X.N[i]? = some x ∧ Loc X.env.scope x ∧ (X.fn x = true ∨ X.env.scope.names.lookup x = some .local) := by
  unfold stB at h
  rw [Bool.and_eq_true, decide_eq_true_eq] at h
  refine ⟨by rw [f.fx.N]; exact h.1, ?_⟩
  rw [f.fx.sc]
  have h2 := h.2
  split at h2
  · rename_i e; exact ⟨.inl e, .inr e⟩
  · rename_i e; exact ⟨.inr e, .inl (f.fx.fl h2 x)⟩
  · cases h2
theorem pgs_nms (f : Sx C L o B X W) : ∀ {tl : List Expr} {is : List Nat}, nmsS C tl is = true → PGs X tl (fun vs σ H Q => vs.length = is.length ∧ Q (setSl is vs σ) H) ∧ tl.length = is.length ∧ tl.all okE = true
  | [], [], _ => ⟨⟨fun pins s σ H vs us Q I r ⟨h1, h2⟩ => by
      cases vs with
      | nil => exact pgs_nil.run pins s σ H [] us Q I r ⟨rfl, h2⟩
      | cons => cases h1⟩, rfl, rfl⟩
  | [], _ :: _, h => by simp [nmsS] at h
  | e :: tl, is, h => by
    cases is with
    | nil => cases e <;> simp [nmsS] at h
    | cons i is =>
      cases e <;> simp only [nmsS, Bool.and_eq_true] at h <;> try contradiction
      rename_i x p
      obtain ⟨g1, g2, g3⟩ := st_loc f h.1
      obtain ⟨r1, r2, r3⟩ := pgs_nms f h.2
      have z := pgs_cons (pg_name (pos := p) (by rw [f.fx.N]; exact f.fx.nd) g1 g2 g3) r1 rfl
      refine ⟨⟨fun pins s σ H vs us Q I r ⟨h1, h2⟩ => z.run pins s σ H vs us Q I r ?_⟩, by simp [r2], by simp [okE, r3]⟩
      cases vs with
      | nil => cases h1
      | cons v vs => exact ⟨v, vs, rfl, by simpa using h1, h2⟩
theorem pg_nms (f : Sx C L o B X W) (hc : C.cold = true) {tl : List Expr} {is : List Nat} {k : Nat} {p : Pos} (h : nmsS C tl is = true) : PG X (.Tuple tl k p) (fun v σ H Q => ∃ a xs, v = .ref a ∧ SqT X.K H a xs ∧ xs.length = is.length ∧ Q (setSl is xs σ) H) := by
  obtain ⟨r1, r2, r3⟩ := pgs_nms f h
  have z := pg_tup (X := X) (k := k) (pos := p) (f.fx.cold hc) r1 (asg_okL r3).1 (asg_okL r3).2
  exact ⟨fun pins s σ H v u Q I r ⟨a, xs, e, hs, hl, q⟩ => z.run pins s σ H v u Q I r ⟨a, xs, e, hs, by rw [hl, r2], hl, q⟩⟩
def SS (s : MS) : Prop := ∀ (C : CC) (L : Lk) (B : Bs) (W : WX) (o : Orc) (X : Cx), Sx C L o B X W → ∀ (st : Stmt), mtS C s st = true → PS X st (tS L B W o s)
def SB (ss : List MS) : Prop := ∀ (C : CC) (L : Lk) (B : Bs) (W : WX) (o : Orc) (X : Cx), Sx C L o B X W → ∀ (l : List Stmt), mtB C ss l = true → PSs X l (tB L B W o ss)
def SH (hs : List (Nat × Option Nat × List MS)) : Prop := ∀ (C : CC) (L : Lk) (o : Orc) (hds : List ExceptHandler), mtH C hs hds = true → ∃ c i sh x np n b₀ suite pos', hs = [(c, some i, sh)] ∧ hds = [.ExceptHandler (some (.Name x np)) (some n) (b₀ :: suite) pos'] ∧
  C.nm.cls[c]? = some x ∧ glB C x = true ∧ C.N[i]? = some n ∧ C.sc.names.lookup n = some .local ∧ ∀ B' X' W', Sx C.hot L o B' X' W' → PSs X' (b₀ :: suite) (tB L B' W' o sh)
end
mutual
theorem sS : ∀ s : MS, SS s
  | .asg (.v i) me => by
    intro C L B W o X f st h
    unfold mtS at h
    split at h
    · rename_i x p e pos
      simp only [Bool.and_eq_true] at h
      obtain ⟨⟨⟨h1, h2⟩, h3⟩, h4⟩ := h
      obtain ⟨g1, g2, g3⟩ := st_loc f h1
      refine PS.imp (t := tAsg (tE L B W o me) (gName i)) ?_ (fun D σ H h => tS_asg h)
      cases hsw : swB C e x p.line with
      | false =>
        rw [hsw, if_neg Bool.false_ne_true] at h4
        refine ps_set (by rw [f.fx.N]; exact f.fx.nd) g1 g2 (sE me _ _ _ _ _ _ f.fx _ h3).1 ?_ g3
        rcases sw_name (l := pos.line) (e := e) (x := x) (p := p) f with q | ⟨_, _, _, _, q | ⟨_, q⟩⟩
        · rw [q, hsw]
        · subst q; cases h4
        · subst q; cases h4
      | true =>
        rw [hsw, if_pos rfl] at h4
        have hy : C.N[i]? = some x := by rw [← f.fx.N]; exact g1
        have hyl : C.sc.names.lookup x = some .local := by
          unfold swB at hsw
          split at hsw
          · simp only [Bool.and_eq_true] at hsw
            exact of_decide_eq_true hsw.1.1
          · cases hsw
        split at h4
        · rename_i a pt it
          unfold mtE at h3
          split at h3
          · simp only [Bool.and_eq_true, decide_eq_true_eq] at h3
            obtain ⟨⟨⟨⟨⟨⟨hc, hi⟩, hb⟩, _⟩, hp⟩, ha⟩, _⟩ := h3
            obtain ⟨i1, i2⟩ := sI it _ _ _ _ _ _ f.fx _ hi
            exact ps_setLcM f hc hy hyl hsw (i1 _ false) i2 hb hp fun X' f' => (sE a _ _ _ _ _ _ f' _ ha).1
          · cases h3
        · rename_i a pt it c
          unfold mtE at h3
          split at h3
          · simp only [Bool.and_eq_true, decide_eq_true_eq] at h3
            obtain ⟨⟨⟨⟨⟨⟨⟨hc, hi⟩, hb⟩, _⟩, hp⟩, ha⟩, _⟩, hy'⟩ := h3
            obtain ⟨i1, i2⟩ := sI it _ _ _ _ _ _ f.fx _ hi
            exact ps_setLcfM f hc hy hyl hsw (i1 _ false) i2 hb hp (fun X' f' => (sE a _ _ _ _ _ _ f' _ ha).1) fun X' f' => (sE c _ _ _ _ _ _ f' _ hy').2
          · cases h3
        · cases h4
    · cases h
    · cases h
  | .asg (.sub b0 b) me => by
    intro C L B W o X f st h
    unfold mtS at h
    split at h
    · cases h
    · cases b0 <;> try contradiction
      rename_i i
      simp only [Bool.and_eq_true] at h
      obtain ⟨⟨⟨⟨h1, h2⟩, h3⟩, h4⟩, h5⟩ := h
      obtain ⟨g1, g2, g3, g4⟩ := f.fx.vis h1
      exact PS.imp (ps_asg (sE me _ _ _ _ _ _ f.fx _ h5).1 (pg_sub (pe_var g1 g2 g3 g4) (sE b _ _ _ _ _ _ f.fx _ h4).1 set_list (asg_sub h2)) sws1 sws_sub) (fun D σ H h => tS_sub h)
    · cases h
  | .par ts es => by
    intro C L B W o X f st h
    unfold mtS at h
    split at h
    · simp only [Bool.and_eq_true, decide_eq_true_eq] at h
      obtain ⟨⟨⟨hc, hl⟩, hz⟩, h⟩ := h
      split at h
      · rename_i i j hs
        split at h
        · simp only [Bool.and_eq_true, decide_eq_true_eq, Bool.not_eq_true'] at h
          obtain ⟨⟨⟨⟨⟨⟨⟨h1, h2⟩, h3⟩, h4⟩, h5⟩, h6⟩, h7⟩, h8⟩ := h
          have ho := (mtL_len hl).2
          simp only [List.all_cons, List.all_nil, Bool.and_eq_true] at ho
          have hij : i ≠ j := fun z => h6 (by rw [z, h2] at h1; exact (Option.some.inj h1).symm)
          refine PS.imp (ps_par (X := X) (f.fx.cold hc) (by rw [f.fx.N]; exact f.fx.nd) (by rw [f.fx.N]; exact h1) (by rw [f.fx.N]; exact h2) hij (by rw [f.fx.sc]; exact of_decide_eq_true h3) (by rw [f.fx.sc]; exact of_decide_eq_true h4) (sL es _ _ _ _ _ _ f.fx _ hl).pa
            (swap2 f (of_decide_eq_true h3) (of_decide_eq_true h4) h5 h6 ho.1 ho.2.1 h7 h8) (by rfl)) (fun D σ H h => tS_par hs h)
        · cases h
      · rename_i is _ hs
        rw [Bool.and_eq_true, decide_eq_true_eq] at h
        exact PS.imp (ps_asg (pe_tup (sL es _ _ _ _ _ _ f.fx _ hl).pa) (pg_nms f hc h.2) (by rfl) (swap4 h.1) (by rfl)) (fun D σ H h => tS_parT hs hz h)
      · cases h
    · cases h
  | .expr me => by
    intro C L B W o X f st h
    unfold mtS at h
    split at h
    · simp only [Bool.and_eq_true] at h
      obtain ⟨⟨h1, h2⟩, h3⟩ := h
      exact ps_exprM (sw_nc h1) (sE me _ _ _ _ _ _ f.fx _ h3).1
    · cases h
  | .ins b0 a b => by
    intro C L B W o X f st h
    cases b0 <;> try (simp [mtS] at h; done)
    rename_i i
    unfold mtS at h
    split at h
    · simp only [Bool.and_eq_true, decide_eq_true_eq] at h
      obtain ⟨⟨⟨⟨⟨⟨rfl, h1⟩, h2⟩, h3⟩, h4⟩, h5⟩, h6⟩ := h
      exact ps_insM f.fx h1 h2 h3 (by simpa using h4) (sE a _ _ _ _ _ _ f.fx _ h5).1 (sE b _ _ _ _ _ _ f.fx _ h6).1
    · cases h
  | .ite c a b => by
    intro C L B W o X f st h
    unfold mtS at h
    split at h
    · simp only [Bool.and_eq_true] at h
      obtain ⟨⟨h1, h2⟩, h3⟩ := h
      exact ps_iteM (sE c _ _ _ _ _ _ f.fx _ h1).2 (sB a _ _ _ _ _ _ f _ h2) (sB b _ _ _ _ _ _ f _ h3)
    · cases h
  | .whl c b => by
    intro C L B W o X f st h
    unfold mtS at h
    split at h
    · simp only [Bool.and_eq_true] at h
      exact ps_whlM f.po (sE c _ _ _ _ _ _ f.fx _ h.1).2 (sB b _ _ _ _ _ _ f _ h.2)
    · cases h
  | .fr p it b => by
    intro C L B W o X f st h
    unfold mtS at h
    split at h
    · simp only [Bool.and_eq_true] at h
      obtain ⟨⟨⟨hc, hi⟩, hp⟩, hb⟩ := h
      obtain ⟨i1, i2⟩ := sI it _ _ _ _ _ _ f.fx _ hi
      exact ps_frM f.fx.K f.po (f.fx.cold hc) (i1 _ true) (pgM ⟨f.fx.N, f.fx.nd, f.fx.sc, f.fx.fl, f.fx.cold hc⟩ hp) (sB b _ _ _ _ _ _ f _ hb) i2
    · cases h
  | .ret e => by
    intro C L B W o X f st h
    unfold mtS at h
    split at h
    · rw [Bool.and_eq_true] at h
      exact ps_retM (sE e _ _ _ _ _ _ f.fx _ h.2).1
    · cases h
  | .retN => by
    intro C L B W o X f st h
    unfold mtS at h
    split at h
    · exact ps_retNM
    · cases h
  | .rais c es => by
    intro C L B W o X f st h
    unfold mtS at h
    split at h
    · simp only [Bool.and_eq_true, decide_eq_true_eq] at h
      obtain ⟨⟨⟨⟨⟨hc, hx⟩, hg⟩, har⟩, hk⟩, hl⟩ := h
      exact ps_raisM f hc hx hg (mtL_len hl).2 har hk (mtL_len hl).1 (sL es _ _ _ _ _ _ f.fx _ hl).pa
    · cases h
  | .tr b hs => by
    intro C L B W o X f st h
    unfold mtS at h
    split at h
    · simp only [Bool.and_eq_true] at h
      obtain ⟨⟨hc, hb⟩, hh⟩ := h
      obtain ⟨c, i, sh, x, np, n, b₀, suite, pos', rfl, rfl, g1, g2, g3, g4, g5⟩ := sH hs C L o _ hh
      exact ps_tr1M f hc g1 g2 g3 g4 (fun X' W' f' => sB b _ _ _ _ _ _ f' _ hb) g5
    · cases h
  | .pass => by
    intro C L B W o X f st h
    unfold mtS at h
    split at h
    · exact ps_passM
    · cases h
  | .brk => by
    intro C L B W o X f st h
    unfold mtS at h
    split at h
    · exact ps_brkM
    · cases h
  | .cont => by
    intro C L B W o X f st h
    unfold mtS at h
    split at h
    · exact ps_contM
    · cases h
  | .asg (.fld ..) _ => by intro C L B W o X f st h; unfold mtS at h; split at h <;> cases h
  | .asg (.t ..) _ => by intro C L B W o X f st h; unfold mtS at h; split at h <;> cases h
  | .aug .. => by intro C L B W o X f st h; simp [mtS] at h
  | .app .. => by intro C L B W o X f st h; simp [mtS] at h
  | .ext .. => by intro C L B W o X f st h; simp [mtS] at h
  | .popT .. => by intro C L B W o X f st h; simp [mtS] at h
  | .trR .. => by intro C L B W o X f st h; simp [mtS] at h
  | .frz .. => by intro C L B W o X f st h; simp [mtS] at h
theorem sH : ∀ hs : List (Nat × Option Nat × List MS), SH hs
  | [] => by intro C L o hds h; simp [mtH] at h
  | (c, sl, b) :: r => by
    intro C L o hds h
    unfold mtH at h
    simp only at h
    split at h
    · cases sl with
      | none => cases h
      | some i =>
        simp only [Bool.and_eq_true, decide_eq_true_eq] at h
        obtain ⟨⟨⟨⟨h1, h2⟩, h3⟩, h4⟩, h5⟩ := h
        exact ⟨_, _, _, _, _, _, _, _, _, rfl, rfl, h1, h2, h3, of_decide_eq_true h4, fun B' X' W' f' => sB b _ _ _ _ _ _ f' _ h5⟩
    · cases h
theorem sB : ∀ ss : List MS, SB ss
  | [] => by
    intro C L B W o X f l h
    cases l with
    | nil => exact pss_nilM
    | cons => simp [mtB] at h
  | s :: ss => by
    intro C L B W o X f l h
    unfold mtB at h
    split at h
    · exact (sB ss _ _ _ _ _ _ f _ h).imp fun D σ H h => tB_frz h
    · split at h
      · rw [Bool.and_eq_true] at h
        exact pss_consM (sS s _ _ _ _ _ _ f _ h.1) (sB ss _ _ _ _ _ _ f _ h.2)
      · cases h
end
end Mp

end
section
set_option Elab.async false
set_option linter.all false
set_option maxRecDepth 100000
set_option maxHeartbeats 4000000
/-! S24: defs. -/
namespace Mp
open PySem PySem.Spec PyProof.Rows L2
/-- a def's text -/
structure FTx (K : PySem.W.Frag) (L : Lk) (nm : NmT) (f : Nat) (fd : FnD) (fdat : FuncData) (ps : List Str) : Prop where
  ex : ∃ (name qual : Str) (params : Arguments) (body : List Stmt) (scope : Scope) (dV kV doc pm cdv ct oc : Value) (an od : Option Addr) (osl : Array (Option Value)) (N : List Str),
    fdat = PySem.W.fnOf name qual params body scope dV kV doc pm an cdv ct ∧ K.lookup (L.fad f) = some ⟨oc, od, .func (PySem.W.fnOf name qual params body scope dV kV doc pm an cdv ct), osl⟩ ∧ PySem.W.codeIn K cdv qual = true ∧ FnScope N ps scope ∧
    mtB ⟨N, scope, nm, true, true⟩ fd.body body = true ∧ N.length = fd.nv
  np : ps.length = fd.np
  df : fd.df = []
  tmp : fd.tmp = false
  bd : ∀ us : List Value, us.length = ps.length → bindArgs fdat ⟨us, []⟩ = pure (ps.zip us)
/-- a law's text -/
structure LawTx (P : Program) (w : World) (K : PySem.W.Frag) (mg : Str → Option Value) (L : Lk) (p : Prog) (nm : NmT) : Prop where
  KL : L.K = K
  blt : ∀ x, x ∈ bltN → mg x = none
  fnx : ∀ f x, nm.fns[f]? = some x → mg x = some (.ref (L.fad f)) ∧ PySem.W.keepIn K (.ref (L.fad f)) = true ∧ ∃ fd, p.fns[f]? = some fd
  fns : ∀ f fd, p.fns[f]? = some fd → ∃ fdat ps, FTx K L nm f fd fdat ps
  cl : ∀ c x, nm.cls[c]? = some x → mg x = some (.ref (L.cad c))
  xk : ∀ n c, ((O p n).sup c).contains c = true → XcOk K L (O p n) nm.cls.length c
  xf : ∀ n c k, k ∈ (O p n).flds c → ((O p n).sup c).contains c = true
  fi : ∀ j k, L.nm j = L.nm k → j = k
  nmf : ∀ k y, nm.flds[k]? = some y → L.nm k = y
  mkx : ∀ n c x base A, nm.cls[c]? = some x → ((O p n).sup c).contains c = true → nm.ar[c]? = some ((O p n).flds c).length → RoomG 0 A → XcM P w K mg base A L (O p n) c x
  ar : ∀ n c k, k < 1000 → nm.ar[c]? = some k → ((O p n).flds c).length = k
  em : ∀ n c' c x, nm.cls[c]? = some x → ((O p n).sup c').contains c' = true → PySem.W.exmOne K (.ref (L.cad c')) (.ref (L.cad c)) = some (((O p n).sup c').contains c)
section
variable {P : Program} {w : World} {K : PySem.W.Frag} {mg : Str → Option Value} {L : Lk} {p : Prog} {nm : NmT}
theorem callN_len {n f : Nat} {fd : FnD} (h : p.fns[f]? = some fd) (hd : fd.df = []) {ds : List D} {st : Sto} (hb : callN p n false f ds st ≠ .bad) : ds.length = fd.np := by
  cases n with
  | zero => rw [callN] at hb; exact absurd rfl hb
  | succ n =>
    rw [callN, h] at hb
    simp only at hb
    cases e : envOf fd (ds.map .dat) with
    | none => rw [e] at hb; exact absurd rfl hb
    | some E =>
      unfold envOf at e
      split at e
      · rename_i hl
        rw [hd] at hl
        simp at hl
        omega
      · cases e
theorem sim_start {m : List Addr} {F : Addr → Prop} {H : Hp} {st : Sto} {N : List Str} {ds : List D} {vs : List V} {k : Nat} (w : Wd L m F st H) (r : RepL L m F H ds vs) (hl : vs.length + k = N.length) :
    Sim L ⟨m, F, H, none⟩ m F (ds.map (fun d => some (Val.dat d)) ++ List.replicate k none) st (L2.start N vs) H := by
  have hlen := r.len
  refine ⟨w, Ext.refl, fun i v e => ?_, by simp [L2.start]; omega, fun i j a hi hj => ?_⟩
  · by_cases hi : i < ds.length
    · rw [List.getElem?_append_left (by simpa using hi), List.getElem?_map] at e
      cases ed : ds[i]? with
      | none => rw [ed] at e; cases e
      | some d =>
        rw [ed] at e
        cases e
        obtain ⟨x, ex, rx⟩ := r.get ed
        refine ⟨x, ?_, rx⟩
        unfold L2.start
        rw [List.getElem?_append_left (by simp; omega), List.getElem?_map, ex]
        rfl
    · rw [List.getElem?_append_right (by simpa using hi), List.getElem?_replicate] at e
      split at e <;> cases e
  · obtain ⟨⟨d, e⟩, _⟩ := hi
    by_cases hi : i < ds.length
    · rw [List.getElem?_append_left (by simpa using hi), List.getElem?_map] at e
      cases ed : ds[i]? with
      | none => rw [ed] at e; cases e
      | some d => rw [ed] at e; cases e
    · rw [List.getElem?_append_right (by simpa using hi), List.getElem?_replicate] at e
      split at e <;> cases e
theorem fn_step (T : LawTx P w K mg L p nm) (n : Nat) (base : Heap) (ih : ∀ f fd fdat ps, p.fns[f]? = some fd → FTx K L nm f fd fdat ps → FnG P w K mg base (L2N.CX P w) n (L.fad f) fdat ps (fun vs H Q E => vs.length = ps.length ∧ spM L (callN p n false f) vs H Q E))
    (f : Nat) (fd : FnD) (fdat : FuncData) (ps : List Str) (hf : p.fns[f]? = some fd) (t : FTx K L nm f fd fdat ps) : FnG P w K mg base (L2N.CX P w) (n + 1) (L.fad f) fdat ps (fun vs H Q E => vs.length = ps.length ∧ spM L (callN p (n + 1) false f) vs H Q E) := by
  obtain ⟨name, qual, params, body, scope, dV, kV, doc, pm, cdv, ct, oc, an, od, osl, N, rfl, hlk, hcd, S, hmt, hnv⟩ := t.ex
  refine fnG_of hlk hcd S (fun vs H Q E h => h.1) (fun A outer s H vs Q E hr ⟨hl, m, F, st, ds, wd, rl, hp⟩ => ?_)
  have sx : Sx ⟨N, scope, nm, true, true⟩ L (O p n) ⟨m, F, H, none⟩ (cxOf (L2N.CX P w) P w K mg base N qual scope (L.fad f) cdv A outer s H E) (fun cls d _ H' => E cls d H') := by
    refine ⟨⟨T.KL, hr.r.units, hr.g, rfl, S.nd, rfl, fun _ => rfl, fun _ _ => rfl, ?_, T.blt, fun _ g x hx => ?_, fun _ => rfl, (fun q e => by cases e), T.cl, T.xk n, T.xf n, T.fi, T.nmf⟩, S.kind, ?_, rfl, rfl, fun _ c x hx hs hq => T.mkx n c x base _ hx hs hq (hr.mono (Nat.zero_le _)), T.ar n, T.em n⟩
    · exact L2N.takes_of (X := cxOf (L2N.CX P w) P w K mg base N qual scope (L.fad f) cdv A outer s H E) rfl rfl rfl rfl
    · obtain ⟨h1, h2, gd, h3⟩ := T.fnx g x hx
      obtain ⟨gdat, gps, gt⟩ := T.fns g gd h3
      exact ⟨h1, h2, n, gdat, gps, hr, ih g gd gdat gps h3 gt, Binds.all gt.bd, fun ds st hb => by rw [callN_len h3 gt.df hb, gt.np]⟩
    · exact passes_of (X := cxOf (L2N.CX P w) P w K mg base N qual scope (L.fad f) cdv A outer s H E) rfl
  refine ⟨_, sB fd.body _ _ _ _ _ _ sx body hmt, ?_⟩
  rw [callN, hf] at hp
  simp only at hp
  have henv : envOf fd (ds.map .dat) = some (ds.map (fun d => some (Val.dat d)) ++ List.replicate (fd.nv - fd.np) none) := by
    unfold envOf
    rw [if_pos (by rw [t.df]; simp [rl.len, hl, t.np]), t.df]
    simp [Function.comp_def]
  rw [henv, t.tmp] at hp
  have hnl : ps.length ≤ N.length := by have := congrArg List.length S.pre; rw [List.length_take] at this; omega
  refine ⟨m, F, _, st, sim_start (k := fd.nv - fd.np) wd rl (by rw [hl, hnv]; have := t.np; omega), ?_⟩
  have hp : PostC L m F H (trim false st.length (runF (O p n) fd.body (ds.map (fun d => some (Val.dat d)) ++ List.replicate (fd.nv - fd.np) none) st)) Q E := hp
  unfold runF at hp
  cases e : exB (O p n) fd.body (ds.map (fun d => some (Val.dat d)) ++ List.replicate (fd.nv - fd.np) none) st with
  | nx E1 st1 =>
    rw [e] at hp
    exact fun m' F' σ' H' M1 (S1 : Sim L ⟨m, F, H, none⟩ m' F' E1 st1 σ' H') => hp m' F' .non H' S1.ex S1.wd (by simp [OutRep, Rep])
  | rt v st1 =>
    rw [e] at hp
    exact fun m' F' x H' w1 X1 r => hp m' F' x H' X1 w1 r
  | ex xc E1 st1 =>
    rw [e] at hp
    exact fun m' F' σ' H' cls d M1 (S1 : Sim L ⟨m, F, H, none⟩ m' F' E1 st1 σ' H') r => hp m' F' H' cls d S1.ex S1.wd r
  | bk E1 st1 => rw [e] at hp; exact hp.elim
  | ct E1 st1 => rw [e] at hp; exact hp.elim
  | bad => rw [e] at hp; exact hp.elim
theorem fn_all (T : LawTx P w K mg L p nm) (base : Heap) : ∀ (n f : Nat) (fd : FnD) (fdat : FuncData) (ps : List Str), p.fns[f]? = some fd → FTx K L nm f fd fdat ps →
    FnG P w K mg base (L2N.CX P w) n (L.fad f) fdat ps (fun vs H Q E => vs.length = ps.length ∧ spM L (callN p n false f) vs H Q E)
  | 0, f, fd, fdat, ps, hf, t => ⟨fun vs H Q E h => h.1, fun A outer s H args us vs Q E _ _ _ _ ⟨_, m, F, st, ds, _, _, hp⟩ => by rw [callN] at hp; exact hp.elim⟩
  | n + 1, f, fd, fdat, ps, hf, t => fn_step T n base (fun f fd fdat ps => fn_all T base n f fd fdat ps) f fd fdat ps hf t
end
end Mp

end
section
set_option Elab.async false
set_option linter.all false
set_option maxRecDepth 100000
set_option maxHeartbeats 4000000
/-! S25: an own exception whose __init__ says super().__init__(..) and stores its fields. -/
namespace PySem
namespace MpX
open PySem.W PySem.Calls PyProof.Rows PySem.HandSPX
def namesB : List Str → List Expr → Bool
  | [], es => match es with | [] => true | _ => false
  | n :: ns, es => match es with | .Name x _ :: r => decide (x = n) && namesB ns r | _ => false
def asgsB : List Str → List Stmt → Bool
  | [], ss => match ss with | [] => true | _ => false
  | n :: ns, ss => match ss with | .Assign [.Attribute (.Name s _) a _] (.Name x _) _ :: r => decide (s = ("self" : Str)) && decide (a = n) && decide (x = n) && asgsB ns r | _ => false
def initB (ns : List Str) : List Stmt → Bool
  | .Expr (.Call (.Attribute (.Call (.Name s _) [] [] _) i ap) args [] cp) _ :: r => decide (s = ("super" : Str)) && decide (i = ("__init__" : Str)) && !args.isEmpty && decide (ap.endLine = cp.line) && decide (args.length < 20) && namesB ns args && asgsB ns r
  | _ => false
/-- a local name of the frame -/
structure Loc (env : Env) (h : Heap) (m : Str → Option Value) (L : Addr) : Prop where
  k : env.scope.kind = .function
  e : env.locals = L
  n : h.Ns L m
section
variable {prog : Program} {w : World} {A : Around} {E : Value → Shared → Prop} {s : Shared} {env : Env} {m : Str → Option Value} {L : Addr}
theorem name_ev {x : Str} {v : Value} {p : Pos} {Q : Value → Shared → Prop} (l : Loc env s.heap m L) (hl : env.kindOf x = some .local) (hd : (x == ("__debug__" : Str)) = false) (hm : m x = some v) (h : Q v s) : wpAny (model prog w) A (eval (.Name x p) env) Q E s :=
  wpAny_Name (wpAny_loadName_local l.k hl (by rw [l.e]; exact l.n) hm h) hd
theorem names_ev {pos : Pos} : ∀ {ns : List Str} {es : List Expr} {vs : List Value} {Q : List Value → Shared → Prop}, namesB ns es = true → vs.length = ns.length → Loc env s.heap m L → (∀ n ∈ ns, env.kindOf n = some .local ∧ (n == ("__debug__" : Str)) = false) →
    (∀ (i : Nat) (n : Str) (v : Value), ns[i]? = some n → vs[i]? = some v → m n = some v) → Q vs s → wpAny (model prog w) A (spliced (backTo pos (starEach es env))) Q E s
  | [], [], [], Q, _, _, _, _, _, h => spliced_nil h
  | [], _ :: _, _, _, hb, _, _, _, _, _ => by simp [namesB] at hb
  | [], [], _ :: _, _, _, hl, _, _, _, _ => by cases hl
  | n :: ns, es, vs, Q, hb, hl, l, hk, hm, h => by
    cases es with
    | nil => simp [namesB] at hb
    | cons e es =>
      cases e <;> simp only [namesB, Bool.and_eq_true, decide_eq_true_eq] at hb <;> try contradiction
      rename_i x p
      obtain ⟨rfl, hb⟩ := hb
      cases vs with
      | nil => cases hl
      | cons v vs =>
        show wpAny _ _ (spliced ((false, eval (.Name x p) env) :: backTo pos (starEach es env))) _ _ s
        refine spliced_cons (name_ev l (hk x List.mem_cons_self).1 (hk x List.mem_cons_self).2 (hm 0 x v rfl rfl) ?_)
        exact names_ev hb (by simpa using hl) l (fun n hn => hk n (List.mem_cons_of_mem _ hn)) (fun i n v h1 h2 => hm (i + 1) n v h1 h2) h
theorem names_plain {pos : Pos} : ∀ {ns : List Str} {es : List Expr}, namesB ns es = true → (backTo pos (starEach es env)).all (!·.1) = true ∧ (backTo pos (starEach es env)).any (·.1) = false
  | [], [], _ => ⟨rfl, rfl⟩
  | [], _ :: _, h => by simp [namesB] at h
  | n :: ns, es, h => by
    cases es with
    | nil => simp [namesB] at h
    | cons e es =>
      cases e <;> simp only [namesB, Bool.and_eq_true, decide_eq_true_eq] at h <;> try contradiction
      rename_i x p
      obtain ⟨h1, h2⟩ := names_plain (pos := pos) h.2
      constructor
      · show ((!false) && (backTo pos (starEach es env)).all (!·.1)) = true
        rw [h1]; rfl
      · show (false || (backTo pos (starEach es env)).any (·.1)) = false
        rw [h2]; rfl
theorem he_super {o : Expr} {name : Str} {ap cp : Pos} {args : List Expr} {ns : List Str} (hline : ap.endLine = cp.line) (hfew : args.length < 20) (hn : namesB ns args = true) : eval (.Call (.Attribute o name ap) args [] cp) env = (do
      let ov ← attributeBase o name env (eval o env)
      standAt ap.atName
      let (f, first) ← holding [ov] (getMethod ov name (do return (← importBound o env).getD true))
      callWith cp f first (backTo cp (starEach args env)) []) := by
  have hform : methodCallForm (args.length + ([] : List Keyword).length) (backTo cp (starEach args env)) (backToKw cp (keywordEach [] env)) = true := by
    unfold methodCallForm
    rw [(names_plain hn).1]
    show (true && true && decide (args.length + 0 + 0 < 30)) = true
    simp; omega
  have hpos : methodCallPos true o env ap cp = pure cp := by unfold methodCallPos; simp [hline]
  rw [arm_eval_Call]
  unfold methodCall
  simp only [hform, hpos, calleeOf, if_true, pure_bind]
  rfl
/-- a field's value in a chain of stores -/
def putM (n : Str) (v : Value) (m0 : Str → Option Value) : Str → Option Value := fun y => if y = n then some v else m0 y
def putAll : List Str → List Value → (Str → Option Value) → Str → Option Value
  | n :: ns, v :: vs, m0 => putAll ns vs (putM n v m0)
  | _, _, m0 => m0
abbrev excD (C t : Addr) (dx : Addr) : Obj := { cls := .ref C, dict := some dx, data := .fields #[.ref t, .none, .none, .none, .bool false, .none] }
/-- the later fields -/
theorem asgs_old {K : Frag} {C x dx t1 : Addr} {cd : ClassData} (hcd : clsIn K C = some cd) (hm : refsVE cd.mro = true) (hh : cd.hasDict = true) (sa : findIn K (.ref C) "__setattr__" = some (some (.builtin "object.__setattr__"))) (hxL : x ≠ L) (hnx : K.lookup x = none) (hLd : L ≠ dx) (hxd : x ≠ dx) (hKd : ∀ o, K.lookup dx = some o → False) :
    ∀ {ns : List Str} {ss : List Stmt} {vs : List Value} {s : Shared} {m0 : Str → Option Value} {nl : List Str} {Q : Flow → Shared → Prop}, asgsB ns ss = true → vs.length = ns.length → K.In s.heap → s.heap.get? x = some (excD C t1 dx) → s.heap.Ns1 dx m0 → Within m0 nl → nl.length + ns.length ≤ 1000 → Loc env s.heap m L →
      env.kindOf ("self" : Str) = some .local → m ("self" : Str) = some (.ref x) → (∀ n ∈ ns, env.kindOf n = some .local ∧ (n == ("__debug__" : Str)) = false ∧ findIn K (.ref C) n = some none) → (∀ (i : Nat) (n : Str) (v : Value), ns[i]? = some n → vs[i]? = some v → m n = some v) →
      (∀ h' tk, (∀ b o, b ≠ dx → s.heap.get? b = some o → h'.get? b = some o) → h'.Ns1 dx (putAll ns vs m0) → Q .next { s with heap := h', toks := tk }) → wpAny (model prog w) A (execs ss env) Q E s
  | [], [], [], s, m0, nl, Q, _, _, X, hx, hn, _, _, _, _, _, _, _, h => wpAny_execs_nil (by
      have := h s.heap s.toks (fun _ _ _ e => e) hn
      exact this)
  | [], _ :: _, _, _, _, _, _, hb, _, _, _, _, _, _, _, _, _, _, _, _ => by simp [asgsB] at hb
  | [], [], _ :: _, _, _, _, _, _, hl, _, _, _, _, _, _, _, _, _, _, _ => by cases hl
  | n :: ns, ss, vs, s, m0, nl, Q, hb, hl, X, hx, hn, hw, hz, l, hs, hms, hk, hv, h => by
    cases ss with
    | nil => simp [asgsB] at hb
    | cons st ss =>
      unfold asgsB at hb
      split at hb
      · rename_i heq
        cases heq
        simp only [Bool.and_eq_true, decide_eq_true_eq] at hb
        obtain ⟨⟨⟨rfl, rfl⟩, e3⟩, hb⟩ := hb
        subst e3
        cases vs with
        | nil => cases hl
        | cons v vs =>
          obtain ⟨oD, esD, epD, hoD, hdD, _⟩ := hn.count hw
          refine wpAny_execs_cons (plainObj_wpAny_Assign_Attribute ?_)
          refine name_ev l (hk _ List.mem_cons_self).1 (hk _ List.mem_cons_self).2.1 (hv 0 _ v rfl rfl) (name_ev l hs (by decide +kernel) hms ?_)
          refine set_plain X (ox := excD C t1 dx) (od := some oD) ⟨hx, rfl, rfl, hoD⟩ sa ?_
          refine OEX.osa_old X hx hn hw (by simp at hz; omega) hcd hm hh (hk _ List.mem_cons_self).2.2 (fun h' tk' k hn' => ?_)
          show wpAny _ _ (execs _ _) _ _ _
          refine asgs_old hcd hm hh sa hxL hnx hLd hxd hKd (s := { s with heap := h', toks := tk' }) (nl := _ :: nl) hb (by simpa using hl) (fun a o e => k a o (fun z => hKd o (z ▸ e)) (X a o e)) (k _ _ hxd hx) hn' (Within.cons _ v hw) (by simp at hz ⊢; omega) ⟨l.k, l.e, l.n.at fun o q => k _ _ hLd q⟩ hs hms (fun n hn => hk n (List.mem_cons_of_mem _ hn)) (fun i n v h1 h2 => hv (i + 1) n v h1 h2) fun h2 tk2 k2 n2 => ?_
          exact h h2 tk2 (fun b o hb e => k2 b o hb (k b o hb e)) n2
      · cases hb
/-- all fields, from an exception without a dict -/
theorem asgs_new {K : Frag} {C x t1 : Addr} {cd : ClassData} (hcd : clsIn K C = some cd) (hm : refsVE cd.mro = true) (hh : cd.hasDict = true) (sa : findIn K (.ref C) "__setattr__" = some (some (.builtin "object.__setattr__"))) (hxL : x ≠ L) (hnx : K.lookup x = none)
    {ns : List Str} {ss : List Stmt} {vs : List Value} {s : Shared} {Q : Flow → Shared → Prop} (hne : ns ≠ []) (hb : asgsB ns ss = true) (hl : vs.length = ns.length) (X : K.In s.heap) (hx : s.heap.get? x = some (excO C t1)) (hz : ns.length ≤ 900) (l : Loc env s.heap m L)
    (hs : env.kindOf ("self" : Str) = some .local) (hms : m ("self" : Str) = some (.ref x)) (hk : ∀ n ∈ ns, env.kindOf n = some .local ∧ (n == ("__debug__" : Str)) = false ∧ findIn K (.ref C) n = some none) (hv : ∀ (i : Nat) (n : Str) (v : Value), ns[i]? = some n → vs[i]? = some v → m n = some v)
    (h : ∀ h' tk dx, (∀ b o, b ≠ x → s.heap.get? b = some o → h'.get? b = some o) → s.heap.objs.size ≤ dx → dx ≠ x → h'.get? x = some (excD C t1 dx) → h'.Ns1 dx (putAll ns vs fun _ => none) → Q .next { s with heap := h', toks := tk }) : wpAny (model prog w) A (execs ss env) Q E s := by
  cases ns with
  | nil => exact absurd rfl hne
  | cons n ns =>
    cases ss with
    | nil => simp [asgsB] at hb
    | cons st ss =>
      unfold asgsB at hb
      split at hb
      · rename_i heq
        cases heq
        simp only [Bool.and_eq_true, decide_eq_true_eq] at hb
        obtain ⟨⟨⟨rfl, rfl⟩, e3⟩, hb⟩ := hb
        subst e3
        cases vs with
        | nil => cases hl
        | cons v vs =>
          refine wpAny_execs_cons (plainObj_wpAny_Assign_Attribute ?_)
          refine name_ev l (hk _ List.mem_cons_self).1 (hk _ List.mem_cons_self).2.1 (hv 0 _ v rfl rfl) (name_ev l hs (by decide +kernel) hms ?_)
          refine set_plain X (ox := excO C t1) (od := none) ⟨hx, rfl, rfl, trivial⟩ sa ?_
          refine exc_osa X hx hcd hm hh (hk _ List.mem_cons_self).2.2 (fun h' tk' dx k dn dne hx' hn' => ?_)
          show wpAny _ _ (execs _ _) _ _ _
          have hsz : L < s.heap.objs.size := l.n.lt
          have hKd : ∀ o, K.lookup dx = some o → False := fun o e => absurd (Heap.lt_size (X _ _ e)) (Nat.not_lt.mpr dn)
          refine asgs_old hcd hm hh sa hxL hnx (Nat.ne_of_lt (Nat.lt_of_lt_of_le hsz dn)) (Ne.symm dne) hKd (s := { s with heap := h', toks := tk' }) (nl := [_]) hb (by simpa using hl) (fun a o e => k a o (fun z => by rw [z, hnx] at e; cases e) (X a o e)) hx' hn' (Within.cons _ v Within.nil) (by simp at hz ⊢; omega) ⟨l.k, l.e, l.n.at fun o q => k _ _ (Ne.symm hxL) q⟩ hs hms (fun n hn => hk n (List.mem_cons_of_mem _ hn)) (fun i n v h1 h2 => hv (i + 1) n v h1 h2) fun h2 tk2 k2 n2 => ?_
          exact h h2 tk2 dx (fun b o hb e => k2 b o (fun z => absurd (Heap.lt_size e) (by rw [z]; exact Nat.not_lt.mpr dn)) (k b o hb e)) dn dne (k2 _ _ (Ne.symm dne) hx') n2
      · cases hb
end
/-- what the written part says of such a class and its __init__ -/
structure SiT (P : Program) (K : Frag) (C fI : Addr) (ns : List Str) : Prop where
  cls : ∃ nm q N bs bm sn sub ab col dd k0 k1 k2 k3 k5, K.lookup C = some (excClassObj nm q C N bs bm true sn sub ab col dd k0 k1 k2 k3 k5 "ValueError.__new__") ∧ refsVE bm = true
  sa : findIn K (.ref C) "__setattr__" = some (some (.builtin "object.__setattr__"))
  iC : findIn K (.ref C) "__init__" = some (some (.ref fI))
  tC : typeIn K (.ref fI) = some (.type "function")
  kC : keepIn K (.ref C) = true
  exC : subIn K (.ref C) (.type "BaseException") = some true
  vE : subIn K (.ref C) (.type "ValueError") = some true
  sC : mroIn K C (.ref C) = some true
  tyC : typeIn K (.ref C) = some (.type "type")
  sup : ks_superIn K C C "__init__" = some (some (.builtin "ValueError.__init__"))
  op : nsIn K cStatics "thirdparty.any" = some none
  ne : ns ≠ []
  nd : (("self" : Str) :: ns).Nodup
  ln : ns.length ≤ 900
  nm : ∀ n ∈ ns, (n == ("__debug__" : Str)) = false ∧ findIn K (.ref C) n = some none
  fn : ∃ (oc : Value) (od : Option Addr) (qual : Str) (params : Arguments) (body : List Stmt) (scope : Scope) (doc pm : Value) (an : Option Addr) (cda cc : Addr) (ct : Value) (osl : Array (Option Value)) (ccl : Value) (cdd : Option Addr) (vs : Array Value) (ccs : Array (Option Value)) (file : Str) (tf : Tok) (cl : Value) (cld : Option Addr) (csl : Array (Option Value)) (ar : Arg),
    K.lookup fI = some ⟨oc, od, .func (ksFn "__init__" qual params body scope .none .none doc pm an (.ref cda) ct cc), osl⟩ ∧ codeIn K (.ref cda) qual = true ∧ initB ns body = true ∧
    (∀ us : List Value, us.length = ns.length + 1 → bindArgs (ksFn "__init__" qual params body scope .none .none doc pm an (.ref cda) ct cc) ⟨us, []⟩ = pure ((("self" : Str) :: ns).zip us)) ∧
    (scope.kind = .function ∧ scope.isCoroutine = false ∧ scope.isGenerator = false ∧ (∀ y ∈ scope.names, y.2 ≠ .cell)) ∧ (∀ n ∈ ("self" : Str) :: ns, scope.names.lookup n = some .local) ∧ scope.names.lookup ("super" : Str) = some .globalImplicit ∧ scope.names.lookup ("__class__" : Str) = some .free ∧
    (params.posonlyargs ++ params.args).head? = some ar ∧ ar.arg = ("self" : Str) ∧ K.lookup cda = some ⟨ccl, cdd, .fields vs, ccs⟩ ∧ vs[2]? = some (.str file tf) ∧ ((P.main.file : Str) == file) = true ∧ K.lookup cc = some ⟨cl, cld, .cell (some (.ref C)), csl⟩ ∧ (P.main.scope.names.lookup ("super" : Str)).isSome = false
structure SiEnd (h h' : Heap) (x C dx t1 : Addr) (ns : List Str) (vs : List Value) : Prop where
  keep : ∀ b o, b ≠ x → h.get? b = some o → h'.get? b = some o
  obj : h'.get? x = some (excD C t1 dx)
  dbig : h.objs.size ≤ dx
  dne : dx ≠ x
  ns : h'.Ns1 dx (putAll ns vs fun _ => none)
section
variable {prog : Program} {w : World} {A : Around} {R : Result → Shared → Prop} {s : Shared} {K : Frag} {mg mb : Str → Option Value} {C fI : Addr} {ns : List Str}
theorem zip_get {ns : List Str} {vs : List Value} (hl : vs.length = ns.length) (nd : ns.Nodup) {i : Nat} {n : Str} {v : Value} (h1 : ns[i]? = some n) (h2 : vs[i]? = some v) : (ns.zip vs).reverse.lookup n = some v := by
  have key : ∀ l : List (Str × Value), (l.map (·.1)).Nodup → (n, v) ∈ l → l.lookup n = some v := fun l => by
    induction l with
    | nil => intro _ h; cases h
    | cons p l ih =>
      intro hn hm
      obtain ⟨a, b⟩ := p
      rw [List.map_cons, List.nodup_cons] at hn
      rw [List.lookup_cons]
      rcases List.mem_cons.mp hm with e | e
      · cases e; simp
      · have : n ≠ a := fun z => hn.1 (by rw [← z]; exact List.mem_map.mpr ⟨(n, v), e, rfl⟩)
        have e2 : (n == a) = false := by simpa using this
        rw [e2]
        exact ih hn.2 e
  refine key _ ?_ ?_
  · rw [List.map_reverse, List.map_fst_zip (by omega)]
    exact List.pairwise_reverse.mpr (nd.imp fun h => Ne.symm h)
  · rw [List.mem_reverse]
    exact List.mem_of_getElem? (i := i) (by rw [List.getElem?_zip_eq_some]; exact ⟨h1, h2⟩)
theorem si_init (T : SiT prog K C fI ns) {x t0 : Addr} {vs : List Value} (hl : vs.length = ns.length) (X : K.In s.heap) (hlim : s.heap.NoLimit) (hx : s.heap.get? x = some (excO C t0)) (hnx : K.lookup x = none) (hg : s.heap.Ns mainGlobals mg) (hmg : mg "super" = none) (hb : s.heap.Ns builtinsNs mb)
    (hmb : mb "super" = some (.type "super")) (hroom : A.depth < recursionLimit) (hq : ∀ h' tk dx t1, SiEnd s.heap h' x C dx t1 ns vs → R (.ok (.ret .none)) { s with heap := h', toks := tk }) :
    codeAny (model prog w) A (.call (.ref fI) ⟨.ref x :: vs, []⟩) R s := by
  obtain ⟨oc, od, qual, params, body, scope, doc, pm, an, cda, cc, ct, osl, ccl, cdd, cvs, ccs, file, tf, cl, cld, csl, ar, ho, hcd, hbody, hbind, ⟨hk, hco, hgen, hcell⟩, hloc, hsu, hcl, har, har2, hcode, hvs, hfile, hcellO, htop⟩ := T.fn
  obtain ⟨nm, q, N, bs, bm, sn, sub, ab, col, dd, k0, k1, k2, k3, k5, hC, hbm⟩ := T.cls
  have hcdC : clsIn K C = some { name := nm, bases := bs, mro := .ref C :: bm, ns := N, qualname := q, hasDict := true, slotNames := sn, subclasses := sub, abstract := ab, collection := col, hasDel := false } := by unfold clsIn; rw [hC] <;> rfl
  refine ks_codeAny_call_defAt (fd := ksFn "__init__" qual params body scope .none .none doc pm an (.ref cda) ct cc) (body := body) (binds := (("self" : Str) :: ns).zip (.ref x :: vs)) hroom (X _ _ ho) rfl hlim (codeRec_of X hcd) rfl (BindsTo.of_eq (hbind _ (by simp [hl]))) hcell (fun y hy => hloc _ (List.of_mem_zip hy).1) (fun h₁ hns k₁ => ?_) hco hgen hk
  have X₁ : K.In h₁ := X.keeps k₁
  have hx₁ := k₁ _ _ hx
  have nd0 := T.nd
  rw [List.nodup_cons] at nd0
  have hself : (fun y => ((("self" : Str) :: ns).zip (.ref x :: vs)).reverse.lookup y) ("self" : Str) = some (.ref x) := zip_get (by simp [hl]) T.nd (i := 0) rfl rfl
  have hvar : ∀ (i : Nat) (n : Str) (v : Value), ns[i]? = some n → vs[i]? = some v → (fun y => ((("self" : Str) :: ns).zip (.ref x :: vs)).reverse.lookup y) n = some v := fun i n v h1 h2 => zip_get (by simp [hl]) T.nd (i := i + 1) h1 h2
  have hxL : x ≠ s.heap.objs.size := Nat.ne_of_lt (Heap.lt_size hx)
  generalize hm : (fun y => ((("self" : Str) :: ns).zip (.ref x :: vs)).reverse.lookup y) = m at hns hself hvar
  obtain ⟨hh, g, d, t, os⟩ := s
  dsimp only at *
  unfold initB at hbody
  split at hbody
  · rename_i sN q0 q1 iN ap args cp p0 rest
    simp only [Bool.and_eq_true, decide_eq_true_eq, Bool.not_eq_true'] at hbody
    obtain ⟨⟨⟨⟨⟨⟨rfl, rfl⟩, hae⟩, hline⟩, hfew⟩, hnb⟩, hab⟩ := hbody
    have I₁ : InstAt h₁ x (excO C t0) C none := ⟨hx₁, rfl, rfl, trivial⟩
    have hint : interactive (ksEnv qual scope hh.objs.size fI (.ref cda) cc) = false := by
      unfold interactive
      simp [hk]
    refine ks_wpAt_execs_cons (ks_wpAt_Expr_any (ks_wpAt_MethodCall (ks_wpAt_super_base (env := ksEnv qual scope hh.objs.size fI (.ref cda) cc) hsu hcl (by decide +kernel) rfl (X₁ _ _ ho) rfl har rfl (X₁ _ _ hcode) rfl hvs hfile htop ?_) (he_super hline hfew hnb)) hint rfl)
    refine ks_loadName_global hk hsu (loadGlobal_builtin (env := ksEnv qual scope hh.objs.size fI (.ref cda) cc) (hg.keeps k₁) hmg (hb.keeps k₁) hmb ⟨rfl, ?_⟩)
    refine wpAny_loadName_free hk hcl rfl ⟨_, X₁ _ _ hcellO, rfl⟩ ?_
    rw [har2]
    refine wpAny_loadName_local hk (hloc _ List.mem_cons_self) hns hself ?_
    refine ks_wpAny_isType_cls (X₁ _ _ hC) rfl ⟨rfl, ?_⟩
    refine ks_wpAny_call_super (X₁ _ _ hC) rfl hx₁ rfl (fun c z => nomatch z) (looks_mroIn X₁ T.sC) (fun h₂ e₂ k₂ => ?_)
    have X₂ : K.In h₂ := X₁.keeps k₂
    have I₂ : InstAt h₂ x (excO C t0) C none := ⟨k₂ _ _ hx₁, rfl, rfl, trivial⟩
    refine kxs_getMethod kxs_ValueError e₂ (looks_opaque X₂ T.op) (l₀ := .ref C :: bm) (fun A Q E s k q => wpAny_bind ((looks_clsIn X₂ hcdC) A _ E s k (wpAny_pure q))) rfl X₂ (by have := T.sup; unfold ks_superIn at this; rw [hcdC] at this; exact this) (I₂.type.andThen (looks_subIn X₂ T.vE)) (ks_ne X₂ I₂ hcdC) (by decide +kernel) ?_
    have k₃ : ∀ b o, h₂.get? b = some o → (h₂.push (kxs_mw "ValueError.__init__" x)).get? b = some o := fun b o e => Heap.get?_push_of_some _ e
    have u₃ : (h₂.push (kxs_mw "ValueError.__init__" x)).get? h₂.objs.size = some (kxs_mw "ValueError.__init__" x) := Heap.get?_push_at rfl rfl
    generalize h₂.push (kxs_mw "ValueError.__init__" x) = h₃ at k₃ u₃
    have X₃ : K.In h₃ := X₂.keeps k₃
    have hx₃ := k₃ _ _ (k₂ _ _ hx₁)
    have ns₃ : h₃.Ns hh.objs.size m := (hns.keeps k₂).keeps k₃
    have loc₃ : ∀ tk, Loc (ksEnv qual scope hh.objs.size fI (.ref cda) cc) (⟨h₃, g, d, tk, os⟩ : Shared).heap m hh.objs.size := fun tk => ⟨hk, rfl, ns₃⟩
    have hkv : ∀ n ∈ ns, (ksEnv qual scope hh.objs.size fI (.ref cda) cc).kindOf n = some .local ∧ (n == ("__debug__" : Str)) = false := fun n hn => ⟨hloc n (List.mem_cons_of_mem _ hn), (T.nm n hn).1⟩
    show wpAny (model prog w) _ (callWith cp (.ref h₂.objs.size) [] (backTo cp (starEach args (ksEnv qual scope hh.objs.size fI (.ref cda) cc))) []) _ _ _
    refine kxs_callWith (i := "ValueError.__init__") (x := x) (names_plain hnb).2 ?_
    have core : ∀ {Q : List Value → Shared → Prop} {E : Value → Shared → Prop} {A : Around} {tk : Nat}, Q vs ⟨h₃, g, d, tk, os⟩ → wpAny (model prog w) A (spliced (backTo cp (starEach args (ksEnv qual scope hh.objs.size fI (.ref cda) cc)))) Q E ⟨h₃, g, d, tk, os⟩ := fun {Q E A tk} q =>
      names_ev hnb hl (loc₃ tk) hkv hvar q
    cases args with
    | nil => cases hae
    | cons e es =>
      have hst : starEach (e :: es) (ksEnv qual scope hh.objs.size fI (.ref cda) cc) = (false, eval e (ksEnv qual scope hh.objs.size fI (.ref cda) cc)) :: starEach es (ksEnv qual scope hh.objs.size fI (.ref cda) cc) := by
        cases ns with
        | nil => simp [namesB] at hnb
        | cons n ns => cases e <;> simp only [namesB, Bool.and_eq_true, decide_eq_true_eq] at hnb <;> first | contradiction | rfl
      rw [hst] at core ⊢
      refine evalArgs_plain (core ⟨u₃, ?_⟩)
      show wpAny (model prog w) _ (call (.ref h₂.objs.size) vs) _ _ _
      refine wpAny_call (codeAny_of_tree ?_)
      show wpAny _ _ (callAny (.ref h₂.objs.size) ⟨vs, []⟩) _ _ _
      simp only [callAny]
      refine wpAny_bind (wpAny_load u₃ ?_)
      simp only [kxs_mw, show (Value.type "method-wrapper" == Value.type "method" || Value.type "method-wrapper" == Value.type "builtin_function_or_method" || Value.type "method-wrapper" == Value.type "method-wrapper") = true by decide, if_true]
      refine KFB.if_so (by decide) ?_
      refine wpAny_bind (check_bound_init F.excBase_ValueError.toExcCallFacts (X₃ _ _ hC) hx₃ rfl ?_)
      refine wpAny_bind (wpAny_pure (wpAny_pure ?_))
      refine ⟨plainId_quiet F.excBase_ValueError.init.plain _, codeAny_builtin F.excBase_ValueError.initEntry ?_⟩
      refine exc_init_tree (cls := .ref C) (t0 := t0) (dv := none) (c2 := .none) (c3 := .none) (b4 := .bool false) hx₃ (by rw [hl, sizeLine_eq]; have := T.ln; omega) (fun h₄ k₄ hx₄ _ => ?_)
      show wpAt (model prog w) _ _ (execs rest (ksEnv qual scope hh.objs.size fI (.ref cda) cc)) _ _ _
      have hcdh : refsVE (.ref C :: bm) = true := hbm
      have X₄ : K.In h₄ := fun a o e => k₄ a o (fun z => by rw [z, hnx] at e; cases e) (X₃ a o e)
      have ns₄ : h₄.Ns hh.objs.size m := ns₃.at fun o q => k₄ _ _ (Ne.symm hxL) q
      refine wpAt_of_wpAny (asgs_new hcdC hcdh rfl T.sa hxL hnx T.ne hab hl X₄ hx₄ T.ln ⟨hk, rfl, ns₄⟩ (hloc _ List.mem_cons_self) hself (fun n hn => ⟨hloc n (List.mem_cons_of_mem _ hn), T.nm n hn⟩) hvar fun h' tk dx k' dn dne hx' n' => ?_)
      have z1 : hh.objs.size < h₁.objs.size := hns.lt
      refine hq h' tk dx _ ⟨fun b o hb e => k' b o hb (k₄ b o hb (k₃ b o (k₂ b o (k₁ b o e)))), hx', ?_, dne, n'⟩
      have z2 : hh.objs.size < h₄.objs.size := ns₄.lt
      exact Nat.le_trans (Nat.le_of_lt z2) dn
  · cases hbody
end
end MpX
end PySem

end
section
set_option Elab.async false
set_option linter.all false
set_option maxRecDepth 100000
set_option maxHeartbeats 4000000
/-! S26: making an own exception. -/
namespace PySem
namespace MpX
open PySem.W PySem.Calls PyProof.Rows PySem.HandSPX
structure SiMade (h h' : Heap) (e C d : Addr) (ns : List Str) (vs : List Value) : Prop where
  keep : ∀ b o, h.get? b = some o → h'.get? b = some o
  new : h.objs.size ≤ e
  obj : ∃ t1, h'.get? e = some (excD C t1 d)
  dbig : h.objs.size ≤ d
  dne : d ≠ e
  ns : h'.Ns1 d (putAll ns vs fun _ => none)
section
variable {prog : Program} {w : World} {A : Around} {R : Result → Shared → Prop} {s : Shared} {K : Frag} {mg mb : Str → Option Value} {C fI : Addr} {ns : List Str}
theorem si_made (T : SiT prog K C fI ns) {vs : List Value} (hl : vs.length = ns.length) (X : K.In s.heap) (hlim : s.heap.NoLimit) (hg : s.heap.Ns mainGlobals mg) (hmg : mg "super" = none) (hb : s.heap.Ns builtinsNs mb) (hmb : mb "super" = some (.type "super")) (hroom : A.depth + 1 < recursionLimit)
    (hq : ∀ h' tk e d, SiMade s.heap h' e C d ns vs → R (.ok (.ret (.ref e))) { s with heap := h', toks := tk }) : codeAny (model prog w) A (.call (.ref C) ⟨vs, []⟩) R s := by
  obtain ⟨nm, q, N, bs, bm, sn, sub, ab, col, dd, k0, k1, k2, k3, k5, hC, hbm⟩ := T.cls
  obtain ⟨hp, g, dr, tk, os⟩ := s
  have k : ∀ b o, hp.get? b = some o → ((hp.push (kdv_tup vs)).push (excO C hp.objs.size)).get? b = some o := fun b o e => Heap.get?_push_of_some _ (Heap.get?_push_of_some _ e)
  have hget : ((hp.push (kdv_tup vs)).push (excO C hp.objs.size)).get? (hp.objs.size + 1) = some (excO C hp.objs.size) := by heap_get
  have hnx : K.lookup (hp.objs.size + 1) = none := by
    cases e : K.lookup (hp.objs.size + 1) with
    | none => rfl
    | some o =>
      have z : hp.get? (hp.objs.size + 1) = some o := X _ _ e
      exact absurd (Nat.lt_of_succ_lt (Heap.lt_size z)) (Nat.lt_irrefl _)
  refine call_own F.excBase_ValueError (fun X => refsVE_contains X bm hbm) (X _ _ hC) (looks_findIn X T.iC) (fun self => bind_fn X self T.tC) (by rw [hl, sizeLine_eq]; have := T.ln; omega) ?_
  refine si_init (s := ⟨(hp.push (kdv_tup vs)).push (excO C hp.objs.size), g, dr, tk, os⟩) T hl (X.keeps k) (hlim.keeps k) hget hnx (hg.keeps k) hmg (hb.keeps k) hmb ?_ fun h' tk' dx t1 M => ?_
  · show A.depth + 1 < recursionLimit
    exact hroom
  · have old : ∀ b o, hp.get? b = some o → h'.get? b = some o := fun b o e => M.keep b o (Nat.ne_of_lt (Nat.lt_succ_of_lt (Heap.lt_size e))) (k b o e)
    have z : hp.objs.size + 1 + 1 ≤ dx := by
      first
        | (simpa only [Heap.size_push] using M.dbig)
        | exact M.dbig
        | (have q := M.dbig; rw [Heap.size_push, Heap.size_push] at q; exact q)
    exact ⟨rfl, hq h' tk' (hp.objs.size + 1) dx ⟨old, Nat.le_succ _, ⟨_, M.obj⟩, Nat.le_trans (Nat.le_trans (Nat.le_succ _) (Nat.le_succ _)) z, M.dne, M.ns⟩⟩
theorem putAll_out : ∀ {ns : List Str} {vs : List Value} {m0 : Str → Option Value} {f : Str}, f ∉ ns → putAll ns vs m0 f = m0 f
  | [], vs, m0, f, _ => by cases vs <;> rfl
  | n :: ns, [], m0, f, _ => rfl
  | n :: ns, v :: vs, m0, f, h => by
    rw [List.mem_cons, not_or] at h
    show putAll ns vs (putM n v m0) f = _
    rw [putAll_out h.2]
    exact if_neg h.1
theorem putAll_congr : ∀ {ns : List Str} {vs : List Value} {m0 m1 : Str → Option Value} {f : Str}, m0 f = m1 f → putAll ns vs m0 f = putAll ns vs m1 f
  | [], vs, m0, m1, f, h => by cases vs <;> exact h
  | n :: ns, [], m0, m1, f, h => h
  | n :: ns, v :: vs, m0, m1, f, h => by
    show putAll ns vs (putM n v m0) f = putAll ns vs (putM n v m1) f
    refine putAll_congr ?_
    unfold putM
    rw [h]
end
end MpX
end PySem
namespace L2
open PySem PySem.Spec PyProof.Rows
theorem putAll_rel : ∀ {ns : List Str} {xs : List V} {vs : List Value}, Vals xs vs → ns.Nodup → ∀ f, RelO ((ns.zip xs).lookup f) (PySem.MpX.putAll ns vs (fun _ => none) f)
  | [], xs, vs, _, _, f => by
    have : PySem.MpX.putAll [] vs (fun _ => none) f = none := by cases vs <;> rfl
    rw [this]
    simp [RelO]
  | n :: ns, [], vs, r, _, f => by cases r; simp [RelO, PySem.MpX.putAll]
  | n :: ns, x :: xs, vs, r, nd, f => by
    cases r with
    | cons rv rr =>
      rename_i v vs
      rw [List.nodup_cons] at nd
      show RelO (((n, x) :: ns.zip xs).lookup f) (PySem.MpX.putAll ns vs (PySem.MpX.putM n v fun _ => none) f)
      rw [List.lookup_cons]
      by_cases e : f = n
      · subst e
        rw [PySem.MpX.putAll_out nd.1]
        simp [PySem.MpX.putM, RelO]
        exact rv
      · have e2 : (f == n) = false := by simpa using e
        rw [e2, PySem.MpX.putAll_congr (m1 := fun _ => none) (by unfold PySem.MpX.putM; rw [if_neg e])]
        exact putAll_rel rr nd.2 f
section
variable {X : Cx} {C fI : Addr} {ns : List Str} {x : Str} {p pos : Pos} {e : Expr} {es : List Expr} {t : TA}
theorem pmk_si (T : PySem.MpX.SiT X.prog X.K C fI ns) (hr : RoomG 0 X.A) (hg : Gl X x) (hm : X.mg x = some (.ref C)) (hsu : X.mg "super" = none) (hdb : (x == ("__debug__" : Str)) = false) (ha : PA X (e :: es) t) (he : starEach (e :: es) X.env = (false, eval e X.env) :: starEach es X.env) (hpl : (backTo pos (starEach es X.env)).any (·.1) = false) :
    L2N.PMk X (.Call (.Name x p) (e :: es) [] pos) (fun σ H Q => t σ H fun vs H1 => vs.length = ns.length ∧ ∀ d, H1 d = none → Q (.ref C) (some d) (upd H1 d (.xd (ns.zip vs)))) := by
  intro pins s σ H Q I h
  refine wpAny_Call_Name_kw (ld_glob I hg hm ?_ hdb)
  refine PySem.W.callWith_K (h₀ := X.base) I.ok.mod.kin T.kC (thn (ha.run pos pins s σ H _ I h) fun us s1 hh => ?_) he hpl
  obtain ⟨vs, H1, I1, r1, hlen, q1⟩ := hh
  refine ⟨I1.kIn, ?_⟩
  show wpAny _ _ (call (.ref C) us) _ _ _
  have hlim := I1.nolimit
  obtain ⟨mb, hb1, hb2⟩ := I1.mod.blt
  have hgl := I1.mod.glob.keeps I1.bk
  obtain ⟨hp, g, dr, tk, os⟩ := s1
  have nd := T.nd
  rw [List.nodup_cons] at nd
  refine wpAny_call (PySem.MpX.si_made T (by rw [← r1.length]; exact hlen) I1.kIn hlim hgl hsu (hb1.keeps I1.bk) ((hb2 _ (by decide +kernel)).trans (by first | rfl | kernel_rfl | with_unfolding_all rfl)) (by have := hr.r.dp; omega) fun h' tk' a d M => ?_)
  show L2N.MkP X pins σ Q (.ref a) ⟨h', g, dr, tk', os⟩
  obtain ⟨t1, hoe⟩ := M.obj
  have hns := M.ns
  obtain ⟨G', g1, g2⟩ := restrict h' fun b => decide (b ≠ a)
  have gk : ∀ b, b ≠ a → G'.get? b = h'.get? b := fun b hb => g1 b (decide_eq_true hb)
  have ge : G'.get? a = none := g2 a (by simp)
  have old : ∀ b o, hp.get? b = some o → G'.get? b = some o := fun b o q => (gk b (Nat.ne_of_lt (Nat.lt_of_lt_of_le (Heap.lt_size q) M.new))).trans (M.keep b o q)
  have ob : ObjOk X.prog X.w (upd H1 d (.xd (ns.zip vs))) G' d (.xd (ns.zip vs)) :=
    ⟨_, hns.at (fun o q => (gk d M.dne).trans q), fun f => putAll_rel r1 nd.2 f⟩
  have J : Inv X pins σ (upd H1 d (.xd (ns.zip vs))) ⟨G', g, dr, tk', os⟩ := I1.laid (t' := tk') old M.dbig ob
  refine ⟨a, _, _, ⟨G', g, dr, tk', os⟩, _, .ref C, some d, rfl, J, fun b o q => ?_, ge, hoe, ⟨rfl, rfl, fun vs e => by cases e; rfl⟩, rfl, rfl, ?_, rfl, I1.bare, raises_own T.exC T.tyC, q1 d (I1.hok.fresh M.dbig)⟩
  · by_cases hb : b = a
    · have q' : G'.get? b = some o := q
      rw [hb, ge] at q'; cases q'
    · exact (gk b hb).symm.trans q
  · rw [upd_ne (Ne.symm M.dne)]
    exact I1.hok.fresh M.new
end
end L2

end
section
set_option Elab.async false
set_option linter.all false
set_option maxRecDepth 100000
set_option maxHeartbeats 4000000
/-! S27: the end of a law. -/
namespace Mp
open PySem PySem.Spec PyProof.Rows L2
theorem walk_G {l : PySem.W.OpenLaw} {n k : Nat} {q : Program} {loose : List Str} {XP : (Str → Option Value) → Heap → Prop} {YP : World → Heap → Prop} {d : DefRec} {K : Params → PySem.W.Frag} {x : Str}
    (hn : l.most = some n) (hn2 : n ≤ sizeLine) (hdf : d.params.defaults = []) (hr : RoomG k callerA)
    (hY : ∀ (w : World) (h : Heap), YP w h → (K w.params).In h)
    (F : ∀ (w : World) (mg : Str → Option Value) (fa : Addr) (h : Heap), (K w.params).In h → h.Ns mainGlobals mg → mg d.name = some (.ref fa) →
      ∃ (fd : FuncData) (sp : Sp), (∀ (s : Shared) (u : Value), BindsTo s fd ⟨[u], []⟩ [(x, u)]) ∧
        (∀ base : Heap, (K w.params).In base → base.Ns mainGlobals mg → FnG l.prog w (K w.params) mg base (L2N.CX l.prog w) k fa fd [x] sp) ∧
        ∀ (H : Hp) (a : Addr) (ns : List Int), ns.length ≤ n → Only H → SqL (K w.params) H a (ns.map V.int) → sp [.ref a] H (fun v _ => v = .bl true) fun _ _ _ => False) :
    PySem.W.WalkO q loose XP YP l.row.toRowW d [] (fun f vs => PySem.call f vs) := by
  refine Att.attach_call hn hdf fun w s₀ s₁ mg mb fa o pm cd doc a vs ns G Y ho hd hcd hmg hobj hints hlen hg => ?_
  have KX := hY w _ Y
  obtain ⟨fd, sp, hb, hF, hsp⟩ := F w mg fa _ KX G.T.g hmg
  exact law_callG KX G.T.g G.T.b G.T.builtins G.T.nolimit hg hobj hints (Nat.le_trans hlen hn2) hr hF hb (fun H hO hS => hsp H a ns hlen hO hS) fun H e s' ⟨_, _, _, _, _, _, _, _, _, _, _, _, z⟩ => z
/-- the script, as data -/
theorem law_sp {L : Lk} {K : PySem.W.Frag} {p : Prog} {N f n : Nat} (eK : L.K = K) (hn : n ≤ szMax) (hp : ∀ ns : List Int, ns.length ≤ n → ∃ st, callN p N false f [.scr ns] [] = .ok (.dat (.bl true)) st)
    (H : Hp) (a : Addr) (ns : List Int) (hl : ns.length ≤ n) (hS : SqL K H a (ns.map V.int)) : spM L (callN p N false f) [.ref a] H (fun v _ => v = .bl true) fun _ _ _ => False := by
  obtain ⟨st, hc⟩ := hp ns hl
  refine ⟨[], fun b => b = a ∧ H a ≠ none, [], [.scr ns], ⟨fun n d e => by simp at e, rfl, List.nodup_nil, fun b hb => ⟨by rw [hb.1]; exact hb.2, by simp⟩⟩, ?_, ?_⟩
  · simp only [RepL, Rep]
    refine ⟨⟨a, rfl, ?_, Nat.le_trans hl hn⟩, trivial⟩
    rw [eK]
    rcases hS with h | h
    · refine .inl ⟨⟨rfl, ?_⟩, h⟩
      rcases h with h | ⟨ob, h⟩ <;> (rw [h]; exact fun z => nomatch z)
    · exact .inr h
  · rw [hc]
    exact fun m' F' x H' _ _ r => r
/-- names of fields: told apart, those beyond the row too -/
def nmOf (l : List Str) (k : Nat) : Str := match l[k]? with | some x => x | none => ⟨(List.replicate (k + 1) 0).toArray⟩
theorem nmOf_inj {l : List Str} (h1 : l.Nodup) (h2 : ∀ x ∈ l, 0 ∉ x.cps.toList ∧ x.cps.toList ≠ []) : ∀ j k, nmOf l j = nmOf l k → j = k := by
  have rep : ∀ (x : Str) (k : Nat), x ∈ l → x = (⟨(List.replicate (k + 1) 0).toArray⟩ : Str) → False := fun x k hx e => by
    have := (h2 x hx).1
    rw [e] at this
    exact this (by simp [List.replicate_succ])
  intro j k e
  unfold nmOf at e
  cases e1 : l[j]? with
  | some x =>
    cases e2 : l[k]? with
    | some y =>
      rw [e1, e2] at e
      cases e
      exact (List.getElem?_inj (List.getElem?_eq_some_iff.mp e1).1 h1).mp (e1.trans e2.symm)
    | none => rw [e1, e2] at e; exact (rep x k (List.mem_of_getElem? e1) e).elim
  | none =>
    cases e2 : l[k]? with
    | some y => rw [e1, e2] at e; exact (rep y j (List.mem_of_getElem? e2) e.symm).elim
    | none =>
      rw [e1, e2] at e
      have := congrArg (fun s : Str => s.cps.toList.length) e
      simpa using this
theorem nmOf_get {l : List Str} {k : Nat} {y : Str} (h : l[k]? = some y) : nmOf l k = y := by unfold nmOf; rw [h]
/-- a def's text from its facts -/
theorem ftx_mk {K : PySem.W.Frag} {L : Lk} {nm : NmT} {f : Nat} {fd : FnD} {a : Addr} {name qual : Str} {st : Stmt} {od an : Option Addr} {sl : Array (Option Value)} {oc kV dc pm cd ct : Value} {N ps : List Str} (ha : L.fad f = a)
    (l : K.lookup a = some ⟨oc, od, .func (PySem.W.fnOf name qual (defArgs st) (defBody st) (defScope st) .none kV dc pm an cd ct), sl⟩) (c : PySem.W.codeIn K cd qual = true) (S : FnScope N ps (defScope st)) (m : mtB ⟨N, defScope st, nm, true, true⟩ fd.body (defBody st) = true)
    (h1 : N.length = fd.nv) (h2 : ps.length = fd.np) (h3 : fd.df = []) (h4 : fd.tmp = false) (h5 : ∀ us : List Value, us.length = ps.length → bindArgs (PySem.W.fnOf name qual (defArgs st) (defBody st) (defScope st) .none kV dc pm an cd ct) ⟨us, []⟩ = pure (ps.zip us)) :
    FTx K L nm f fd (PySem.W.fnOf name qual (defArgs st) (defBody st) (defScope st) .none kV dc pm an cd ct) ps :=
  ⟨⟨name, qual, _, _, _, .none, kV, dc, pm, cd, ct, oc, an, od, sl, N, rfl, by rw [ha]; exact l, c, S, m, h1⟩, h2, h3, h4, h5⟩
/-- an exception class with an own `__init__`: how it is made -/
theorem xcm_si {P : Program} {w : World} {K : PySem.W.Frag} {mg : Str → Option Value} {base : Heap} {A : Around} {L : Lk} {o : Orc} {c : Nat} {x : Str} {C fI : Addr} {ns : List Str} (T : PySem.MpX.SiT P K C fI ns) (hr : RoomG 0 A) (hm : mg x = some (.ref C)) (hsu : mg "super" = none)
    (hC : L.cad c = C) (hf : (o.flds c).map L.nm = ns) (hne : o.flds c ≠ []) : XcM P w K mg base A L o c x := by
  intro X e1 e2 e3 e4 e5 e6 l p p2 t ha hl hlen hg hdb
  subst e1 e3 e4 e6
  cases l with
  | nil => exact absurd (List.eq_nil_of_length_eq_zero hlen.symm) hne
  | cons e es =>
    rw [List.all_cons, Bool.and_eq_true] at hl
    intro pins s σ H Q I h
    subst hf hC
    refine L2.pmk_si (p := p) (pos := p2) T hr hg hm hsu hdb ha (okE_star hl.1 es X.env) (allOk_any hl.2) pins s σ H Q I ?_
    have q : (fun (vs : List V) (H1 : Hp) => vs.length = ((o.flds c).map L.nm).length ∧ ∀ d, H1 d = none → Q (.ref (L.cad c)) (some d) (upd H1 d (.xd (((o.flds c).map L.nm).zip vs)))) = (fun vs H1 => (o.flds c = [] → Q (.ref (L.cad c)) none H1) ∧ (o.flds c ≠ [] → vs.length = (o.flds c).length ∧ ∀ d, H1 d = none → Q (.ref (L.cad c)) (some d) (upd H1 d (.xd (((o.flds c).map L.nm).zip vs))))) := by
      funext vs H1
      refine propext ⟨fun z => ⟨fun y => absurd y hne, fun _ => ⟨by rw [z.1, List.length_map], z.2⟩⟩, fun z => ?_⟩
      have := z.2 hne
      exact ⟨by rw [this.1, List.length_map], this.2⟩
    show t σ H _
    rw [q]
    exact h
end Mp

end
section
set_option Elab.async false
set_option maxRecDepth 100000
set_option maxRecDepth 100000
namespace Pk10
open Mp
/-- 0 is_whole: 0=value -/
def b_is_whole : List MS :=
  [(.ret (.and [(.isi (.var 0) [.int]), (.not (.isi (.var 0) [.bool]))]))]
/-- 1 is_row: 0=value -/
def b_is_row : List MS :=
  [(.ret (.isi (.var 0) [.list, .tuple]))]
/-- 2 reduced: 0=top 1=bottom 2=one 3=other -/
def b_reduced : List MS :=
  [(.par [(.v 2), (.v 3)] [(.bi .abs [(.var 0)]), (.var 1)]),
  (.whl (.cmp .gt (.var 3) (.int 0))
   [(.par [(.v 2), (.v 3)] [(.var 3), (.bin .mod (.var 2) (.var 3))])]),
  (.ret (.ife (.cmp .gt (.var 2) (.int 0)) (.tup [(.bin .fdiv (.var 0) (.var 2)), (.bin .fdiv (.var 1) (.var 2))]) (.tup [(.int 0), (.int 1)])))]
/-- 3 is_fraction: 0=value -/
def b_is_fraction : List MS :=
  [(.ite (.or [(.not (.call 1 [(.var 0)])), (.cmp .ne (.bi .len [(.var 0)]) (.int 2)), (.not (.call 0 [(.sub (.var 0) (.int 0))])), (.not (.call 0 [(.sub (.var 0) (.int 1))])), (.cmp .lt (.sub (.var 0) (.int 1)) (.int 1))])
   [(.ret (.bl false))]
   []),
  (.ret (.cmp .eq (.call 2 [(.sub (.var 0) (.int 0)), (.sub (.var 0) (.int 1))]) (.tup [(.sub (.var 0) (.int 0)), (.sub (.var 0) (.int 1))])))]
/-- 4 want_fraction: 0=value -/
def b_want_fraction : List MS :=
  [(.ite (.not (.call 3 [(.var 0)]))
   [(.rais 1 [(.var 0)])]
   []),
  (.ret (.bi .tuple [(.var 0)]))]
/-- 5 plus: 0=one 1=other -/
def b_plus : List MS :=
  [(.ret (.call 2 [(.bin .add (.bin .mul (.sub (.var 0) (.int 0)) (.sub (.var 1) (.int 1))) (.bin .mul (.sub (.var 1) (.int 0)) (.sub (.var 0) (.int 1)))), (.bin .mul (.sub (.var 0) (.int 1)) (.sub (.var 1) (.int 1)))]))]
/-- 6 minus: 0=one 1=other -/
def b_minus : List MS :=
  [(.ret (.call 2 [(.bin .sub (.bin .mul (.sub (.var 0) (.int 0)) (.sub (.var 1) (.int 1))) (.bin .mul (.sub (.var 1) (.int 0)) (.sub (.var 0) (.int 1)))), (.bin .mul (.sub (.var 0) (.int 1)) (.sub (.var 1) (.int 1)))]))]
/-- 7 times: 0=one 1=other -/
def b_times : List MS :=
  [(.ret (.call 2 [(.bin .mul (.sub (.var 0) (.int 0)) (.sub (.var 1) (.int 0))), (.bin .mul (.sub (.var 0) (.int 1)) (.sub (.var 1) (.int 1)))]))]
/-- 8 over: 0=one 1=other -/
def b_over : List MS :=
  [(.ret (.call 2 [(.bin .mul (.sub (.var 0) (.int 0)) (.sub (.var 1) (.int 1))), (.bin .mul (.sub (.var 0) (.int 1)) (.sub (.var 1) (.int 0)))]))]
/-- 9 is_less: 0=one 1=other -/
def b_is_less : List MS :=
  [(.ret (.cmp .lt (.bin .mul (.sub (.var 0) (.int 0)) (.sub (.var 1) (.int 1))) (.bin .mul (.sub (.var 1) (.int 0)) (.sub (.var 0) (.int 1)))))]
/-- 10 floor_of: 0=one -/
def b_floor_of : List MS :=
  [(.ret (.bin .fdiv (.sub (.var 0) (.int 0)) (.sub (.var 0) (.int 1))))]
/-- 11 ceiling_of: 0=one -/
def b_ceiling_of : List MS :=
  [(.ret (.neg (.bin .fdiv (.neg (.sub (.var 0) (.int 0))) (.sub (.var 0) (.int 1)))))]
/-- 12 nearest: 0=one -/
def b_nearest : List MS :=
  [(.ret (.bin .fdiv (.bin .add (.bin .mul (.int 2) (.sub (.var 0) (.int 0))) (.sub (.var 0) (.int 1))) (.bin .mul (.int 2) (.sub (.var 0) (.int 1)))))]
/-- 13 total: 0=rows 1=found 2=one -/
def b_total : List MS :=
  [(.asg (.v 1) (.tup [(.int 0), (.int 1)])),
  (.fr (.v 2) (.ex (.var 0))
   [(.asg (.v 1) (.call 5 [(.var 1), (.var 2)]))]),
  (.ret (.var 1))]
/-- 14 median: 0=rows 1=row 2=one 3=place 4=first 5=second 6=other -/
def b_median : List MS :=
  [(.asg (.v 1) (.lst [(.sub (.var 0) (.int 0))])),
  (.fr (.v 2) (.ex (.slL (.var 0) (.int 1)))
   [(.asg (.v 3) (.bi .len [(.lcf (.var 6) (.v 6) (.ex (.var 1)) (.not (.call 9 [(.var 2), (.var 6)])))])),
    (.ins (.var 1) (.var 3) (.var 2))]),
  (.par [(.v 4), (.v 5)] [(.sub (.var 1) (.bin .fdiv (.bin .sub (.bi .len [(.var 1)]) (.int 1)) (.int 2))), (.sub (.var 1) (.bin .fdiv (.bi .len [(.var 1)]) (.int 2)))]),
  (.ret (.call 7 [(.call 5 [(.var 4), (.var 5)]), (.tup [(.int 1), (.int 2)])]))]
/-- 15 _law_taken: 0=row 1=many 2=cell 3=found -/
def b__law_taken : List MS :=
  [(.ite (.cmp .gt (.sub (.var 0) (.int 3)) (.int 0))
   [(.asg (.v 3) (.bin .mod (.bi .int [(.sub (.var 0) (.int 3))]) (.var 1))),
    (.asg (.sub (.var 0) (.int 3)) (.bin .fdiv (.sub (.var 0) (.int 3)) (.var 1))),
    (.ret (.var 3))]
   []),
  (.asg (.sub (.var 0) (.int 1)) (.bin .add (.sub (.var 0) (.int 1)) (.int 1))),
  (.ite (.cmp .gt (.sub (.var 0) (.int 1)) (.bi .len [(.sub (.var 0) (.int 0))]))
   [(.asg (.sub (.var 0) (.int 2)) (.bin .mod (.bi .int [(.bin .add (.bin .mul (.sub (.var 0) (.int 2)) (.int 48271)) (.int 11))]) (.int 2147483647))),
    (.ret (.bin .mod (.bi .int [(.bin .fdiv (.sub (.var 0) (.int 2)) (.int 7))]) (.var 1)))]
   []),
  (.asg (.v 2) (.sub (.sub (.var 0) (.int 0)) (.bin .sub (.sub (.var 0) (.int 1)) (.int 1)))),
  (.asg (.sub (.var 0) (.int 2)) (.bin .mod (.bi .int [(.bin .add (.bin .add (.bin .mul (.sub (.var 0) (.int 2)) (.int 48271)) (.var 2)) (.int 11))]) (.int 2147483647))),
  (.ite (.cmp .ge (.var 2) (.bin .pow (.int 10) (.int 18)))
   [(.asg (.sub (.var 0) (.int 3)) (.bin .fdiv (.var 2) (.var 1)))]
   []),
  (.ret (.bin .mod (.bi .int [(.var 2)]) (.var 1)))]
/-- 16 _law_alike: 0=found 1=due 2=k -/
def b__law_alike : List MS :=
  [(.ite (.isi (.var 1) [.tuple, .list])
   [(.ite (.or [(.not (.isi (.var 0) [.tuple, .list])), (.cmp .ne (.isi (.var 0) [.list]) (.isi (.var 1) [.list]))])
     [(.ret (.bl false))]
     []),
    (.ite (.cmp .ne (.bi .len [(.var 0)]) (.bi .len [(.var 1)]))
     [(.ret (.bl false))]
     []),
    (.ret (.cmp .eq (.lcf (.var 2) (.v 2) (.rg1 (.bi .len [(.var 1)])) (.not (.call 16 [(.sub (.var 0) (.var 2)), (.sub (.var 1) (.var 2))]))) (.lst [])))]
   []),
  (.ite (.or [(.isN (.var 1)), (.isi (.var 1) [.str])])
   [(.ret (.and [(.cmp .eq (.var 0) (.var 1)), (.cmp .eq (.isi (.var 0) [.str]) (.isi (.var 1) [.str]))]))]
   []),
  (.ret (.and [(.isi (.var 0) [.int]), (.cmp .eq (.isi (.var 0) [.bool]) (.isi (.var 1) [.bool])), (.cmp .eq (.var 0) (.var 1))]))]
/-- 17 _law_truth: 0=found 1=due -/
def b__law_truth : List MS :=
  [(.ret (.and [(.isi (.var 0) [.bool]), (.cmp .eq (.var 0) (.var 1))]))]
/-- 18 _law_low: 0=top 1=bottom 2=here 3=one -/
def b__law_low : List MS :=
  [(.asg (.v 2) (.int 1)),
  (.fr (.v 3) (.rg2 (.int 1) (.bin .add (.bi .int [(.var 1)]) (.int 1)))
   [(.ite (.and [(.cmp .eq (.bin .mod (.bi .int [(.var 0)]) (.var 3)) (.int 0)), (.cmp .eq (.bin .mod (.bi .int [(.var 1)]) (.var 3)) (.int 0))])
     [(.asg (.v 2) (.var 3))]
     [])]),
  (.ret (.tup [(.bin .fdiv (.bi .int [(.var 0)]) (.var 2)), (.bin .fdiv (.bi .int [(.var 1)]) (.var 2))]))]
/-- 19 law: 0=script 1=row 2=wholes 3=best 4=part 5=middle 6=below 7=above 8=value 9=a 10=b 11=c 12=d 13=one 14=other 15=rows 16=whole 17=e 18=k -/
def b_law : List MS :=
  [(.asg (.v 1) (.cell (.lst [(.var 0), (.int 0), (.int 61), (.int 0)]))),
  (.par [(.v 9), (.v 10), (.v 11), (.v 12)] [(.bin .sub (.call 15 [(.var 1), (.int 121)]) (.int 60)), (.bin .add (.int 1) (.call 15 [(.var 1), (.int 60)])), (.bin .sub (.call 15 [(.var 1), (.int 121)]) (.int 60)), (.bin .add (.int 1) (.call 15 [(.var 1), (.int 60)]))]),
  (.par [(.v 13), (.v 14)] [(.call 2 [(.var 9), (.var 10)]), (.call 2 [(.var 11), (.var 12)])]),
  (.ite (.or [(.not (.call 16 [(.tup [(.var 13), (.var 14)]), (.tup [(.call 18 [(.var 9), (.var 10)]), (.call 18 [(.var 11), (.var 12)])])])), (.not (.call 3 [(.var 13)])), (.call 3 [(.tup [(.bin .mul (.var 9) (.int 2)), (.bin .mul (.var 10) (.int 2))])])])
   [(.ret (.bl false))]
   []),
  (.ite (.not (.call 16 [(.tup [(.call 5 [(.var 13), (.var 14)]), (.call 6 [(.var 13), (.var 14)]), (.call 7 [(.var 13), (.var 14)])]), (.tup [(.call 18 [(.bin .add (.bin .mul (.var 9) (.var 12)) (.bin .mul (.var 11) (.var 10))), (.bin .mul (.var 10) (.var 12))]), (.call 18 [(.bin .sub (.bin .mul (.var 9) (.var 12)) (.bin .mul (.var 11) (.var 10))), (.bin .mul (.var 10) (.var 12))]), (.call 18 [(.bin .mul (.var 9) (.var 11)), (.bin .mul (.var 10) (.var 12))])])]))
   [(.ret (.bl false))]
   []),
  (.ite (.or [(.and [(.cmp .gt (.var 11) (.int 0)), (.not (.call 16 [(.call 8 [(.var 13), (.var 14)]), (.call 18 [(.bin .mul (.var 9) (.var 12)), (.bin .mul (.var 10) (.var 11))])]))]), (.not (.call 17 [(.call 9 [(.var 13), (.var 14)]), (.cmp .lt (.bin .mul (.var 9) (.var 12)) (.bin .mul (.var 11) (.var 10)))]))])
   [(.ret (.bl false))]
   []),
  (.asg (.v 2) (.lsI (.rg2 (.neg (.int 61)) (.int 62)))),
  (.par [(.v 6), (.v 7)] [(.bi .maxL [(.lcf (.var 18) (.v 18) (.ex (.var 2)) (.cmp .le (.bin .mul (.var 18) (.var 10)) (.var 9)))]), (.bi .minL [(.lcf (.var 18) (.v 18) (.ex (.var 2)) (.cmp .ge (.bin .mul (.var 18) (.var 10)) (.var 9)))])]),
  (.asg (.v 3) (.bi .maxL [(.lcf (.var 18) (.v 18) (.ex (.var 2)) (.cmp .le (.bin .mul (.bin .sub (.bin .mul (.int 2) (.var 18)) (.int 1)) (.var 10)) (.bin .mul (.int 2) (.var 9))))])),
  (.ite (.not (.call 16 [(.tup [(.call 10 [(.var 13)]), (.call 11 [(.var 13)]), (.call 12 [(.var 13)])]), (.tup [(.var 6), (.var 7), (.var 3)])]))
   [(.ret (.bl false))]
   []),
  (.par [(.v 15), (.v 16)] [(.bin .add (.lst [(.var 13), (.var 14)]) (.lc (.call 2 [(.bin .sub (.call 15 [(.var 1), (.int 40)]) (.int 20)), (.bin .add (.int 1) (.call 15 [(.var 1), (.int 6)]))]) (.v 18) (.rg1 (.call 15 [(.var 1), (.int 5)])))), (.tup [(.int 0), (.int 1)])]),
  (.frz 15),
  (.fr (.v 4) (.ex (.var 15))
   [(.asg (.v 16) (.call 18 [(.bin .add (.bin .mul (.sub (.var 16) (.int 0)) (.sub (.var 4) (.int 1))) (.bin .mul (.sub (.var 4) (.int 0)) (.sub (.var 16) (.int 1)))), (.bin .mul (.sub (.var 16) (.int 1)) (.sub (.var 4) (.int 1)))]))]),
  (.frz 15),
  (.ite (.not (.call 16 [(.call 13 [(.var 15)]), (.var 16)]))
   [(.ret (.bl false))]
   []),
  (.frz 15),
  (.asg (.v 5) (.call 14 [(.var 15)])),
  (.asg (.v 6) (.bi .len [(.lcf (.int 1) (.v 4) (.ex (.var 15)) (.cmp .lt (.bin .mul (.sub (.var 4) (.int 0)) (.sub (.var 5) (.int 1))) (.bin .mul (.sub (.var 5) (.int 0)) (.sub (.var 4) (.int 1)))))])),
  (.asg (.v 7) (.bi .len [(.lcf (.int 1) (.v 4) (.ex (.var 15)) (.cmp .gt (.bin .mul (.sub (.var 4) (.int 0)) (.sub (.var 5) (.int 1))) (.bin .mul (.sub (.var 5) (.int 0)) (.sub (.var 4) (.int 1)))))])),
  (.ite (.or [(.cmp .gt (.bin .mul (.int 2) (.var 6)) (.bi .len [(.var 15)])), (.cmp .gt (.bin .mul (.int 2) (.var 7)) (.bi .len [(.var 15)])), (.and [(.cmp .eq (.bin .mod (.bi .len [(.var 15)]) (.int 2)) (.int 1)), (.cmp .notin (.var 5) (.var 15))])])
   [(.ret (.bl false))]
   []),
  (.fr (.v 8) (.ex (.lst [.non, (.tup [(.int 1), (.int 0)]), (.tup [(.int 2), (.int 4)]), (.tup [(.int 0), (.int 2)]), (.tup [(.int 1)]), (.tup [(.bl true), (.int 2)]), (.lst [(.int 1), (.int 2), (.int 3)]), (.int 5), (.tup [(.int 1), (.neg (.int 1))])]))
   [(.ite (.call 3 [(.var 8)])
     [(.ret (.bl false))]
     []),
    (.tr [(.expr (.call 4 [(.var 8)])),
      (.ret (.bl false))]
     [(1, some 17, [(.ite (.neR (.fld (.var 17) 0) (.var 8))
       [(.ret (.bl false))]
       [])])])]),
  (.ret (.call 16 [(.call 4 [(.lsI (.ex (.var 13)))]), (.var 13)]))]
def fns : List FnD := [
  { np := 1, nv := 1, df := [], tmp := false, body := b_is_whole },
  { np := 1, nv := 1, df := [], tmp := false, body := b_is_row },
  { np := 2, nv := 4, df := [], tmp := false, body := b_reduced },
  { np := 1, nv := 1, df := [], tmp := false, body := b_is_fraction },
  { np := 1, nv := 1, df := [], tmp := false, body := b_want_fraction },
  { np := 2, nv := 2, df := [], tmp := false, body := b_plus },
  { np := 2, nv := 2, df := [], tmp := false, body := b_minus },
  { np := 2, nv := 2, df := [], tmp := false, body := b_times },
  { np := 2, nv := 2, df := [], tmp := false, body := b_over },
  { np := 2, nv := 2, df := [], tmp := false, body := b_is_less },
  { np := 1, nv := 1, df := [], tmp := false, body := b_floor_of },
  { np := 1, nv := 1, df := [], tmp := false, body := b_ceiling_of },
  { np := 1, nv := 1, df := [], tmp := false, body := b_nearest },
  { np := 1, nv := 3, df := [], tmp := false, body := b_total },
  { np := 1, nv := 7, df := [], tmp := false, body := b_median },
  { np := 2, nv := 4, df := [], tmp := false, body := b__law_taken },
  { np := 2, nv := 3, df := [], tmp := false, body := b__law_alike },
  { np := 2, nv := 2, df := [], tmp := false, body := b__law_truth },
  { np := 2, nv := 4, df := [], tmp := false, body := b__law_low },
  { np := 1, nv := 19, df := [], tmp := false, body := b_law }]
def clss : List Cls := [
  { ini := none, mth := [], eqm := none, lenm := none, sup := [0], flds := [] },
  { ini := none, mth := [], eqm := none, lenm := none, sup := [1, 0], flds := [0] }]
def cons : List D := [
  ]
def prog : Prog := ⟨fns, clss, cons⟩
/- names: 0=value -/
def lawId : Nat := 19
end Pk10

end
section
set_option Elab.async false
set_option maxRecDepth 100000
namespace Pk10
open PySem Mp
def top (i : Nat) : Stmt := PySem.Challenge.pw_wheelrace_k10_whole_fractions.main.body.getD i (.Pass ⟨0, 0, 0, 0⟩)
def nms : NmT := { fns := ["is_whole", "is_row", "reduced", "is_fraction", "want_fraction", "plus", "minus", "times", "over", "is_less", "floor_of", "ceiling_of", "nearest", "total", "median", "_law_taken", "_law_alike", "_law_truth", "_law_low", "law"], cls := ["RaceError", "BadNumber"], flds := ["value"], mths := [], con := [], ar := [99999, 1] }
abbrev s_is_whole : Stmt := top 4
def N_is_whole : List Str := ["value"]
theorem ck_is_whole : mtB ⟨N_is_whole, L2.defScope s_is_whole, nms, true, true⟩ b_is_whole (L2.defBody s_is_whole) = true := by decide +kernel
theorem sc_is_whole : L2.FnScope N_is_whole ["value"] (L2.defScope s_is_whole) := ⟨rfl, rfl, rfl, by decide +kernel, rfl, by decide +kernel, by decide +kernel⟩
abbrev s_is_row : Stmt := top 5
def N_is_row : List Str := ["value"]
theorem ck_is_row : mtB ⟨N_is_row, L2.defScope s_is_row, nms, true, true⟩ b_is_row (L2.defBody s_is_row) = true := by decide +kernel
theorem sc_is_row : L2.FnScope N_is_row ["value"] (L2.defScope s_is_row) := ⟨rfl, rfl, rfl, by decide +kernel, rfl, by decide +kernel, by decide +kernel⟩
abbrev s_reduced : Stmt := top 7
def N_reduced : List Str := ["top", "bottom", "one", "other"]
theorem ck_reduced : mtB ⟨N_reduced, L2.defScope s_reduced, nms, true, true⟩ b_reduced (L2.defBody s_reduced) = true := by decide +kernel
theorem sc_reduced : L2.FnScope N_reduced ["top", "bottom"] (L2.defScope s_reduced) := ⟨rfl, rfl, rfl, by decide +kernel, rfl, by decide +kernel, by decide +kernel⟩
abbrev s_is_fraction : Stmt := top 8
def N_is_fraction : List Str := ["value"]
theorem ck_is_fraction : mtB ⟨N_is_fraction, L2.defScope s_is_fraction, nms, true, true⟩ b_is_fraction (L2.defBody s_is_fraction) = true := by decide +kernel
theorem sc_is_fraction : L2.FnScope N_is_fraction ["value"] (L2.defScope s_is_fraction) := ⟨rfl, rfl, rfl, by decide +kernel, rfl, by decide +kernel, by decide +kernel⟩
abbrev s_want_fraction : Stmt := top 9
def N_want_fraction : List Str := ["value"]
theorem ck_want_fraction : mtB ⟨N_want_fraction, L2.defScope s_want_fraction, nms, true, true⟩ b_want_fraction (L2.defBody s_want_fraction) = true := by decide +kernel
theorem sc_want_fraction : L2.FnScope N_want_fraction ["value"] (L2.defScope s_want_fraction) := ⟨rfl, rfl, rfl, by decide +kernel, rfl, by decide +kernel, by decide +kernel⟩
abbrev s_plus : Stmt := top 10
def N_plus : List Str := ["one", "other"]
theorem ck_plus : mtB ⟨N_plus, L2.defScope s_plus, nms, true, true⟩ b_plus (L2.defBody s_plus) = true := by decide +kernel
theorem sc_plus : L2.FnScope N_plus ["one", "other"] (L2.defScope s_plus) := ⟨rfl, rfl, rfl, by decide +kernel, rfl, by decide +kernel, by decide +kernel⟩
abbrev s_minus : Stmt := top 11
def N_minus : List Str := ["one", "other"]
theorem ck_minus : mtB ⟨N_minus, L2.defScope s_minus, nms, true, true⟩ b_minus (L2.defBody s_minus) = true := by decide +kernel
theorem sc_minus : L2.FnScope N_minus ["one", "other"] (L2.defScope s_minus) := ⟨rfl, rfl, rfl, by decide +kernel, rfl, by decide +kernel, by decide +kernel⟩
abbrev s_times : Stmt := top 12
def N_times : List Str := ["one", "other"]
theorem ck_times : mtB ⟨N_times, L2.defScope s_times, nms, true, true⟩ b_times (L2.defBody s_times) = true := by decide +kernel
theorem sc_times : L2.FnScope N_times ["one", "other"] (L2.defScope s_times) := ⟨rfl, rfl, rfl, by decide +kernel, rfl, by decide +kernel, by decide +kernel⟩
abbrev s_over : Stmt := top 13
def N_over : List Str := ["one", "other"]
theorem ck_over : mtB ⟨N_over, L2.defScope s_over, nms, true, true⟩ b_over (L2.defBody s_over) = true := by decide +kernel
theorem sc_over : L2.FnScope N_over ["one", "other"] (L2.defScope s_over) := ⟨rfl, rfl, rfl, by decide +kernel, rfl, by decide +kernel, by decide +kernel⟩
abbrev s_is_less : Stmt := top 14
def N_is_less : List Str := ["one", "other"]
theorem ck_is_less : mtB ⟨N_is_less, L2.defScope s_is_less, nms, true, true⟩ b_is_less (L2.defBody s_is_less) = true := by decide +kernel
theorem sc_is_less : L2.FnScope N_is_less ["one", "other"] (L2.defScope s_is_less) := ⟨rfl, rfl, rfl, by decide +kernel, rfl, by decide +kernel, by decide +kernel⟩
abbrev s_floor_of : Stmt := top 15
def N_floor_of : List Str := ["one"]
theorem ck_floor_of : mtB ⟨N_floor_of, L2.defScope s_floor_of, nms, true, true⟩ b_floor_of (L2.defBody s_floor_of) = true := by decide +kernel
theorem sc_floor_of : L2.FnScope N_floor_of ["one"] (L2.defScope s_floor_of) := ⟨rfl, rfl, rfl, by decide +kernel, rfl, by decide +kernel, by decide +kernel⟩
abbrev s_ceiling_of : Stmt := top 16
def N_ceiling_of : List Str := ["one"]
theorem ck_ceiling_of : mtB ⟨N_ceiling_of, L2.defScope s_ceiling_of, nms, true, true⟩ b_ceiling_of (L2.defBody s_ceiling_of) = true := by decide +kernel
theorem sc_ceiling_of : L2.FnScope N_ceiling_of ["one"] (L2.defScope s_ceiling_of) := ⟨rfl, rfl, rfl, by decide +kernel, rfl, by decide +kernel, by decide +kernel⟩
abbrev s_nearest : Stmt := top 17
def N_nearest : List Str := ["one"]
theorem ck_nearest : mtB ⟨N_nearest, L2.defScope s_nearest, nms, true, true⟩ b_nearest (L2.defBody s_nearest) = true := by decide +kernel
theorem sc_nearest : L2.FnScope N_nearest ["one"] (L2.defScope s_nearest) := ⟨rfl, rfl, rfl, by decide +kernel, rfl, by decide +kernel, by decide +kernel⟩
abbrev s_total : Stmt := top 18
def N_total : List Str := ["rows", "found", "one"]
theorem ck_total : mtB ⟨N_total, L2.defScope s_total, nms, true, true⟩ b_total (L2.defBody s_total) = true := by decide +kernel
theorem sc_total : L2.FnScope N_total ["rows"] (L2.defScope s_total) := ⟨rfl, rfl, rfl, by decide +kernel, rfl, by decide +kernel, by decide +kernel⟩
abbrev s_median : Stmt := top 19
def N_median : List Str := ["rows", "row", "one", "place", "first", "second", "other"]
theorem ck_median : mtB ⟨N_median, L2.defScope s_median, nms, true, true⟩ b_median (L2.defBody s_median) = true := by decide +kernel
theorem sc_median : L2.FnScope N_median ["rows"] (L2.defScope s_median) := ⟨rfl, rfl, rfl, by decide +kernel, rfl, by decide +kernel, by decide +kernel⟩
abbrev s__law_taken : Stmt := top 21
def N__law_taken : List Str := ["row", "many", "cell", "found"]
theorem ck__law_taken : mtB ⟨N__law_taken, L2.defScope s__law_taken, nms, true, true⟩ b__law_taken (L2.defBody s__law_taken) = true := by decide +kernel
theorem sc__law_taken : L2.FnScope N__law_taken ["row", "many"] (L2.defScope s__law_taken) := ⟨rfl, rfl, rfl, by decide +kernel, rfl, by decide +kernel, by decide +kernel⟩
abbrev s__law_alike : Stmt := top 22
def N__law_alike : List Str := ["found", "due", "k"]
theorem ck__law_alike : mtB ⟨N__law_alike, L2.defScope s__law_alike, nms, true, true⟩ b__law_alike (L2.defBody s__law_alike) = true := by decide +kernel
theorem sc__law_alike : L2.FnScope N__law_alike ["found", "due"] (L2.defScope s__law_alike) := ⟨rfl, rfl, rfl, by decide +kernel, rfl, by decide +kernel, by decide +kernel⟩
abbrev s__law_truth : Stmt := top 23
def N__law_truth : List Str := ["found", "due"]
theorem ck__law_truth : mtB ⟨N__law_truth, L2.defScope s__law_truth, nms, true, true⟩ b__law_truth (L2.defBody s__law_truth) = true := by decide +kernel
theorem sc__law_truth : L2.FnScope N__law_truth ["found", "due"] (L2.defScope s__law_truth) := ⟨rfl, rfl, rfl, by decide +kernel, rfl, by decide +kernel, by decide +kernel⟩
abbrev s__law_low : Stmt := top 24
def N__law_low : List Str := ["top", "bottom", "here", "one"]
theorem ck__law_low : mtB ⟨N__law_low, L2.defScope s__law_low, nms, true, true⟩ b__law_low (L2.defBody s__law_low) = true := by decide +kernel
theorem sc__law_low : L2.FnScope N__law_low ["top", "bottom"] (L2.defScope s__law_low) := ⟨rfl, rfl, rfl, by decide +kernel, rfl, by decide +kernel, by decide +kernel⟩
abbrev s_law : Stmt := top 25
def N_law : List Str := ["script", "row", "wholes", "best", "part", "middle", "below", "above", "value", "a", "b", "c", "d", "one", "other", "rows", "whole", "e", "k"]
theorem ck_law : mtB ⟨N_law, L2.defScope s_law, nms, true, true⟩ b_law (L2.defBody s_law) = true := by decide +kernel
theorem sc_law : L2.FnScope N_law ["script"] (L2.defScope s_law) := ⟨rfl, rfl, rfl, by decide +kernel, rfl, by decide +kernel, by decide +kernel⟩
abbrev t_1 : Stmt := L2.inClass (top 2) 0
end Pk10

end
section
set_option Elab.async false
set_option maxRecDepth 100000
set_option linter.all false
set_option backward.isDefEq.respectTransparency.types false
set_option maxRecDepth 100000
set_option exponentiation.threshold 5000
namespace Mp
/-! V0: lemmas of the evaluator, for plain proofs. -/
theorem bind_ok {α β : Type} (a : α) (st : Sto) (f : α → Sto → ER β) : ER.bind (.ok a st) f = f a st := by rfl
theorem bind_ex {α β : Type} (x : Exc) (st : Sto) (f : α → Sto → ER β) : ER.bind (.ex x st) f = .ex x st := by rfl
theorem sr_ok {α : Type} (a : α) (st : Sto) (E : Env) (f : α → Sto → SR) : ER.sr (.ok a st) E f = f a st := by rfl
theorem sr_ex {α : Type} (x : Exc) (st : Sto) (E : Env) (f : α → Sto → SR) : ER.sr (.ex x st) E f = .ex x E st := by rfl
theorem opt_some {α : Type} (a : α) (st : Sto) : ER.opt (some a) st = .ok a st := by rfl
theorem seq_nx (E : Env) (st : Sto) (k : Env → Sto → SR) : SR.seq (.nx E st) k = k E st := by rfl
theorem seq_rt (v : Val) (st : Sto) (k : Env → Sto → SR) : SR.seq (.rt v st) k = .rt v st := by rfl
theorem seq_ex (x : Exc) (E : Env) (st : Sto) (k : Env → Sto → SR) : SR.seq (.ex x E st) k = .ex x E st := by rfl
theorem seq_bk (E : Env) (st : Sto) (k : Env → Sto → SR) : SR.seq (.bk E st) k = .bk E st := by rfl
theorem seq_ct (E : Env) (st : Sto) (k : Env → Sto → SR) : SR.seq (.ct E st) k = .ct E st := by rfl
theorem lp_nx (E : Env) (st : Sto) (k : Env → Sto → SR) : SR.lp (.nx E st) k = k E st := by rfl
theorem lp_ct (E : Env) (st : Sto) (k : Env → Sto → SR) : SR.lp (.ct E st) k = k E st := by rfl
theorem lp_bk (E : Env) (st : Sto) (k : Env → Sto → SR) : SR.lp (.bk E st) k = .nx E st := by rfl
theorem lp_rt (v : Val) (st : Sto) (k : Env → Sto → SR) : SR.lp (.rt v st) k = .rt v st := by rfl
theorem lp_ex (x : Exc) (E : Env) (st : Sto) (k : Env → Sto → SR) : SR.lp (.ex x E st) k = .ex x E st := by rfl
theorem try_nx (E : Env) (st : Sto) (k : Exc → Env → Sto → SR) : SR.try (.nx E st) k = .nx E st := by rfl
theorem try_rt (v : Val) (st : Sto) (k : Exc → Env → Sto → SR) : SR.try (.rt v st) k = .rt v st := by rfl
theorem try_ex (x : Exc) (E : Env) (st : Sto) (k : Exc → Env → Sto → SR) : SR.try (.ex x E st) k = k x E st := by rfl
theorem nox_ok {α : Type} (a : α) (st : Sto) : ER.nox (.ok a st) = .ok a st := by rfl
theorem snox_nx (E : Env) (st : Sto) : SR.nox (.nx E st) = .nx E st := by rfl
theorem snox_rt (v : Val) (st : Sto) : SR.nox (.rt v st) = .rt v st := by rfl
theorem snox_ct (E : Env) (st : Sto) : SR.nox (.ct E st) = .ct E st := by rfl
theorem snox_bk (E : Env) (st : Sto) : SR.nox (.bk E st) = .bk E st := by rfl
theorem del_nx (i : Nat) (E : Env) (st : Sto) : SR.del (.nx E st) i = .nx (E.set i none) st := by rfl
theorem del_rt (i : Nat) (v : Val) (st : Sto) : SR.del (.rt v st) i = .rt v st := by rfl
theorem rer_nx (x : Exc) (E : Env) (st : Sto) : SR.rer (.nx E st) x = .ex x E st := by rfl
theorem ifV_bl {α : Type} (b : Bool) (x y z : α) : ifV (.dat (.bl b)) x y z = if b = true then x else y := by rfl
theorem vd_dat (d : D) : Val.d (.dat d) = d := by rfl
theorem vd_new (d : D) : Val.d (.new d) = d := by rfl
theorem vd_bor (d : D) : Val.d (.bor d) = d := by rfl
theorem kp_dat (d : D) : Val.kp (.dat d) = some d := by rfl
theorem kp_lst (l : List D) : Val.kp (.new (.lst l)) = some (.lst l) := by rfl
theorem kp_dct (l : List (D × D)) : Val.kp (.new (.dct l)) = some (.dct l) := by rfl
theorem kp_obj (c : Nat) (l : List (Nat × D)) : Val.kp (.new (.obj c l)) = some (.obj c l) := by rfl
theorem out_dat (d : D) : Val.out (.dat d) = .dat d := by rfl
theorem out_new (d : D) : Val.out (.new d) = .new d := by rfl
theorem out_bor (d : D) : Val.out (.bor d) = .new d := by rfl
theorem it_dat (k : Bool) (d : D) : Val.it k (.dat d) = some d := by cases k <;> rfl
theorem it_bor (d : D) : Val.it false (.bor d) = some d := by rfl
theorem it_newF (d : D) : Val.it false (.new d) = some d := by rfl
theorem it_newT (d : List D) : Val.it true (.new (.lst d)) = some (.lst d) := by rfl
theorem kpL_nil : kpL [] = some [] := by rfl
def kpC (a : Option D) (b : Option (List D)) : Option (List D) := match a, b with | some d, some ds => some (d :: ds) | _, _ => none
theorem kpC_some (d : D) (ds : List D) : kpC (some d) (some ds) = some (d :: ds) := by rfl
theorem kpL_cons (v : Val) (r : List Val) : kpL (v :: r) = kpC v.kp (kpL r) := by rfl
theorem drf_int (st : Sto) (i : Int) : drf st (.int i) = some (.int i) := by rfl
theorem drf_bl (st : Sto) (i : Bool) : drf st (.bl i) = some (.bl i) := by rfl
theorem drf_non (st : Sto) : drf st .non = some .non := by rfl
theorem drf_str (st : Sto) (i : List Nat) : drf st (.str i) = some (.str i) := by rfl
theorem drf_tup (st : Sto) (i : List D) : drf st (.tup i) = some (.tup i) := by rfl
theorem drf_lst (st : Sto) (i : List D) : drf st (.lst i) = some (.lst i) := by rfl
theorem drf_dct (st : Sto) (i : List (D × D)) : drf st (.dct i) = some (.dct i) := by rfl
theorem drf_obj (st : Sto) (c : Nat) (i : List (Nat × D)) : drf st (.obj c i) = some (.obj c i) := by rfl
theorem drf_scr (st : Sto) (i : List Int) : drf st (.scr i) = some (.scr i) := by rfl
theorem drf_ref (st : Sto) (n : Nat) : drf st (.ref n) = st[n]? := by rfl
theorem biV_cons (st : Sto) (v : Val) (r : List Val) : biV st (v :: r) = kpC (drf st v.d) (kpL r) := by rfl
theorem notV_bl (b : Bool) (st : Sto) : notV (.dat (.bl b)) st = .ok (.dat (.bl (!b))) st := by rfl
/-- small: of so many bits -/
class Bd (x : Int) (k : outParam Nat) : Prop where p : x.natAbs < 2 ^ k
theorem big_of {x : Int} {k : Nat} [h : Bd x k] (hk : k ≤ 4000) : big x = true := by
  unfold big
  exact decide_eq_true (Nat.lt_of_lt_of_le h.p (Nat.pow_le_pow_right (by decide) hk))
instance Bd.mul {x y : Int} {k j : Nat} [a : Bd x k] [b : Bd y j] : Bd (x * y) (k + j) := ⟨by
  rw [Int.natAbs_mul, Nat.pow_add]; exact Nat.mul_lt_mul_of_lt_of_le a.p (Nat.le_of_lt b.p) (Nat.pos_of_ne_zero (by simp [Nat.pow_eq_zero]))⟩
theorem pow_lt_s (k : Nat) : 2 ^ k < 2 ^ (k + 1) := Nat.pow_lt_pow_right (by decide) (Nat.lt_succ_self k)
theorem pow_le_a (k j : Nat) : 2 ^ k + 2 ^ j ≤ 2 ^ (k + j + 1) := by
  have h1 : 2 ^ k ≤ 2 ^ (k + j) := Nat.pow_le_pow_right (by decide) (Nat.le_add_right k j)
  have h2 : 2 ^ j ≤ 2 ^ (k + j) := Nat.pow_le_pow_right (by decide) (Nat.le_add_left j k)
  rw [Nat.pow_succ]; omega
instance Bd.add {x y : Int} {k j : Nat} [a : Bd x k] [b : Bd y j] : Bd (x + y) (k + j + 1) := ⟨by
  have := a.p; have := b.p; have := pow_le_a k j; have := Int.natAbs_add_le x y; omega⟩
instance Bd.sub {x y : Int} {k j : Nat} [a : Bd x k] [b : Bd y j] : Bd (x - y) (k + j + 1) := ⟨by
  have := a.p; have := b.p; have := pow_le_a k j; have := Int.natAbs_sub_le x y; omega⟩
instance Bd.neg {x : Int} {k : Nat} [a : Bd x k] : Bd (-x) k := ⟨by rw [Int.natAbs_neg]; exact a.p⟩
def bl (n : Nat) : Nat := if n < 16 then 4 else if n < 65536 then 16 else if n < 1267650600228229401496703205376 then 100 else n
instance Bd.lit {n : Nat} : Bd (no_index (@OfNat.ofNat Int n instOfNat)) (bl n) := ⟨by
  have : (@OfNat.ofNat Int n instOfNat).natAbs = n := by rfl
  rw [this]; unfold bl
  split
  · assumption
  · split
    · assumption
    · split
      · assumption
      · exact Nat.lt_two_pow_self⟩
theorem big_nat {x : Int} (h : x.natAbs < 10 ^ 30) : big x = true := by
  unfold big
  exact decide_eq_true (Nat.lt_of_lt_of_le h (by decide +kernel))
theorem big_int {x : Int} (h1 : -10 ^ 30 < x) (h2 : x < 10 ^ 30) : big x = true := big_nat (by omega)
theorem Bd.mono {x : Int} {k j : Nat} (h : Bd x k) (hk : k ≤ j) : Bd x j := ⟨Nat.lt_of_lt_of_le h.p (Nat.pow_le_pow_right (by decide) hk)⟩
theorem Bd.of {x : Int} (k : Nat) (h : x.natAbs < 2 ^ k) : Bd x k := ⟨h⟩
theorem Bd.of100 {x : Int} (h1 : -10 ^ 30 < x) (h2 : x < 10 ^ 30) : Bd x 100 := ⟨Nat.lt_of_lt_of_le (show x.natAbs < 10 ^ 30 by omega) (by decide +kernel)⟩

/-! frames -/
def vget (v : Option (Option Val)) (st : Sto) : ER Val := match v with
    | some (some (.dat d)) => .ok (.dat d) st
    | some (some (.new d)) => .ok (.bor d) st
    | some (some (.xv c fs)) => .ok (.xv c fs) st
    | _ => .bad
theorem vget_dat (d : D) (st : Sto) : vget (some (some (.dat d))) st = .ok (.dat d) st := by rfl
theorem vget_new (d : D) (st : Sto) : vget (some (some (.new d))) st = .ok (.bor d) st := by rfl
theorem vget_xv (c : Nat) (fs : List (Nat × D)) (st : Sto) : vget (some (some (.xv c fs))) st = .ok (.xv c fs) st := by rfl
theorem fE_non (o : Orc)  (E : Env) (st : Sto) : evE o .non E st = .ok (.dat .non) st := by first | (rw [evE]; done) | (rw [evE]; rfl)
theorem fE_bl (o : Orc) (b : Bool) (E : Env) (st : Sto) : evE o (.bl b) E st = .ok (.dat (.bl b)) st := by first | (rw [evE]; done) | (rw [evE]; rfl)
theorem fE_int (o : Orc) (b : Int) (E : Env) (st : Sto) : evE o (.int b) E st = .ok (.dat (.int b)) st := by first | (rw [evE]; done) | (rw [evE]; rfl)
theorem fE_str (o : Orc) (b : List Nat) (E : Env) (st : Sto) : evE o (.str b) E st = .ok (.dat (.str b)) st := by first | (rw [evE]; done) | (rw [evE]; rfl)
theorem fE_fnv (o : Orc) (f : Nat) (E : Env) (st : Sto) : evE o (.fnv f) E st = .ok (.dat (.fn f)) st := by first | (rw [evE]; done) | (rw [evE]; rfl)
theorem fE_con (o : Orc) (c : Nat) (E : Env) (st : Sto) : evE o (.con c) E st = ER.opt ((o.con c).map .dat) st := by first | (rw [evE]; done) | (rw [evE]; rfl)
theorem fE_var (o : Orc) (i : Nat) (E : Env) (st : Sto) : evE o (.var i) E st = vget E[i]? st := by first | (rw [evE]; done) | (rw [evE]; rfl)
def kBin2 (r : ER Val) (op : Op) (y : Val) : ER Val := r.bind fun x st1 => ER.opt (binF op y.d x.d) st1
theorem kBin2_ok (x : Val) (st1 : Sto) (op : Op) (y : Val) : kBin2 (.ok x st1) op y = ER.opt (binF op y.d x.d) st1 := by rfl
theorem kBin2_ex (x : Exc) (st1 : Sto) (op : Op) (y : Val) : kBin2 (.ex x st1) op y = .ex x st1 := by rfl
def kBin1 (r : ER Val) (o : Orc) (op : Op) (b : ME) (E : Env) : ER Val := r.bind fun x st1 => (evE o b E st1).bind fun y st2 => ER.opt (binF op x.d y.d) st2
theorem kBin1_ok (x : Val) (st1 : Sto) (o : Orc) (op : Op) (b : ME) (E : Env) : kBin1 (.ok x st1) o op b E = kBin2 (evE o b E st1) op x := by rfl
theorem kBin1_ex (x : Exc) (st1 : Sto) (o : Orc) (op : Op) (b : ME) (E : Env) : kBin1 (.ex x st1) o op b E = .ex x st1 := by rfl
theorem fE_bin (o : Orc) (op : Op) (a b : ME) (E : Env) (st : Sto) : evE o (.bin op a b) E st = kBin1 (evE o a E st) o op b E := by first | (rw [evE]; done) | (rw [evE]; rfl)
def kNeg (r : ER Val) : ER Val := r.bind fun x st1 => match x.d with | .int i => .ok (.dat (.int (-i))) st1 | _ => .bad
theorem kNeg_ok (i : Int) (st : Sto) : kNeg (.ok (.dat (.int i)) st) = .ok (.dat (.int (-i))) st := by rfl
theorem fE_neg (o : Orc) (a : ME) (E : Env) (st : Sto) : evE o (.neg a) E st = kNeg (evE o a E st) := by first | (rw [evE]; done) | (rw [evE]; rfl)
def cmpV (o : Orc) (op : Cp) (x y : Val) (st2 : Sto) : ER Val := match op with
    | .eq => eqC o x.d y.d st2
    | .ne => (eqC o x.d y.d st2).bind fun t st3 => notV t st3
    | _ => ER.opt ((drf st2 y.d).bind fun z => (cmpF op x.d z).map fun t => .dat (.bl t)) st2
def kNot (r : ER Val)  : ER Val := r.bind fun x st1 => notV x st1
theorem kNot_ok (x : Val) (st1 : Sto)  : kNot (.ok x st1)  = notV x st1 := by rfl
theorem kNot_ex (x : Exc) (st1 : Sto)  : kNot (.ex x st1)  = .ex x st1 := by rfl
theorem cmpV_eq (o : Orc) (x y : Val) (st : Sto) : cmpV o .eq x y st = eqC o x.d y.d st := by rfl
theorem cmpV_ne (o : Orc) (x y : Val) (st : Sto) : cmpV o .ne x y st = kNot (eqC o x.d y.d st) := by rfl
theorem cmpV_lt (o : Orc) (x y : Val) (st : Sto) : cmpV o .lt x y st = ER.opt ((drf st y.d).bind fun z => (cmpF .lt x.d z).map fun t => .dat (.bl t)) st := by rfl
theorem cmpV_le (o : Orc) (x y : Val) (st : Sto) : cmpV o .le x y st = ER.opt ((drf st y.d).bind fun z => (cmpF .le x.d z).map fun t => .dat (.bl t)) st := by rfl
theorem cmpV_gt (o : Orc) (x y : Val) (st : Sto) : cmpV o .gt x y st = ER.opt ((drf st y.d).bind fun z => (cmpF .gt x.d z).map fun t => .dat (.bl t)) st := by rfl
theorem cmpV_ge (o : Orc) (x y : Val) (st : Sto) : cmpV o .ge x y st = ER.opt ((drf st y.d).bind fun z => (cmpF .ge x.d z).map fun t => .dat (.bl t)) st := by rfl
theorem cmpV_isin (o : Orc) (x y : Val) (st : Sto) : cmpV o .isin x y st = ER.opt ((drf st y.d).bind fun z => (cmpF .isin x.d z).map fun t => .dat (.bl t)) st := by rfl
theorem cmpV_notin (o : Orc) (x y : Val) (st : Sto) : cmpV o .notin x y st = ER.opt ((drf st y.d).bind fun z => (cmpF .notin x.d z).map fun t => .dat (.bl t)) st := by rfl
def kCmp2 (r : ER Val) (o : Orc) (op : Cp) (y : Val) : ER Val := r.bind fun x st1 => cmpV o op y x st1
theorem kCmp2_ok (x : Val) (st1 : Sto) (o : Orc) (op : Cp) (y : Val) : kCmp2 (.ok x st1) o op y = cmpV o op y x st1 := by rfl
theorem kCmp2_ex (x : Exc) (st1 : Sto) (o : Orc) (op : Cp) (y : Val) : kCmp2 (.ex x st1) o op y = .ex x st1 := by rfl
def kCmp1 (r : ER Val) (o : Orc) (op : Cp) (b : ME) (E : Env) : ER Val := r.bind fun x st1 => (evE o b E st1).bind fun y st2 => cmpV o op x y st2
theorem kCmp1_ok (x : Val) (st1 : Sto) (o : Orc) (op : Cp) (b : ME) (E : Env) : kCmp1 (.ok x st1) o op b E = kCmp2 (evE o b E st1) o op x := by rfl
theorem kCmp1_ex (x : Exc) (st1 : Sto) (o : Orc) (op : Cp) (b : ME) (E : Env) : kCmp1 (.ex x st1) o op b E = .ex x st1 := by rfl
theorem fE_cmp (o : Orc) (op : Cp) (a b : ME) (E : Env) (st : Sto) : evE o (.cmp op a b) E st = kCmp1 (evE o a E st) o op b E := by rw [evE]; cases op <;> rfl
def chnB (r : Option Bool) (o : Orc) (o2 : Cp) (y : Val) (c : ME) (E : Env) (st : Sto) : ER Val := (ER.opt r st).bind fun r st3 => if r then (evE o c E st3).bind fun z st4 => ER.opt ((cmpF o2 y.d z.d).map fun t => .dat (.bl t)) st4 else .ok (.dat (.bl false)) st3
def kChn3 (r : ER Val) (o2 : Cp) (y : Val) : ER Val := r.bind fun x st1 => ER.opt ((cmpF o2 y.d x.d).map fun t => .dat (.bl t)) st1
theorem kChn3_ok (x : Val) (st1 : Sto) (o2 : Cp) (y : Val) : kChn3 (.ok x st1) o2 y = ER.opt ((cmpF o2 y.d x.d).map fun t => .dat (.bl t)) st1 := by rfl
theorem kChn3_ex (x : Exc) (st1 : Sto) (o2 : Cp) (y : Val) : kChn3 (.ex x st1) o2 y = .ex x st1 := by rfl
theorem chnB_b (r : Bool) (o : Orc) (o2 : Cp) (y : Val) (c : ME) (E : Env) (st : Sto) : chnB (some r) o o2 y c E st = if r = true then kChn3 (evE o c E st) o2 y else .ok (.dat (.bl false)) st := by rfl
def kChn2 (r : ER Val) (o : Orc) (o1 o2 : Cp) (y : Val) (c : ME) (E : Env) : ER Val := r.bind fun x st1 => chnB (cmpF o1 y.d x.d) o o2 x c E st1
theorem kChn2_ok (x : Val) (st1 : Sto) (o : Orc) (o1 o2 : Cp) (y : Val) (c : ME) (E : Env) : kChn2 (.ok x st1) o o1 o2 y c E = chnB (cmpF o1 y.d x.d) o o2 x c E st1 := by rfl
theorem kChn2_ex (x : Exc) (st1 : Sto) (o : Orc) (o1 o2 : Cp) (y : Val) (c : ME) (E : Env) : kChn2 (.ex x st1) o o1 o2 y c E = .ex x st1 := by rfl
def kChn1 (r : ER Val) (o : Orc) (o1 o2 : Cp) (b c : ME) (E : Env) : ER Val := r.bind fun x st1 => (evE o b E st1).bind fun y st2 => chnB (cmpF o1 x.d y.d) o o2 y c E st2
theorem kChn1_ok (x : Val) (st1 : Sto) (o : Orc) (o1 o2 : Cp) (b c : ME) (E : Env) : kChn1 (.ok x st1) o o1 o2 b c E = kChn2 (evE o b E st1) o o1 o2 x c E := by rfl
theorem kChn1_ex (x : Exc) (st1 : Sto) (o : Orc) (o1 o2 : Cp) (b c : ME) (E : Env) : kChn1 (.ex x st1) o o1 o2 b c E = .ex x st1 := by rfl
theorem fE_chn (o : Orc) (o1 o2 : Cp) (a b c : ME) (E : Env) (st : Sto) : evE o (.chn o1 o2 a b c) E st = kChn1 (evE o a E st) o o1 o2 b c E := by first | (rw [evE]; done) | (rw [evE]; rfl)
def kIsN (r : ER Val)  : ER Val := r.bind fun x st1 => ER.opt (x.d.isNon.map fun t => .dat (.bl t)) st1
theorem kIsN_ok (x : Val) (st1 : Sto)  : kIsN (.ok x st1)  = ER.opt (x.d.isNon.map fun t => .dat (.bl t)) st1 := by rfl
theorem kIsN_ex (x : Exc) (st1 : Sto)  : kIsN (.ex x st1)  = .ex x st1 := by rfl
def kNotN (r : ER Val)  : ER Val := r.bind fun x st1 => ER.opt (x.d.isNon.map fun t => .dat (.bl (!t))) st1
theorem kNotN_ok (x : Val) (st1 : Sto)  : kNotN (.ok x st1)  = ER.opt (x.d.isNon.map fun t => .dat (.bl (!t))) st1 := by rfl
theorem kNotN_ex (x : Exc) (st1 : Sto)  : kNotN (.ex x st1)  = .ex x st1 := by rfl
theorem fE_isN (o : Orc) (a : ME) (E : Env) (st : Sto) : evE o (.isN a) E st = kIsN (evE o a E st) := by first | (rw [evE]; done) | (rw [evE]; rfl)
theorem fE_notN (o : Orc) (a : ME) (E : Env) (st : Sto) : evE o (.notN a) E st = kNotN (evE o a E st) := by first | (rw [evE]; done) | (rw [evE]; rfl)
def kNeR2 (r : ER Val) (y : Val) : ER Val := r.bind fun x st1 => if repOk x.d && same y.d x.d then .ok (.dat (.bl false)) st1 else .bad
theorem kNeR2_ok (x : Val) (st1 : Sto) (y : Val) : kNeR2 (.ok x st1) y = if (repOk x.d && same y.d x.d) = true then .ok (.dat (.bl false)) st1 else .bad := by rfl
theorem kNeR2_ex (x : Exc) (st1 : Sto) (y : Val) : kNeR2 (.ex x st1) y = .ex x st1 := by rfl
def kNeR1 (r : ER Val) (o : Orc) (b : ME) (E : Env) : ER Val := r.bind fun x st1 => if repOk x.d then (evE o b E st1).bind fun y st2 => if repOk y.d && same x.d y.d then .ok (.dat (.bl false)) st2 else .bad else .bad
theorem kNeR1_ok (x : Val) (st1 : Sto) (o : Orc) (b : ME) (E : Env) : kNeR1 (.ok x st1) o b E = if repOk x.d = true then kNeR2 (evE o b E st1) x else .bad := by rfl
theorem kNeR1_ex (x : Exc) (st1 : Sto) (o : Orc) (b : ME) (E : Env) : kNeR1 (.ex x st1) o b E = .ex x st1 := by rfl
theorem fE_neR (o : Orc) (a b : ME) (E : Env) (st : Sto) : evE o (.neR a b) E st = kNeR1 (evE o a E st) o b E := by first | (rw [evE]; done) | (rw [evE]; rfl)
def kAnd (r : ER Val) (o : Orc) (es : List ME) (E : Env) : ER Val := r.bind fun v st1 => ifV v (evAnd o es E st1) ((.ok (.dat (.bl false)) st1)) .bad
theorem kAnd_b (b : Bool) (st1 : Sto) (o : Orc) (es : List ME) (E : Env) : kAnd (.ok (.dat (.bl b)) st1) o es E = if b = true then evAnd o es E st1 else (.ok (.dat (.bl false)) st1) := by rfl
theorem kAnd_ex (x : Exc) (st1 : Sto) (o : Orc) (es : List ME) (E : Env) : kAnd (.ex x st1) o es E = .ex x st1 := by rfl
theorem fAnd_1 (o : Orc) (e : ME) (E : Env) (st : Sto) : evAnd o [e] E st = evE o e E st := by rw [evAnd]
theorem fAnd_2 (o : Orc) (e f : ME) (es : List ME) (E : Env) (st : Sto) : evAnd o (e :: f :: es) E st = kAnd (evE o e E st) o (f :: es) E := by rw [evAnd]; rfl
def kOr (r : ER Val) (o : Orc) (es : List ME) (E : Env) : ER Val := r.bind fun v st1 => ifV v ((.ok (.dat (.bl true)) st1)) (evOr o es E st1) .bad
theorem kOr_b (b : Bool) (st1 : Sto) (o : Orc) (es : List ME) (E : Env) : kOr (.ok (.dat (.bl b)) st1) o es E = if b = true then (.ok (.dat (.bl true)) st1) else evOr o es E st1 := by rfl
theorem kOr_ex (x : Exc) (st1 : Sto) (o : Orc) (es : List ME) (E : Env) : kOr (.ex x st1) o es E = .ex x st1 := by rfl
theorem fOr_1 (o : Orc) (e : ME) (E : Env) (st : Sto) : evOr o [e] E st = evE o e E st := by rw [evOr]
theorem fOr_2 (o : Orc) (e f : ME) (es : List ME) (E : Env) (st : Sto) : evOr o (e :: f :: es) E st = kOr (evE o e E st) o (f :: es) E := by rw [evOr]; rfl
theorem fE_and (o : Orc) (es : List ME) (E : Env) (st : Sto) : evE o (.and es) E st = evAnd o es E st := by first | (rw [evE]; done) | (rw [evE]; rfl)
theorem fE_or (o : Orc) (es : List ME) (E : Env) (st : Sto) : evE o (.or es) E st = evOr o es E st := by first | (rw [evE]; done) | (rw [evE]; rfl)
theorem fE_not (o : Orc) (a : ME) (E : Env) (st : Sto) : evE o (.not a) E st = kNot (evE o a E st) := by first | (rw [evE]; done) | (rw [evE]; rfl)
def kIfe (r : ER Val) (o : Orc) (a b : ME) (E : Env) : ER Val := r.bind fun v st1 => ifV v (evE o a E st1) (evE o b E st1) .bad
theorem kIfe_b (t : Bool) (st1 : Sto) (o : Orc) (a b : ME) (E : Env) : kIfe (.ok (.dat (.bl t)) st1) o a b E = if t = true then evE o a E st1 else evE o b E st1 := by rfl
theorem kIfe_ex (x : Exc) (st1 : Sto) (o : Orc) (a b : ME) (E : Env) : kIfe (.ex x st1) o a b E = .ex x st1 := by rfl
theorem fE_ife (o : Orc) (c a b : ME) (E : Env) (st : Sto) : evE o (.ife c a b) E st = kIfe (evE o c E st) o a b E := by first | (rw [evE]; done) | (rw [evE]; rfl)
def kL2 (r : ER (List Val)) (v : Val) : ER (List Val) := r.bind fun x st1 => .ok (v :: x) st1
theorem kL2_ok (x : (List Val)) (st1 : Sto) (v : Val) : kL2 (.ok x st1) v = .ok (v :: x) st1 := by rfl
theorem kL2_ex (x : Exc) (st1 : Sto) (v : Val) : kL2 (.ex x st1) v = .ex x st1 := by rfl
def kL1 (r : ER Val) (o : Orc) (es : List ME) (E : Env) : ER (List Val) := r.bind fun x st1 => (evL o es E st1).bind fun vs st2 => .ok (x :: vs) st2
theorem kL1_ok (x : Val) (st1 : Sto) (o : Orc) (es : List ME) (E : Env) : kL1 (.ok x st1) o es E = kL2 (evL o es E st1) x := by rfl
theorem kL1_ex (x : Exc) (st1 : Sto) (o : Orc) (es : List ME) (E : Env) : kL1 (.ex x st1) o es E = .ex x st1 := by rfl
theorem fL_nil (o : Orc) (E : Env) (st : Sto) : evL o [] E st = .ok [] st := by rw [evL]
theorem fL_cons (o : Orc) (e : ME) (es : List ME) (E : Env) (st : Sto) : evL o (e :: es) E st = kL1 (evE o e E st) o es E := by rw [evL]; rfl
def kTup (r : ER (List Val))  : ER Val := r.bind fun x st1 => ER.opt ((kpL x).map fun ds => .dat (.tup ds)) st1
theorem kTup_ok (x : (List Val)) (st1 : Sto)  : kTup (.ok x st1)  = ER.opt ((kpL x).map fun ds => .dat (.tup ds)) st1 := by rfl
theorem kTup_ex (x : Exc) (st1 : Sto)  : kTup (.ex x st1)  = .ex x st1 := by rfl
def kLst (r : ER (List Val))  : ER Val := r.bind fun x st1 => ER.opt ((kpL x).map fun ds => .new (.lst ds)) st1
theorem kLst_ok (x : (List Val)) (st1 : Sto)  : kLst (.ok x st1)  = ER.opt ((kpL x).map fun ds => .new (.lst ds)) st1 := by rfl
theorem kLst_ex (x : Exc) (st1 : Sto)  : kLst (.ex x st1)  = .ex x st1 := by rfl
theorem fE_tup (o : Orc) (es : List ME) (E : Env) (st : Sto) : evE o (.tup es) E st = kTup (evL o es E st) := by first | (rw [evE]; done) | (rw [evE]; rfl)
theorem fE_lst (o : Orc) (es : List ME) (E : Env) (st : Sto) : evE o (.lst es) E st = kLst (evL o es E st) := by first | (rw [evE]; done) | (rw [evE]; rfl)
def dctV (a b : Option (List D)) (st : Sto) : ER Val := match a, b with
    | some ks, some vs => ER.opt ((dOfL ((ks.zip vs).map fun p => .tup [p.1, p.2]) []).map fun l => .new (.dct l)) st
    | _, _ => .bad
theorem dctV_some (ks vs : List D) (st : Sto) : dctV (some ks) (some vs) st = ER.opt ((dOfL ((ks.zip vs).map fun p => .tup [p.1, p.2]) []).map fun l => .new (.dct l)) st := by rfl
def kDct2 (r : ER (List Val)) (a : List Val) : ER Val := r.bind fun x st1 => dctV (kpL a) (kpL x) st1
theorem kDct2_ok (x : (List Val)) (st1 : Sto) (a : List Val) : kDct2 (.ok x st1) a = dctV (kpL a) (kpL x) st1 := by rfl
theorem kDct2_ex (x : Exc) (st1 : Sto) (a : List Val) : kDct2 (.ex x st1) a = .ex x st1 := by rfl
def kDct1 (r : ER (List Val)) (o : Orc) (vs : List ME) (E : Env) : ER Val := r.bind fun x st1 => (evL o vs E st1).bind fun b st2 => dctV (kpL x) (kpL b) st2
theorem kDct1_ok (x : (List Val)) (st1 : Sto) (o : Orc) (vs : List ME) (E : Env) : kDct1 (.ok x st1) o vs E = kDct2 (evL o vs E st1) x := by rfl
theorem kDct1_ex (x : Exc) (st1 : Sto) (o : Orc) (vs : List ME) (E : Env) : kDct1 (.ex x st1) o vs E = .ex x st1 := by rfl
theorem fE_dct (o : Orc) (ks vs : List ME) (E : Env) (st : Sto) : evE o (.dct ks vs) E st = kDct1 (evL o ks E st) o vs E := by first | (rw [evE]; done) | (rw [evE]; rfl)
def kFld (r : ER Val) (o : Orc) (k : Nat) : ER Val := r.bind fun x st1 => ER.opt ((fldV o.flds st1 x k).map .dat) st1
theorem kFld_ok (x : Val) (st1 : Sto) (o : Orc) (k : Nat) : kFld (.ok x st1) o k = ER.opt ((fldV o.flds st1 x k).map .dat) st1 := by rfl
theorem kFld_ex (x : Exc) (st1 : Sto) (o : Orc) (k : Nat) : kFld (.ex x st1) o k = .ex x st1 := by rfl
theorem fE_fld (o : Orc) (a : ME) (k : Nat) (E : Env) (st : Sto) : evE o (.fld a k) E st = kFld (evE o a E st) o k := by first | (rw [evE]; done) | (rw [evE]; rfl)
def kSub2 (r : ER Val) (y : Val) : ER Val := r.bind fun x st1 => ER.opt (((drf st1 y.d).bind fun d => getF d x.d).map .dat) st1
theorem kSub2_ok (x : Val) (st1 : Sto) (y : Val) : kSub2 (.ok x st1) y = ER.opt (((drf st1 y.d).bind fun d => getF d x.d).map .dat) st1 := by rfl
theorem kSub2_ex (x : Exc) (st1 : Sto) (y : Val) : kSub2 (.ex x st1) y = .ex x st1 := by rfl
def kSub1 (r : ER Val) (o : Orc) (i : ME) (E : Env) : ER Val := r.bind fun x st1 => (evE o i E st1).bind fun y st2 => ER.opt (((drf st2 x.d).bind fun d => getF d y.d).map .dat) st2
theorem kSub1_ok (x : Val) (st1 : Sto) (o : Orc) (i : ME) (E : Env) : kSub1 (.ok x st1) o i E = kSub2 (evE o i E st1) x := by rfl
theorem kSub1_ex (x : Exc) (st1 : Sto) (o : Orc) (i : ME) (E : Env) : kSub1 (.ex x st1) o i E = .ex x st1 := by rfl
theorem fE_sub (o : Orc) (a i : ME) (E : Env) (st : Sto) : evE o (.sub a i) E st = kSub1 (evE o a E st) o i E := by first | (rw [evE]; done) | (rw [evE]; rfl)
def kslU2 (r : ER Val) (x : Val) : ER Val := r.bind fun y st2 => match y.d with | .int j => ER.opt ((drf st2 x.d).bind fun d => slcF d none (some j)) st2 | _ => .bad
theorem kslU2_ok (j : Int) (st2 : Sto) (x : Val) : kslU2 (.ok (.dat (.int j)) st2) x = ER.opt ((drf st2 x.d).bind fun d => slcF d none (some j)) st2 := by rfl
def kslU1 (r : ER Val) (o : Orc) (i : ME) (E : Env) : ER Val := r.bind fun x st1 => kslU2 (evE o i E st1) x
theorem kslU1_ok (x : Val) (st1 : Sto) (o : Orc) (i : ME) (E : Env) : kslU1 (.ok x st1) o i E = kslU2 (evE o i E st1) x := by rfl
theorem kslU1_ex (x : Exc) (st1 : Sto) (o : Orc) (i : ME) (E : Env) : kslU1 (.ex x st1) o i E = .ex x st1 := by rfl
theorem fE_slU (o : Orc) (a i : ME) (E : Env) (st : Sto) : evE o (.slU a i) E st = kslU1 (evE o a E st) o i E := by first | (rw [evE]; done) | (rw [evE]; rfl)
def kslL2 (r : ER Val) (x : Val) : ER Val := r.bind fun y st2 => match y.d with | .int j => ER.opt ((drf st2 x.d).bind fun d => slcF d (some j) none) st2 | _ => .bad
theorem kslL2_ok (j : Int) (st2 : Sto) (x : Val) : kslL2 (.ok (.dat (.int j)) st2) x = ER.opt ((drf st2 x.d).bind fun d => slcF d (some j) none) st2 := by rfl
def kslL1 (r : ER Val) (o : Orc) (i : ME) (E : Env) : ER Val := r.bind fun x st1 => kslL2 (evE o i E st1) x
theorem kslL1_ok (x : Val) (st1 : Sto) (o : Orc) (i : ME) (E : Env) : kslL1 (.ok x st1) o i E = kslL2 (evE o i E st1) x := by rfl
theorem kslL1_ex (x : Exc) (st1 : Sto) (o : Orc) (i : ME) (E : Env) : kslL1 (.ex x st1) o i E = .ex x st1 := by rfl
theorem fE_slL (o : Orc) (a i : ME) (E : Env) (st : Sto) : evE o (.slL a i) E st = kslL1 (evE o a E st) o i E := by first | (rw [evE]; done) | (rw [evE]; rfl)
def kslB3 (r : ER Val) (x : Val) (i : Int) : ER Val := r.bind fun z st3 => match z.d with | .int j => ER.opt ((drf st3 x.d).bind fun d => slcF d (some i) (some j)) st3 | _ => .bad
theorem kslB3_ok (j : Int) (st3 : Sto) (x : Val) (i : Int) : kslB3 (.ok (.dat (.int j)) st3) x i = ER.opt ((drf st3 x.d).bind fun d => slcF d (some i) (some j)) st3 := by rfl
def kslB2 (r : ER Val) (x : Val) (o : Orc) (hi : ME) (E : Env) : ER Val := r.bind fun y st2 => match y.d with | .int i => kslB3 (evE o hi E st2) x i | _ => .bad
theorem kslB2_ok (i : Int) (st2 : Sto) (x : Val) (o : Orc) (hi : ME) (E : Env) : kslB2 (.ok (.dat (.int i)) st2) x o hi E = kslB3 (evE o hi E st2) x i := by rfl
def kslB1 (r : ER Val) (o : Orc) (lo hi : ME) (E : Env) : ER Val := r.bind fun x st1 => kslB2 (evE o lo E st1) x o hi E
theorem kslB1_ok (x : Val) (st1 : Sto) (o : Orc) (lo hi : ME) (E : Env) : kslB1 (.ok x st1) o lo hi E = kslB2 (evE o lo E st1) x o hi E := by rfl
theorem kslB1_ex (x : Exc) (st1 : Sto) (o : Orc) (lo hi : ME) (E : Env) : kslB1 (.ex x st1) o lo hi E = .ex x st1 := by rfl
theorem fE_slB (o : Orc) (a lo hi : ME) (E : Env) (st : Sto) : evE o (.slB a lo hi) E st = kslB1 (evE o a E st) o lo hi E := by first | (rw [evE]; done) | (rw [evE]; rfl)
def kRev (r : ER Val)  : ER Val := r.bind fun x st1 => ER.opt ((drf st1 x.d).bind revF) st1
theorem kRev_ok (x : Val) (st1 : Sto)  : kRev (.ok x st1)  = ER.opt ((drf st1 x.d).bind revF) st1 := by rfl
theorem kRev_ex (x : Exc) (st1 : Sto)  : kRev (.ex x st1)  = .ex x st1 := by rfl
theorem fE_rev (o : Orc) (a : ME) (E : Env) (st : Sto) : evE o (.rev a) E st = kRev (evE o a E st) := by first | (rw [evE]; done) | (rw [evE]; rfl)
def callV (o : Orc) (f : Nat) (ds : Option (List D)) (st : Sto) : ER Val := match ds with | some ds => o.call f ds st | none => .bad
theorem callV_some (o : Orc) (f : Nat) (ds : List D) (st : Sto) : callV o f (some ds) st = o.call f ds st := by rfl
def kCall (r : ER (List Val)) (o : Orc) (f : Nat) : ER Val := r.bind fun x st1 => callV o f (kpL x) st1
theorem kCall_ok (x : (List Val)) (st1 : Sto) (o : Orc) (f : Nat) : kCall (.ok x st1) o f = callV o f (kpL x) st1 := by rfl
theorem kCall_ex (x : Exc) (st1 : Sto) (o : Orc) (f : Nat) : kCall (.ex x st1) o f = .ex x st1 := by rfl
theorem fE_call (o : Orc) (f : Nat) (es : List ME) (E : Env) (st : Sto) : evE o (.call f es) E st = kCall (evL o es E st) o f := by first | (rw [evE]; done) | (rw [evE]; rfl)
def calvV (o : Orc) (v : Option (Option Val)) (ds : Option (List D)) (st : Sto) : ER Val := match v, ds with | some (some (.dat (.fn f))), some ds => o.call f ds st | _, _ => .bad
theorem calvV_some (o : Orc) (f : Nat) (ds : List D) (st : Sto) : calvV o (some (some (.dat (.fn f)))) (some ds) st = o.call f ds st := by rfl
def kCalv (r : ER (List Val)) (o : Orc) (i : Nat) (E : Env) : ER Val := r.bind fun x st1 => calvV o E[i]? (kpL x) st1
theorem kCalv_ok (x : (List Val)) (st1 : Sto) (o : Orc) (i : Nat) (E : Env) : kCalv (.ok x st1) o i E = calvV o E[i]? (kpL x) st1 := by rfl
theorem kCalv_ex (x : Exc) (st1 : Sto) (o : Orc) (i : Nat) (E : Env) : kCalv (.ex x st1) o i E = .ex x st1 := by rfl
theorem fE_calv (o : Orc) (i : Nat) (es : List ME) (E : Env) (st : Sto) : evE o (.calv i es) E st = kCalv (evL o es E st) o i E := by first | (rw [evE]; done) | (rw [evE]; rfl)
def methV2 (o : Orc) (f : Option Nat) (d : D) (ds : List D) (st : Sto) : ER Val := match f with | some f => o.call f (d :: ds) st | none => .bad
def methV (o : Orc) (m : Nat) (x : Option D) (ds : Option (List D)) (st : Sto) : ER Val := match x, ds with
    | some d, some ds => methV2 o ((clsOf st d).bind fun c => o.mth c m) d ds st
    | _, _ => .bad
theorem methV2_some (o : Orc) (f : Nat) (d : D) (ds : List D) (st : Sto) : methV2 o (some f) d ds st = o.call f (d :: ds) st := by rfl
theorem methV_some (o : Orc) (m : Nat) (d : D) (ds : List D) (st : Sto) : methV o m (some d) (some ds) st = methV2 o ((clsOf st d).bind fun c => o.mth c m) d ds st := by rfl
def kMeth2 (r : ER (List Val)) (o : Orc) (m : Nat) (y : Val) : ER Val := r.bind fun x st1 => methV o m y.kp (kpL x) st1
theorem kMeth2_ok (x : (List Val)) (st1 : Sto) (o : Orc) (m : Nat) (y : Val) : kMeth2 (.ok x st1) o m y = methV o m y.kp (kpL x) st1 := by rfl
theorem kMeth2_ex (x : Exc) (st1 : Sto) (o : Orc) (m : Nat) (y : Val) : kMeth2 (.ex x st1) o m y = .ex x st1 := by rfl
def kMeth1 (r : ER Val) (o : Orc) (m : Nat) (es : List ME) (E : Env) : ER Val := r.bind fun x st1 => kMeth2 (evL o es E st1) o m x
theorem kMeth1_ok (x : Val) (st1 : Sto) (o : Orc) (m : Nat) (es : List ME) (E : Env) : kMeth1 (.ok x st1) o m es E = kMeth2 (evL o es E st1) o m x := by rfl
theorem kMeth1_ex (x : Exc) (st1 : Sto) (o : Orc) (m : Nat) (es : List ME) (E : Env) : kMeth1 (.ex x st1) o m es E = .ex x st1 := by rfl
theorem fE_meth (o : Orc) (a : ME) (m : Nat) (es : List ME) (E : Env) (st : Sto) : evE o (.meth a m es) E st = kMeth1 (evE o a E st) o m es E := by first | (rw [evE]; done) | (rw [evE]; rfl)
def makeV (o : Orc) (f : Nat) (ds : Option (List D)) (st : Sto) : ER Val := match ds with | some ds => o.make f ds st | none => .bad
theorem makeV_some (o : Orc) (f : Nat) (ds : List D) (st : Sto) : makeV o f (some ds) st = o.make f ds st := by rfl
def kMake (r : ER (List Val)) (o : Orc) (f : Nat) : ER Val := r.bind fun x st1 => makeV o f (kpL x) st1
theorem kMake_ok (x : (List Val)) (st1 : Sto) (o : Orc) (f : Nat) : kMake (.ok x st1) o f = makeV o f (kpL x) st1 := by rfl
theorem kMake_ex (x : Exc) (st1 : Sto) (o : Orc) (f : Nat) : kMake (.ex x st1) o f = .ex x st1 := by rfl
theorem fE_make (o : Orc) (f : Nat) (es : List ME) (E : Env) (st : Sto) : evE o (.make f es) E st = kMake (evL o es E st) o f := by first | (rw [evE]; done) | (rw [evE]; rfl)
def kXfl (r : ER (List Val)) (o : Orc) (c k : Nat) : ER Val := r.bind fun x st1 => ER.opt ((kpL x).bind fun ds => (excF o c ds).bind fun fs => (fs.lookup k).map .dat) st1
theorem kXfl_ok (x : (List Val)) (st1 : Sto) (o : Orc) (c k : Nat) : kXfl (.ok x st1) o c k = ER.opt ((kpL x).bind fun ds => (excF o c ds).bind fun fs => (fs.lookup k).map .dat) st1 := by rfl
theorem kXfl_ex (x : Exc) (st1 : Sto) (o : Orc) (c k : Nat) : kXfl (.ex x st1) o c k = .ex x st1 := by rfl
theorem fE_xfl (o : Orc) (c : Nat) (es : List ME) (k : Nat) (E : Env) (st : Sto) : evE o (.xfl c es k) E st = kXfl (evL o es E st) o c k := by first | (rw [evE]; done) | (rw [evE]; rfl)
def kBi (r : ER (List Val)) (b : BI) : ER Val := r.bind fun x st1 => ER.opt ((biV st1 x).bind (biF b)) st1
theorem kBi_ok (x : (List Val)) (st1 : Sto) (b : BI) : kBi (.ok x st1) b = ER.opt ((biV st1 x).bind (biF b)) st1 := by rfl
theorem kBi_ex (x : Exc) (st1 : Sto) (b : BI) : kBi (.ex x st1) b = .ex x st1 := by rfl
theorem fE_bi (o : Orc) (b : BI) (es : List ME) (E : Env) (st : Sto) : evE o (.bi b es) E st = kBi (evL o es E st) b := by first | (rw [evE]; done) | (rw [evE]; rfl)
def lenV2 (o : Orc) (f : Option Nat) (d : D) (st : Sto) : ER Val := match f with | some f => o.call f [d] st | none => .bad
def lenV (o : Orc) (x : Option D) (st : Sto) : ER Val := (ER.opt x st).bind fun d st2 => lenV2 o ((clsOf st2 d).bind o.lenm) d st2
theorem lenV2_some (o : Orc) (f : Nat) (d : D) (st : Sto) : lenV2 o (some f) d st = o.call f [d] st := by rfl
theorem lenV_some (o : Orc) (d : D) (st : Sto) : lenV o (some d) st = lenV2 o ((clsOf st d).bind o.lenm) d st := by rfl
def kLenO (r : ER Val) (o : Orc) : ER Val := r.bind fun x st1 => lenV o x.kp st1
theorem kLenO_ok (x : Val) (st1 : Sto) (o : Orc) : kLenO (.ok x st1) o = lenV o x.kp st1 := by rfl
theorem kLenO_ex (x : Exc) (st1 : Sto) (o : Orc) : kLenO (.ex x st1) o = .ex x st1 := by rfl
theorem fE_lenO (o : Orc) (e : ME) (E : Env) (st : Sto) : evE o (.lenO e) E st = kLenO (evE o e E st) o := by first | (rw [evE]; done) | (rw [evE]; rfl)
def kIsi (r : ER Val) (o : Orc) (ts : List Ty) : ER Val := r.bind fun x st1 => ER.opt ((isiV o.sup ts st1 x).map fun t => .dat (.bl t)) st1
theorem kIsi_ok (x : Val) (st1 : Sto) (o : Orc) (ts : List Ty) : kIsi (.ok x st1) o ts = ER.opt ((isiV o.sup ts st1 x).map fun t => .dat (.bl t)) st1 := by rfl
theorem kIsi_ex (x : Exc) (st1 : Sto) (o : Orc) (ts : List Ty) : kIsi (.ex x st1) o ts = .ex x st1 := by rfl
theorem fE_isi (o : Orc) (a : ME) (ts : List Ty) (E : Env) (st : Sto) : evE o (.isi a ts) E st = kIsi (evE o a E st) o ts := by first | (rw [evE]; done) | (rw [evE]; rfl)
def kLsI (r : ER (List D))  : ER Val := r.bind fun x st1 => .ok (.new (.lst x)) st1
theorem kLsI_ok (x : (List D)) (st1 : Sto)  : kLsI (.ok x st1)  = .ok (.new (.lst x)) st1 := by rfl
theorem kLsI_ex (x : Exc) (st1 : Sto)  : kLsI (.ex x st1)  = .ex x st1 := by rfl
theorem fE_lsI (o : Orc) (it : MI) (E : Env) (st : Sto) : evE o (.lsI it) E st = kLsI (evI o false it E st) := by first | (rw [evE]; done) | (rw [evE]; rfl)
def compE (o : Orc) (e : ME) (p : Pat) (ds : List D) (E : Env) (st : Sto) : ER (List D) := compL (fun E' st' => evE o e E' st') (fun _ st' => .ok (.dat (.bl true)) st') p E ds st []
def compC (o : Orc) (e : ME) (p : Pat) (c : ME) (ds : List D) (E : Env) (st : Sto) : ER (List D) := compL (fun E' st' => evE o e E' st') (fun E' st' => evE o c E' st') p E ds st []
def kLc (r : ER (List D)) (o : Orc) (e : ME) (p : Pat) (E : Env) : ER Val := r.bind fun x st1 => (compE o e p x E st1).bind fun l st2 => .ok (.new (.lst l)) st2
theorem kLc_ok (x : (List D)) (st1 : Sto) (o : Orc) (e : ME) (p : Pat) (E : Env) : kLc (.ok x st1) o e p E = kLsI (compE o e p x E st1) := by rfl
theorem kLc_ex (x : Exc) (st1 : Sto) (o : Orc) (e : ME) (p : Pat) (E : Env) : kLc (.ex x st1) o e p E = .ex x st1 := by rfl
def kLcf (r : ER (List D)) (o : Orc) (e : ME) (p : Pat) (c : ME) (E : Env) : ER Val := r.bind fun x st1 => (compC o e p c x E st1).bind fun l st2 => .ok (.new (.lst l)) st2
theorem kLcf_ok (x : (List D)) (st1 : Sto) (o : Orc) (e : ME) (p : Pat) (c : ME) (E : Env) : kLcf (.ok x st1) o e p c E = kLsI (compC o e p c x E st1) := by rfl
theorem kLcf_ex (x : Exc) (st1 : Sto) (o : Orc) (e : ME) (p : Pat) (c : ME) (E : Env) : kLcf (.ex x st1) o e p c E = .ex x st1 := by rfl
theorem fE_lc (o : Orc) (e : ME) (p : Pat) (it : MI) (E : Env) (st : Sto) : evE o (.lc e p it) E st = kLc (evI o false it E st) o e p E := by first | (rw [evE]; done) | (rw [evE]; rfl)
theorem fE_lcf (o : Orc) (e : ME) (p : Pat) (it : MI) (c : ME) (E : Env) (st : Sto) : evE o (.lcf e p it c) E st = kLcf (evI o false it E st) o e p c E := by first | (rw [evE]; done) | (rw [evE]; rfl)
def kFs (r : ER (List Val))  : ER Val := r.bind fun x st1 => ER.opt ((kpL x).bind fun ds => (fsL ds).map fun s => .dat (.str s)) st1
theorem kFs_ok (x : (List Val)) (st1 : Sto)  : kFs (.ok x st1)  = ER.opt ((kpL x).bind fun ds => (fsL ds).map fun s => .dat (.str s)) st1 := by rfl
theorem kFs_ex (x : Exc) (st1 : Sto)  : kFs (.ex x st1)  = .ex x st1 := by rfl
theorem fE_fs (o : Orc) (es : List ME) (E : Env) (st : Sto) : evE o (.fs es) E st = kFs (evL o es E st) := by first | (rw [evE]; done) | (rw [evE]; rfl)
def kCell (r : ER Val) : ER Val := r.bind fun v st1 => match v with | .new d => .ok (.dat (.ref st1.length)) (st1 ++ [d]) | _ => .bad
theorem kCell_ok (d : D) (st1 : Sto) : kCell (.ok (.new d) st1) = .ok (.dat (.ref st1.length)) (st1 ++ [d]) := by rfl
theorem fE_cell (o : Orc) (e : ME) (E : Env) (st : Sto) : evE o (.cell e) E st = kCell (evE o e E st) := by first | (rw [evE]; done) | (rw [evE]; rfl)
def srtV (l : List D) (ks : List (D × D)) (st2 : Sto) : ER Val := if cmpOk (ks.map (·.1)) then .ok (.new (.lst ((isort (fun a b => ltB a.1 b.1) ks).map (·.2)))) st2 else .bad
def kSrt2 (r : ER (List (D × D))) : ER Val := r.bind fun ks st2 => if cmpOk (ks.map (·.1)) then .ok (.new (.lst ((isort (fun a b => ltB a.1 b.1) ks).map (·.2)))) st2 else .bad
def srt1V (xs : Option (List D)) (o : Orc) (f : Nat) (st : Sto) : ER Val := match xs with | some xs => kSrt2 (keysL o f xs st []) | none => .bad
theorem srt1V_some (xs : List D) (o : Orc) (f : Nat) (st : Sto) : srt1V (some xs) o f st = kSrt2 (keysL o f xs st []) := by rfl
theorem kSrt2_ok (ks : List (D × D)) (st : Sto) : kSrt2 (.ok ks st) = if cmpOk (ks.map (·.1)) = true then .ok (.new (.lst ((isort (fun a b => ltB a.1 b.1) ks).map (·.2)))) st else .bad := by rfl
def kSrt1 (r : ER Val) (o : Orc) (f : Nat) : ER Val := r.bind fun x st1 => srt1V (seqOf x.d) o f st1
theorem kSrt1_ok (x : Val) (st1 : Sto) (o : Orc) (f : Nat) : kSrt1 (.ok x st1) o f = srt1V (seqOf x.d) o f st1 := by rfl
theorem kSrt1_ex (x : Exc) (st1 : Sto) (o : Orc) (f : Nat) : kSrt1 (.ex x st1) o f = .ex x st1 := by rfl
theorem fE_srtk (o : Orc) (a : ME) (f : Nat) (E : Env) (st : Sto) : evE o (.srtk a f) E st = kSrt1 (evE o a E st) o f := by rw [evE]; rfl
def kIx (r : ER Val) (k : Bool) : ER (List D) := r.bind fun x st1 => ER.opt ((x.it k).bind itemsOf) st1
theorem kIx_ok (x : Val) (st1 : Sto) (k : Bool) : kIx (.ok x st1) k = ER.opt ((x.it k).bind itemsOf) st1 := by rfl
theorem kIx_ex (x : Exc) (st1 : Sto) (k : Bool) : kIx (.ex x st1) k = .ex x st1 := by rfl
theorem fI_ex (o : Orc) (k : Bool) (e : ME) (E : Env) (st : Sto) : evI o k (.ex e) E st = kIx (evE o e E st) k := by rw [evI]; rfl
def kRg1 (r : ER Val) : ER (List D) := r.bind fun v st1 => match v.d with | .int n => ER.opt (rangeL 0 n) st1 | _ => .bad
theorem kRg1_ok (n : Int) (st : Sto) : kRg1 (.ok (.dat (.int n)) st) = ER.opt (rangeL 0 n) st := by rfl
theorem fI_rg1 (o : Orc) (k : Bool) (a : ME) (E : Env) (st : Sto) : evI o k (.rg1 a) E st = kRg1 (evE o a E st) := by rw [evI]; rfl
def krg2b (r : ER Val) (v : Val) : ER (List D) := r.bind fun w st2 => match v.d, w.d with | .int m, .int n => ER.opt (rangeL m n) st2 | _, _ => .bad
theorem krg2b_ok (n : Int) (st : Sto) (m : Int) : krg2b (.ok (.dat (.int n)) st) (.dat (.int m)) = ER.opt (rangeL m n) st := by rfl
def krg2a (r : ER Val) (o : Orc) (b : ME) (E : Env) : ER (List D) := r.bind fun x st1 => krg2b (evE o b E st1) x
theorem krg2a_ok (x : Val) (st1 : Sto) (o : Orc) (b : ME) (E : Env) : krg2a (.ok x st1) o b E = krg2b (evE o b E st1) x := by rfl
theorem krg2a_ex (x : Exc) (st1 : Sto) (o : Orc) (b : ME) (E : Env) : krg2a (.ex x st1) o b E = .ex x st1 := by rfl
theorem fI_rg2 (o : Orc) (k : Bool) (a b : ME) (E : Env) (st : Sto) : evI o k (.rg2 a b) E st = krg2a (evE o a E st) o b E := by rw [evI]; rfl
def krgdb (r : ER Val) (v : Val) : ER (List D) := r.bind fun w st2 => match v.d, w.d with | .int m, .int n => ER.opt (rangeD m n) st2 | _, _ => .bad
theorem krgdb_ok (n : Int) (st : Sto) (m : Int) : krgdb (.ok (.dat (.int n)) st) (.dat (.int m)) = ER.opt (rangeD m n) st := by rfl
def krgda (r : ER Val) (o : Orc) (b : ME) (E : Env) : ER (List D) := r.bind fun x st1 => krgdb (evE o b E st1) x
theorem krgda_ok (x : Val) (st1 : Sto) (o : Orc) (b : ME) (E : Env) : krgda (.ok x st1) o b E = krgdb (evE o b E st1) x := by rfl
theorem krgda_ex (x : Exc) (st1 : Sto) (o : Orc) (b : ME) (E : Env) : krgda (.ex x st1) o b E = .ex x st1 := by rfl
theorem fI_rgd (o : Orc) (k : Bool) (a b : ME) (E : Env) (st : Sto) : evI o k (.rgd a b) E st = krgda (evE o a E st) o b E := by rw [evI]; rfl
def kEnum (r : ER Val) (k : Bool) : ER (List D) := r.bind fun x st1 => ER.opt (((x.it k).bind itemsOf).map enumL) st1
theorem kEnum_ok (x : Val) (st1 : Sto) (k : Bool) : kEnum (.ok x st1) k = ER.opt (((x.it k).bind itemsOf).map enumL) st1 := by rfl
theorem kEnum_ex (x : Exc) (st1 : Sto) (k : Bool) : kEnum (.ex x st1) k = .ex x st1 := by rfl
theorem fI_enum (o : Orc) (k : Bool) (e : ME) (E : Env) (st : Sto) : evI o k (.enum e) E st = kEnum (evE o e E st) k := by rw [evI]; rfl
def zipV (a b : Option (List D)) (st : Sto) : ER (List D) := match a, b with | some xs, some ys => .ok ((xs.zip ys).map fun p => .tup [p.1, p.2]) st | _, _ => .bad
theorem zipV_some (xs ys : List D) (st : Sto) : zipV (some xs) (some ys) st = .ok ((xs.zip ys).map fun p => .tup [p.1, p.2]) st := by rfl
def kZip2 (r : ER Val) (k : Bool) (y : Val) : ER (List D) := r.bind fun x st1 => zipV ((y.it k).bind seqOf) ((x.it k).bind seqOf) st1
theorem kZip2_ok (x : Val) (st1 : Sto) (k : Bool) (y : Val) : kZip2 (.ok x st1) k y = zipV ((y.it k).bind seqOf) ((x.it k).bind seqOf) st1 := by rfl
theorem kZip2_ex (x : Exc) (st1 : Sto) (k : Bool) (y : Val) : kZip2 (.ex x st1) k y = .ex x st1 := by rfl
def kZip1 (r : ER Val) (k : Bool) (o : Orc) (b : ME) (E : Env) : ER (List D) := r.bind fun x st1 => kZip2 (evE o b E st1) k x
theorem kZip1_ok (x : Val) (st1 : Sto) (k : Bool) (o : Orc) (b : ME) (E : Env) : kZip1 (.ok x st1) k o b E = kZip2 (evE o b E st1) k x := by rfl
theorem kZip1_ex (x : Exc) (st1 : Sto) (k : Bool) (o : Orc) (b : ME) (E : Env) : kZip1 (.ex x st1) k o b E = .ex x st1 := by rfl
theorem fI_zip (o : Orc) (k : Bool) (a b : ME) (E : Env) (st : Sto) : evI o k (.zip a b) E st = kZip1 (evE o a E st) k o b E := by rw [evI]; rfl
def itemsV (x : Option D) (st : Sto) : ER (List D) := match x with | some (.dct kvs) => .ok (kvs.map fun p => .tup [p.1, p.2]) st | _ => .bad
theorem itemsV_some (kvs : List (D × D)) (st : Sto) : itemsV (some (.dct kvs)) st = .ok (kvs.map fun p => .tup [p.1, p.2]) st := by rfl
def kitems (r : ER Val) (k : Bool) : ER (List D) := r.bind fun x st1 => itemsV (x.it k) st1
theorem kitems_ok (x : Val) (st1 : Sto) (k : Bool) : kitems (.ok x st1) k = itemsV (x.it k) st1 := by rfl
theorem kitems_ex (x : Exc) (st1 : Sto) (k : Bool) : kitems (.ex x st1) k = .ex x st1 := by rfl
theorem fI_items (o : Orc) (k : Bool) (e : ME) (E : Env) (st : Sto) : evI o k (.items e) E st = kitems (evE o e E st) k := by rw [evI]; rfl
def valsV (x : Option D) (st : Sto) : ER (List D) := match x with | some (.dct kvs) => .ok (kvs.map (·.2)) st | _ => .bad
theorem valsV_some (kvs : List (D × D)) (st : Sto) : valsV (some (.dct kvs)) st = .ok (kvs.map (·.2)) st := by rfl
def kvals (r : ER Val) (k : Bool) : ER (List D) := r.bind fun x st1 => valsV (x.it k) st1
theorem kvals_ok (x : Val) (st1 : Sto) (k : Bool) : kvals (.ok x st1) k = valsV (x.it k) st1 := by rfl
theorem kvals_ex (x : Exc) (st1 : Sto) (k : Bool) : kvals (.ex x st1) k = .ex x st1 := by rfl
theorem fI_vals (o : Orc) (k : Bool) (e : ME) (E : Env) (st : Sto) : evI o k (.vals e) E st = kvals (evE o e E st) k := by rw [evI]; rfl
def putV (v : Val) (i : Nat) (E : Env) (st : Sto) : ER Env := match v with | .bor _ => .bad | .xv _ _ => .bad | v => if i < E.length then .ok (E.set i (some v)) st else .bad
theorem putV_dat (d : D) (i : Nat) (E : Env) (st : Sto) : putV (.dat d) i E st = if i < E.length then .ok (E.set i (some (.dat d))) st else .bad := by rfl
theorem putV_new (d : D) (i : Nat) (E : Env) (st : Sto) : putV (.new d) i E st = if i < E.length then .ok (E.set i (some (.new d))) st else .bad := by rfl
theorem fT_v (o : Orc) (i : Nat) (v : Val) (E : Env) (st : Sto) : tgF o (.v i) v E st = putV v i E st := by cases v <;> simp [tgF, putV]
def chgK (o : Orc) (b : ME) (f : Option (D → Option D)) (E : Env) (st : Sto) : ER Env := match f with | some f => chgE o b f E st | none => .bad
def chgV2 (d : Option D) (i : Nat) (E : Env) (st : Sto) : ER Env := (ER.opt d st).bind fun d' st1 => .ok (E.set i (some (.new d'))) st1
def chgR2 (d : Option D) (n : Nat) (E : Env) (st : Sto) : ER Env := (ER.opt d st).bind fun d' st1 => .ok E (st1.set n d')
def chgV (x : Option (Option Val)) (f : D → Option D) (i : Nat) (E : Env) (st : Sto) : ER Env := match x with
    | some (some (.new d)) => chgV2 (f d) i E st
    | some (some (.dat (.ref n))) => chgR2 ((st[n]?).bind f) n E st
    | _ => .bad
theorem chgV_new (d : D) (f : D → Option D) (i : Nat) (E : Env) (st : Sto) : chgV (some (some (.new d))) f i E st = chgV2 (f d) i E st := by rfl
theorem chgV_ref (n : Nat) (f : D → Option D) (i : Nat) (E : Env) (st : Sto) : chgV (some (some (.dat (.ref n)))) f i E st = chgR2 ((st[n]?).bind f) n E st := by rfl
theorem chgV2_some (d : D) (i : Nat) (E : Env) (st : Sto) : chgV2 (some d) i E st = .ok (E.set i (some (.new d))) st := by rfl
theorem chgR2_some (d : D) (n : Nat) (E : Env) (st : Sto) : chgR2 (some d) n E st = .ok E (st.set n d) := by rfl
theorem chgE_var (o : Orc) (i : Nat) (f : D → Option D) (E : Env) (st : Sto) : chgE o (.var i) f E st = chgV E[i]? f i E st := by unfold chgE chgV; rfl
def kChg (r : ER Val) (f : D → Option D) (E : Env) : ER Env := r.bind fun v st1 => match v with | .dat (.ref n) => chgR2 ((st1[n]?).bind f) n E st1 | _ => .bad
theorem kChg_ok (n : Nat) (st1 : Sto) (f : D → Option D) (E : Env) : kChg (.ok (.dat (.ref n)) st1) f E = chgR2 ((st1[n]?).bind f) n E st1 := by rfl
theorem chgE_fld (o : Orc) (a : ME) (k : Nat) (f : D → Option D) (E : Env) (st : Sto) : chgE o (.fld a k) f E st = kChg (evE o (.fld a k) E st) f E := by rfl
theorem chgE_sub (o : Orc) (a i : ME) (f : D → Option D) (E : Env) (st : Sto) : chgE o (.sub a i) f E st = kChg (evE o (.sub a i) E st) f E := by rfl
def tgFld (o : Orc) (b : ME) (k : Nat) (d : Option D) (E : Env) (st : Sto) : ER Env := match d with | some d => chgE o b (fun c => setFld c k d) E st | none => .bad
theorem tgFld_some (o : Orc) (b : ME) (k : Nat) (d : D) (E : Env) (st : Sto) : tgFld o b k (some d) E st = chgE o b (fun c => setFld c k d) E st := by rfl
theorem fT_fld (o : Orc) (b : ME) (k : Nat) (v : Val) (E : Env) (st : Sto) : tgF o (.fld b k) v E st = tgFld o b k v.kp E st := by rw [tgF]; rfl
def tgS3 (o : Orc) (b : ME) (d : D) (j : Option D) (E : Env) (st : Sto) : ER Env := (ER.opt j st).bind fun j st2 => chgE o b (fun c => setSub c j d) E st2
theorem tgS3_some (o : Orc) (b : ME) (d j : D) (E : Env) (st : Sto) : tgS3 o b d (some j) E st = chgE o b (fun c => setSub c j d) E st := by rfl
def kTgS (r : ER Val) (o : Orc) (b : ME) (d : D) (E : Env) : ER Env := r.bind fun x st1 => tgS3 o b d x.kp E st1
theorem kTgS_ok (x : Val) (st1 : Sto) (o : Orc) (b : ME) (d : D) (E : Env) : kTgS (.ok x st1) o b d E = tgS3 o b d x.kp E st1 := by rfl
theorem kTgS_ex (x : Exc) (st1 : Sto) (o : Orc) (b : ME) (d : D) (E : Env) : kTgS (.ex x st1) o b d E = .ex x st1 := by rfl
def tgS1 (o : Orc) (b i : ME) (d : Option D) (E : Env) (st : Sto) : ER Env := (ER.opt d st).bind fun d st0 => kTgS (evE o i E st0) o b d E
theorem tgS1_some (o : Orc) (b i : ME) (d : D) (E : Env) (st : Sto) : tgS1 o b i (some d) E st = kTgS (evE o i E st) o b d E := by rfl
theorem fT_sub (o : Orc) (b i : ME) (v : Val) (E : Env) (st : Sto) : tgF o (.sub b i) v E st = if plcB b E = true then tgS1 o b i v.kp E st else .bad := by rw [tgF]; rfl
def tgTV (o : Orc) (ts : List Tg) (ds : Option (List D)) (E : Env) (st : Sto) : ER Env := match ds with | some ds => tgL o ts (ds.map .dat) E st | none => .bad
theorem tgTV_some (o : Orc) (ts : List Tg) (ds : List D) (E : Env) (st : Sto) : tgTV o ts (some ds) E st = tgL o ts (ds.map .dat) E st := by rfl
theorem fT_t (o : Orc) (ts : List Tg) (v : Val) (E : Env) (st : Sto) : tgF o (.t ts) v E st = tgTV o ts (seqOf v.d) E st := by rw [tgF]; rfl
def kTgL (r : ER Env) (o : Orc) (ts : List Tg) (vs : List Val) : ER Env := r.bind fun x st1 => tgL o ts vs x st1
theorem kTgL_ok (x : Env) (st1 : Sto) (o : Orc) (ts : List Tg) (vs : List Val) : kTgL (.ok x st1) o ts vs = tgL o ts vs x st1 := by rfl
theorem kTgL_ex (x : Exc) (st1 : Sto) (o : Orc) (ts : List Tg) (vs : List Val) : kTgL (.ex x st1) o ts vs = .ex x st1 := by rfl
theorem fTL_nil (o : Orc) (E : Env) (st : Sto) : tgL o [] [] E st = .ok E st := by rw [tgL]
theorem fTL_cons (o : Orc) (t : Tg) (ts : List Tg) (v : Val) (vs : List Val) (E : Env) (st : Sto) : tgL o (t :: ts) (v :: vs) E st = kTgL (tgF o t v E st) o ts vs := by rw [tgL]; rfl
def kNx (r : ER Env) (E : Env) : SR := r.sr E fun x st1 => .nx x st1
theorem kNx_ok (x : Env) (st1 : Sto) (E : Env) : kNx (.ok x st1) E = .nx x st1 := by rfl
theorem kNx_ex (x : Exc) (st1 : Sto) (E : Env) : kNx (.ex x st1) E = .ex x E st1 := by rfl
def kAsg (r : ER Val) (o : Orc) (t : Tg) (E : Env) : SR := r.sr E fun x st1 => kNx (tgF o t x E st1) E
theorem kAsg_ok (x : Val) (st1 : Sto) (o : Orc) (t : Tg) (E : Env) : kAsg (.ok x st1) o t E = kNx (tgF o t x E st1) E := by rfl
theorem kAsg_ex (x : Exc) (st1 : Sto) (o : Orc) (t : Tg) (E : Env) : kAsg (.ex x st1) o t E = .ex x E st1 := by rfl
theorem fS_asg (o : Orc) (t : Tg) (e : ME) (E : Env) (st : Sto) : exS o (.asg t e) E st = kAsg (evE o e E st) o t E := by rw [exS]; rfl
def kPar (r : ER (List Val)) (o : Orc) (ts : List Tg) (E : Env) : SR := r.sr E fun x st1 => kNx (tgL o ts x E st1) E
theorem kPar_ok (x : (List Val)) (st1 : Sto) (o : Orc) (ts : List Tg) (E : Env) : kPar (.ok x st1) o ts E = kNx (tgL o ts x E st1) E := by rfl
theorem kPar_ex (x : Exc) (st1 : Sto) (o : Orc) (ts : List Tg) (E : Env) : kPar (.ex x st1) o ts E = .ex x E st1 := by rfl
theorem fS_par (o : Orc) (ts : List Tg) (es : List ME) (E : Env) (st : Sto) : exS o (.par ts es) E st = kPar (evL o es E st) o ts E := by rw [exS]; rfl
def augV (z : Option Val) (i : Nat) (E : Env) (st : Sto) : SR := match z with | some (.dat z) => .nx (E.set i (some (.dat z))) st | _ => .bad
theorem augV_some (z : D) (i : Nat) (E : Env) (st : Sto) : augV (some (.dat z)) i E st = .nx (E.set i (some (.dat z))) st := by rfl
def kAugV (r : ER Val) (op : Op) (y : D) (i : Nat) (E : Env) : SR := r.sr E fun x st1 => augV (binF op y x.d) i E st1
theorem kAugV_ok (x : Val) (st1 : Sto) (op : Op) (y : D) (i : Nat) (E : Env) : kAugV (.ok x st1) op y i E = augV (binF op y x.d) i E st1 := by rfl
theorem kAugV_ex (x : Exc) (st1 : Sto) (op : Op) (y : D) (i : Nat) (E : Env) : kAugV (.ex x st1) op y i E = .ex x E st1 := by rfl
def augG (x : Option (Option Val)) (op : Op) (e : ME) (o : Orc) (i : Nat) (E : Env) (st : Sto) : SR := match x with | some (some (.dat x)) => kAugV (evE o e E st) op x i E | _ => .bad
theorem augG_dat (x : D) (op : Op) (e : ME) (o : Orc) (i : Nat) (E : Env) (st : Sto) : augG (some (some (.dat x))) op e o i E st = kAugV (evE o e E st) op x i E := by rfl
theorem fS_augv (o : Orc) (i : Nat) (op : Op) (e : ME) (E : Env) (st : Sto) : exS o (.aug (.v i) op e) E st = augG E[i]? op e o i E st := by rw [exS]; rfl
def augF (z : Option Val) (o : Orc) (b : ME) (k : Nat) (E : Env) (st : Sto) : SR := match z with | some (.dat z) => kNx (chgE o b (fun c => setFld c k z) E st) E | _ => .bad
theorem augF_some (z : D) (o : Orc) (b : ME) (k : Nat) (E : Env) (st : Sto) : augF (some (.dat z)) o b k E st = kNx (chgE o b (fun c => setFld c k z) E st) E := by rfl
def kAugF2 (r : ER Val) (op : Op) (y : Val) (o : Orc) (b : ME) (k : Nat) (E : Env) : SR := r.sr E fun x st1 => augF (binF op y.d x.d) o b k E st1
theorem kAugF2_ok (x : Val) (st1 : Sto) (op : Op) (y : Val) (o : Orc) (b : ME) (k : Nat) (E : Env) : kAugF2 (.ok x st1) op y o b k E = augF (binF op y.d x.d) o b k E st1 := by rfl
theorem kAugF2_ex (x : Exc) (st1 : Sto) (op : Op) (y : Val) (o : Orc) (b : ME) (k : Nat) (E : Env) : kAugF2 (.ex x st1) op y o b k E = .ex x E st1 := by rfl
def kAugF1 (r : ER Val) (op : Op) (e : ME) (o : Orc) (b : ME) (k : Nat) (E : Env) : SR := r.sr E fun x st1 => kAugF2 (evE o e E st1) op x o b k E
theorem kAugF1_ok (x : Val) (st1 : Sto) (op : Op) (e : ME) (o : Orc) (b : ME) (k : Nat) (E : Env) : kAugF1 (.ok x st1) op e o b k E = kAugF2 (evE o e E st1) op x o b k E := by rfl
theorem kAugF1_ex (x : Exc) (st1 : Sto) (op : Op) (e : ME) (o : Orc) (b : ME) (k : Nat) (E : Env) : kAugF1 (.ex x st1) op e o b k E = .ex x E st1 := by rfl
theorem fS_augf (o : Orc) (b : ME) (k : Nat) (op : Op) (e : ME) (E : Env) (st : Sto) : exS o (.aug (.fld b k) op e) E st = kAugF1 (evE o (.fld b k) E st) op e o b k E := by rw [exS]; rfl
def augS (z : Option Val) (o : Orc) (b : ME) (j : D) (E : Env) (st : Sto) : SR := match z with | some (.dat z) => kNx (chgE o b (fun c => setSub c j z) E st) E | _ => .bad
theorem augS_some (z : D) (o : Orc) (b : ME) (j : D) (E : Env) (st : Sto) : augS (some (.dat z)) o b j E st = kNx (chgE o b (fun c => setSub c j z) E st) E := by rfl
def kAugS3 (r : ER Val) (op : Op) (y : D) (o : Orc) (b : ME) (j : D) (E : Env) : SR := r.sr E fun x st1 => augS (binF op y x.d) o b j E st1
theorem kAugS3_ok (x : Val) (st1 : Sto) (op : Op) (y : D) (o : Orc) (b : ME) (j : D) (E : Env) : kAugS3 (.ok x st1) op y o b j E = augS (binF op y x.d) o b j E st1 := by rfl
theorem kAugS3_ex (x : Exc) (st1 : Sto) (op : Op) (y : D) (o : Orc) (b : ME) (j : D) (E : Env) : kAugS3 (.ex x st1) op y o b j E = .ex x E st1 := by rfl
def augS2 (j x : Option D) (op : Op) (e : ME) (o : Orc) (b : ME) (E : Env) (st : Sto) : SR := match j, x with | some jd, some x => kAugS3 (evE o e E st) op x o b jd E | _, _ => .bad
theorem augS2_some (j x : D) (op : Op) (e : ME) (o : Orc) (b : ME) (E : Env) (st : Sto) : augS2 (some j) (some x) op e o b E st = kAugS3 (evE o e E st) op x o b j E := by rfl
def kAugS2 (r : ER Val) (j : Val) (op : Op) (e : ME) (o : Orc) (b : ME) (E : Env) : SR := r.sr E fun x st1 => augS2 j.kp ((drf st1 x.d).bind (fun d => getF d j.d)) op e o b E st1
theorem kAugS2_ok (x : Val) (st1 : Sto) (j : Val) (op : Op) (e : ME) (o : Orc) (b : ME) (E : Env) : kAugS2 (.ok x st1) j op e o b E = augS2 j.kp ((drf st1 x.d).bind (fun d => getF d j.d)) op e o b E st1 := by rfl
theorem kAugS2_ex (x : Exc) (st1 : Sto) (j : Val) (op : Op) (e : ME) (o : Orc) (b : ME) (E : Env) : kAugS2 (.ex x st1) j op e o b E = .ex x E st1 := by rfl
def kAugS1 (r : ER Val) (op : Op) (e : ME) (o : Orc) (b : ME) (E : Env) : SR := r.sr E fun x st1 => kAugS2 (evE o b E st1) x op e o b E
theorem kAugS1_ok (x : Val) (st1 : Sto) (op : Op) (e : ME) (o : Orc) (b : ME) (E : Env) : kAugS1 (.ok x st1) op e o b E = kAugS2 (evE o b E st1) x op e o b E := by rfl
theorem kAugS1_ex (x : Exc) (st1 : Sto) (op : Op) (e : ME) (o : Orc) (b : ME) (E : Env) : kAugS1 (.ex x st1) op e o b E = .ex x E st1 := by rfl
theorem fS_augs (o : Orc) (b i : ME) (op : Op) (e : ME) (E : Env) (st : Sto) : exS o (.aug (.sub b i) op e) E st = kAugS1 (evE o i E st) op e o b E := by rw [exS]; rfl
def kExpr (r : ER Val) (E : Env) : SR := r.sr E fun x st1 => .nx E st1
theorem kExpr_ok (x : Val) (st1 : Sto) (E : Env) : kExpr (.ok x st1) E = .nx E st1 := by rfl
theorem kExpr_ex (x : Exc) (st1 : Sto) (E : Env) : kExpr (.ex x st1) E = .ex x E st1 := by rfl
theorem fS_expr (o : Orc) (e : ME) (E : Env) (st : Sto) : exS o (.expr e) E st = kExpr (evE o e E st) E := by rw [exS]; rfl
def apF (d : D) (c : D) : Option D := match c with | .lst xs => if xs.length < szMax then some (.lst (xs ++ [d])) else none | _ => none
def exF' (ds : List D) (c : D) : Option D := match c with | .lst xs => if xs.length + ds.length ≤ szMax then some (.lst (xs ++ ds)) else none | _ => none
def inF' (k : Int) (d : D) (c : D) : Option D := match c with | .lst xs => if xs.length < szMax ∧ 0 ≤ k ∧ k < 2 ^ 62 then some (.lst (xs.take (clampI xs.length k) ++ d :: xs.drop (clampI xs.length k))) else none | _ => none
theorem apF_l (d : D) (xs : List D) : apF d (.lst xs) = if xs.length < szMax then some (.lst (xs ++ [d])) else none := by rfl
theorem exF'_l (ds xs : List D) : exF' ds (.lst xs) = if xs.length + ds.length ≤ szMax then some (.lst (xs ++ ds)) else none := by rfl
theorem inF'_l (k : Int) (d : D) (xs : List D) : inF' k d (.lst xs) = if xs.length < szMax ∧ 0 ≤ k ∧ k < 2 ^ 62 then some (.lst (xs.take (clampI xs.length k) ++ d :: xs.drop (clampI xs.length k))) else none := by rfl
def appV (d : Option D) (o : Orc) (b : ME) (E : Env) (st : Sto) : SR := match d with | some d => kNx (chgE o b (apF d) E st) E | none => .bad
theorem appV_some (d : D) (o : Orc) (b : ME) (E : Env) (st : Sto) : appV (some d) o b E st = kNx (chgE o b (apF d) E st) E := by rfl
def kApp (r : ER Val) (o : Orc) (b : ME) (E : Env) : SR := r.sr E fun x st1 => appV x.kp o b E st1
theorem kApp_ok (x : Val) (st1 : Sto) (o : Orc) (b : ME) (E : Env) : kApp (.ok x st1) o b E = appV x.kp o b E st1 := by rfl
theorem kApp_ex (x : Exc) (st1 : Sto) (o : Orc) (b : ME) (E : Env) : kApp (.ex x st1) o b E = .ex x E st1 := by rfl
theorem fS_app (o : Orc) (b e : ME) (E : Env) (st : Sto) : exS o (.app b e) E st = if (!plcL b E st) = true then .bad else kApp (evE o e E st) o b E := by rw [exS]; rfl
def extV (d : Option (List D)) (o : Orc) (b : ME) (E : Env) (st : Sto) : SR := match d with | some d => kNx (chgE o b (exF' d) E st) E | none => .bad
theorem extV_some (d : List D) (o : Orc) (b : ME) (E : Env) (st : Sto) : extV (some d) o b E st = kNx (chgE o b (exF' d) E st) E := by rfl
def kExt (r : ER Val) (o : Orc) (b : ME) (E : Env) : SR := r.sr E fun x st1 => extV ((drf st1 x.d).bind seqOf) o b E st1
theorem kExt_ok (x : Val) (st1 : Sto) (o : Orc) (b : ME) (E : Env) : kExt (.ok x st1) o b E = extV ((drf st1 x.d).bind seqOf) o b E st1 := by rfl
theorem kExt_ex (x : Exc) (st1 : Sto) (o : Orc) (b : ME) (E : Env) : kExt (.ex x st1) o b E = .ex x E st1 := by rfl
theorem fS_ext (o : Orc) (b e : ME) (E : Env) (st : Sto) : exS o (.ext b e) E st = if (!plcL b E st) = true then .bad else kExt (evE o e E st) o b E := by rw [exS]; rfl
def insV (j : D) (d : Option D) (o : Orc) (b : ME) (E : Env) (st : Sto) : SR := match j, d with | .int k, some d => kNx (chgE o b (inF' k d) E st) E | _, _ => .bad
theorem insV_some (k : Int) (d : D) (o : Orc) (b : ME) (E : Env) (st : Sto) : insV (.int k) (some d) o b E st = kNx (chgE o b (inF' k d) E st) E := by rfl
def kIns2 (r : ER Val) (j : Val) (o : Orc) (b : ME) (E : Env) : SR := r.sr E fun x st1 => insV j.d x.kp o b E st1
theorem kIns2_ok (x : Val) (st1 : Sto) (j : Val) (o : Orc) (b : ME) (E : Env) : kIns2 (.ok x st1) j o b E = insV j.d x.kp o b E st1 := by rfl
theorem kIns2_ex (x : Exc) (st1 : Sto) (j : Val) (o : Orc) (b : ME) (E : Env) : kIns2 (.ex x st1) j o b E = .ex x E st1 := by rfl
def kIns1 (r : ER Val) (e : ME) (o : Orc) (b : ME) (E : Env) : SR := r.sr E fun x st1 => kIns2 (evE o e E st1) x o b E
theorem kIns1_ok (x : Val) (st1 : Sto) (e : ME) (o : Orc) (b : ME) (E : Env) : kIns1 (.ok x st1) e o b E = kIns2 (evE o e E st1) x o b E := by rfl
theorem kIns1_ex (x : Exc) (st1 : Sto) (e : ME) (o : Orc) (b : ME) (E : Env) : kIns1 (.ex x st1) e o b E = .ex x E st1 := by rfl
theorem fS_ins (o : Orc) (b i e : ME) (E : Env) (st : Sto) : exS o (.ins b i e) E st = if (!plcL b E st) = true then .bad else kIns1 (evE o i E st) e o b E := by rw [exS]; rfl
def kIte (r : ER Val) (o : Orc) (a b : List MS) (E : Env) : SR := r.sr E fun v st1 => ifV v (exB o a E st1) (exB o b E st1) .bad
theorem kIte_b (t : Bool) (st1 : Sto) (o : Orc) (a b : List MS) (E : Env) : kIte (.ok (.dat (.bl t)) st1) o a b E = if t = true then exB o a E st1 else exB o b E st1 := by rfl
theorem kIte_ex (x : Exc) (st1 : Sto) (o : Orc) (a b : List MS) (E : Env) : kIte (.ex x st1) o a b E = .ex x E st1 := by rfl
theorem fS_ite (o : Orc) (c : ME) (a b : List MS) (E : Env) (st : Sto) : exS o (.ite c a b) E st = kIte (evE o c E st) o a b E := by rw [exS]; rfl
def whlE (o : Orc) (c : ME) (b : List MS) (n : Nat) (E : Env) (st : Sto) : SR := whlL (fun E' st' => evE o c E' st') (fun E' st' => exB o b E' st') n E st
theorem fS_whl (o : Orc) (c : ME) (b : List MS) (E : Env) (st : Sto) : exS o (.whl c b) E st = whlE o c b whlMax E st := by rw [exS]; rfl
def forE (o : Orc) (p : Pat) (b : List MS) (ds : List D) (E : Env) (st : Sto) : SR := forL p (fun E' st' => exB o b E' st') ds E st
def kFr (r : ER (List D)) (o : Orc) (p : Pat) (b : List MS) (E : Env) : SR := r.sr E fun x st1 => forE o p b x E st1
theorem kFr_ok (x : (List D)) (st1 : Sto) (o : Orc) (p : Pat) (b : List MS) (E : Env) : kFr (.ok x st1) o p b E = forE o p b x E st1 := by rfl
theorem kFr_ex (x : Exc) (st1 : Sto) (o : Orc) (p : Pat) (b : List MS) (E : Env) : kFr (.ex x st1) o p b E = .ex x E st1 := by rfl
theorem fS_fr (o : Orc) (p : Pat) (it : MI) (b : List MS) (E : Env) (st : Sto) : exS o (.fr p it b) E st = kFr (evI o true it E st) o p b E := by rw [exS]; rfl
def retV (v : Val) (st : Sto) : SR := match v with | .xv _ _ => .bad | v => .rt v.out st
theorem retV_dat (d : D) (st : Sto) : retV (.dat d) st = .rt (.dat d) st := by rfl
theorem retV_new (d : D) (st : Sto) : retV (.new d) st = .rt (.new d) st := by rfl
theorem retV_bor (d : D) (st : Sto) : retV (.bor d) st = .rt (.new d) st := by rfl
def kRet (r : ER Val) (E : Env) : SR := r.sr E fun x st1 => retV x st1
theorem kRet_ok (x : Val) (st1 : Sto) (E : Env) : kRet (.ok x st1) E = retV x st1 := by rfl
theorem kRet_ex (x : Exc) (st1 : Sto) (E : Env) : kRet (.ex x st1) E = .ex x E st1 := by rfl
theorem fS_ret (o : Orc) (e : ME) (E : Env) (st : Sto) : exS o (.ret e) E st = kRet (evE o e E st) E := by rw [exS]; rfl
theorem fS_retN (o : Orc) (E : Env) (st : Sto) : exS o .retN E st = .rt (.dat .non) st := by rw [exS]
def raisV (fs : Option (List (Nat × D))) (c : Nat) (E : Env) (st : Sto) : SR := match fs with | some fs => .ex ⟨c, fs⟩ E st | none => .bad
theorem raisV_some (fs : List (Nat × D)) (c : Nat) (E : Env) (st : Sto) : raisV (some fs) c E st = .ex ⟨c, fs⟩ E st := by rfl
def kRais (r : ER (List Val)) (o : Orc) (c : Nat) (E : Env) : SR := r.sr E fun x st1 => raisV ((kpL x).bind (excF o c)) c E st1
theorem kRais_ok (x : (List Val)) (st1 : Sto) (o : Orc) (c : Nat) (E : Env) : kRais (.ok x st1) o c E = raisV ((kpL x).bind (excF o c)) c E st1 := by rfl
theorem kRais_ex (x : Exc) (st1 : Sto) (o : Orc) (c : Nat) (E : Env) : kRais (.ex x st1) o c E = .ex x E st1 := by rfl
theorem fS_rais (o : Orc) (c : Nat) (es : List ME) (E : Env) (st : Sto) : exS o (.rais c es) E st = if (!(o.sup c).contains c) = true then .bad else kRais (evL o es E st) o c E := by rw [exS]; rfl
def kTry (r : SR) (o : Orc) (hs : List (Nat × Option Nat × List MS)) : SR := r.try fun x E1 st1 => if (o.sup x.c).contains x.c then exH o x hs E1 st1 else .bad
theorem kTry_nx (E : Env) (st : Sto) (o : Orc) (hs : List (Nat × Option Nat × List MS)) : kTry (.nx E st) o hs = .nx E st := by rfl
theorem kTry_rt (v : Val) (st : Sto) (o : Orc) (hs : List (Nat × Option Nat × List MS)) : kTry (.rt v st) o hs = .rt v st := by rfl
theorem kTry_ex (c : Nat) (fs : List (Nat × D)) (E : Env) (st : Sto) (o : Orc) (hs : List (Nat × Option Nat × List MS)) : kTry (.ex ⟨c, fs⟩ E st) o hs = if (o.sup c).contains c = true then exH o ⟨c, fs⟩ hs E st else .bad := by rfl
theorem fS_tr (o : Orc) (b : List MS) (hs : List (Nat × Option Nat × List MS)) (E : Env) (st : Sto) : exS o (.tr b hs) E st = kTry (exB o b E st) o hs := by rw [exS]; rfl
theorem fH_nil (o : Orc) (x : Exc) (E : Env) (st : Sto) : exH o x [] E st = .ex x E st := by rw [exH]
theorem fH_n (o : Orc) (c : Nat) (fs : List (Nat × D)) (k : Nat) (h : List MS) (r : List (Nat × Option Nat × List MS)) (E : Env) (st : Sto) : exH o ⟨c, fs⟩ ((k, none, h) :: r) E st = if (o.sup c).contains k = true then (exB o h E st).nox else exH o ⟨c, fs⟩ r E st := by rw [exH]
theorem fH_s (o : Orc) (c : Nat) (fs : List (Nat × D)) (k i : Nat) (h : List MS) (r : List (Nat × Option Nat × List MS)) (E : Env) (st : Sto) : exH o ⟨c, fs⟩ ((k, some i, h) :: r) E st = if (o.sup c).contains k = true then (if i < E.length then (exB o h (E.set i (some (.xv c fs))) st).nox.del i else .bad) else exH o ⟨c, fs⟩ r E st := by rw [exH]
def kTryR (r : SR) (o : Orc) (c : Nat) (h : List MS) : SR := r.try fun x E1 st1 => if (o.sup x.c).contains c then (exB o h E1 st1).rer x else .ex x E1 st1
theorem kTryR_nx (E : Env) (st : Sto) (o : Orc) (c : Nat) (h : List MS) : kTryR (.nx E st) o c h = .nx E st := by rfl
theorem kTryR_rt (v : Val) (st : Sto) (o : Orc) (c : Nat) (h : List MS) : kTryR (.rt v st) o c h = .rt v st := by rfl
theorem kTryR_ex (k : Nat) (fs : List (Nat × D)) (E : Env) (st : Sto) (o : Orc) (c : Nat) (h : List MS) : kTryR (.ex ⟨k, fs⟩ E st) o c h = if (o.sup k).contains c = true then (exB o h E st).rer ⟨k, fs⟩ else .ex ⟨k, fs⟩ E st := by rfl
theorem fS_trR (o : Orc) (b : List MS) (c : Nat) (h : List MS) (E : Env) (st : Sto) : exS o (.trR b c h) E st = kTryR (exB o b E st) o c h := by rw [exS]; rfl
theorem fS_pass (o : Orc) (E : Env) (st : Sto) : exS o .pass E st = .nx E st := by rw [exS]
theorem fS_brk (o : Orc) (E : Env) (st : Sto) : exS o .brk E st = .bk E st := by rw [exS]
theorem fS_cont (o : Orc) (E : Env) (st : Sto) : exS o .cont E st = .ct E st := by rw [exS]
def frzV (x : Option (Option Val)) (i : Nat) (E : Env) (st : Sto) : SR := match x with | some (some (.new d)) => if d.isSet then .bad else .nx (E.set i (some (.dat d))) st | _ => .nx E st
theorem frzV_new (d : D) (i : Nat) (E : Env) (st : Sto) : frzV (some (some (.new d))) i E st = if d.isSet = true then .bad else .nx (E.set i (some (.dat d))) st := by rfl
theorem frzV_dat (d : D) (i : Nat) (E : Env) (st : Sto) : frzV (some (some (.dat d))) i E st = .nx E st := by rfl
theorem frzV_non (i : Nat) (E : Env) (st : Sto) : frzV (some none) i E st = .nx E st := by rfl
theorem fS_frz (o : Orc) (i : Nat) (E : Env) (st : Sto) : exS o (.frz i) E st = frzV E[i]? i E st := by rw [exS]; rfl
def popV2 (x : Option D) (xs : List D) (t i : Nat) (E : Env) (st : Sto) : SR := match x with
    | some (.lst ds) => if t < E.length then .nx ((E.set i (some (.new (.lst xs.dropLast)))).set t (some (.dat (.tup ds)))) st else .bad
    | _ => .bad
def popV1 (l : Option D) (xs : List D) (t i : Nat) (E : Env) (st : Sto) : SR := match l with | some (.ref n) => popV2 st[n]? xs t i E st | _ => .bad
def popV (x : Option (Option Val)) (t i : Nat) (E : Env) (st : Sto) : SR := match x with | some (some (.new (.lst xs))) => popV1 xs.getLast? xs t i E st | _ => .bad
theorem popV_new (xs : List D) (t i : Nat) (E : Env) (st : Sto) : popV (some (some (.new (.lst xs)))) t i E st = popV1 xs.getLast? xs t i E st := by rfl
theorem popV1_ref (n : Nat) (xs : List D) (t i : Nat) (E : Env) (st : Sto) : popV1 (some (.ref n)) xs t i E st = popV2 st[n]? xs t i E st := by rfl
theorem popV2_lst (ds xs : List D) (t i : Nat) (E : Env) (st : Sto) : popV2 (some (.lst ds)) xs t i E st = if t < E.length then .nx ((E.set i (some (.new (.lst xs.dropLast)))).set t (some (.dat (.tup ds)))) st else .bad := by rfl
theorem fS_popT (o : Orc) (t i : Nat) (E : Env) (st : Sto) : exS o (.popT t i) E st = popV E[i]? t i E st := by rw [exS]; rfl
def kB (r : SR) (o : Orc) (ss : List MS) : SR := r.seq fun E1 st1 => exB o ss E1 st1
theorem kB_nx (E : Env) (st : Sto) (o : Orc) (ss : List MS) : kB (.nx E st) o ss = exB o ss E st := by rfl
theorem kB_bk (E : Env) (st : Sto) (o : Orc) (ss : List MS) : kB (.bk E st) o ss = .bk E st := by rfl
theorem kB_ct (E : Env) (st : Sto) (o : Orc) (ss : List MS) : kB (.ct E st) o ss = .ct E st := by rfl
theorem kB_rt (v : Val) (st : Sto) (o : Orc) (ss : List MS) : kB (.rt v st) o ss = .rt v st := by rfl
theorem kB_ex (x : Exc) (E : Env) (st : Sto) (o : Orc) (ss : List MS) : kB (.ex x E st) o ss = .ex x E st := by rfl
theorem fB_nil (o : Orc) (E : Env) (st : Sto) : exB o [] E st = .nx E st := by rw [exB]
theorem fB_cons (o : Orc) (s : MS) (ss : List MS) (E : Env) (st : Sto) : exB o (s :: ss) E st = kB (exS o s E st) o ss := by rw [exB]; rfl
def plcV (x : Option (Option Val)) : Bool := match x with | some (some _) => true | _ => false
def plcW2 (x : Option D) : Bool := match x with | some (.lst _) => true | _ => false
def plcW (x : Option (Option Val)) (st : Sto) : Bool := match x with | some (some (.new (.lst _))) => true | some (some (.dat (.ref n))) => plcW2 st[n]? | _ => false
theorem plcV_some (v : Val) : plcV (some (some v)) = true := by rfl
theorem plcB_var (k : Nat) (E : Env) : plcB (.var k) E = plcV E[k]? := by rfl
theorem plcB_fld (a : ME) (k : Nat) (E : Env) : plcB (.fld a k) E = true := by rfl
theorem plcB_sub (a i : ME) (E : Env) : plcB (.sub a i) E = true := by rfl
theorem plcW_new (l : List D) (st : Sto) : plcW (some (some (.new (.lst l)))) st = true := by rfl
theorem plcW_ref (n : Nat) (st : Sto) : plcW (some (some (.dat (.ref n)))) st = plcW2 st[n]? := by rfl
theorem plcW2_lst (l : List D) : plcW2 (some (.lst l)) = true := by rfl
theorem plcL_var (k : Nat) (E : Env) (st : Sto) : plcL (.var k) E st = plcW E[k]? st := by rfl
theorem plcL_fld (a : ME) (k : Nat) (E : Env) (st : Sto) : plcL (.fld a k) E st = true := by rfl
theorem plcL_sub (a i : ME) (E : Env) (st : Sto) : plcL (.sub a i) E st = true := by rfl

theorem binF_add (a b : Int) : binF .add (.int a) (.int b) = some (.dat (.int (a + b))) := by rfl
theorem binF_sub (a b : Int) : binF .sub (.int a) (.int b) = some (.dat (.int (a - b))) := by rfl
theorem binF_mul {a b : Int} (h1 : big a = true) (h2 : big b = true) : binF .mul (.int a) (.int b) = some (.dat (.int (a * b))) := by
  show (if big a && big b then _ else none) = _
  rw [h1, h2]; rfl
theorem binF_fdiv {a b : Int} (h1 : 0 < b) (h2 : big b = true) : binF .fdiv (.int a) (.int b) = some (.dat (.int (a / b))) := by
  show (if 0 < b ∧ big b = true then _ else none) = _
  rw [if_pos ⟨h1, h2⟩]
theorem binF_mod {a b : Int} (h1 : 0 < b) : binF .mod (.int a) (.int b) = some (.dat (.int (a % b))) := by
  show (if 0 < b then _ else none) = _
  rw [if_pos h1]
theorem binF_pow {a b : Int} (h1 : 0 ≤ b ∧ b ≤ 1000 ∧ a.natAbs < 2 ^ 64) : binF .pow (.int a) (.int b) = some (.dat (.int (a ^ b.toNat))) := by
  show (if 0 ≤ b ∧ b ≤ 1000 ∧ a.natAbs < 2 ^ 64 then _ else none) = _
  rw [if_pos h1]
theorem binF_p18 : binF .pow (.int 10) (.int 18) = some (.dat (.int 1000000000000000000)) := by rfl
theorem binF_p9 : binF .pow (.int 10) (.int 9) = some (.dat (.int 1000000000)) := by rfl
theorem binF_adds {a b : List Nat} (h : a.length + b.length ≤ szMax) : binF .add (.str a) (.str b) = some (.dat (.str (a ++ b))) := by
  show (if a.length + b.length ≤ szMax then _ else none) = _
  rw [if_pos h]
theorem binF_addl {a b : List D} (h : a.length + b.length ≤ szMax) : binF .add (.lst a) (.lst b) = some (.new (.lst (a ++ b))) := by
  show (if a.length + b.length ≤ szMax then _ else none) = _
  rw [if_pos h]
theorem binF_addt {a b : List D} (h : a.length + b.length ≤ szMax) : binF .add (.tup a) (.tup b) = some (.dat (.tup (a ++ b))) := by
  show (if a.length + b.length ≤ szMax then _ else none) = _
  rw [if_pos h]
theorem cmpF_lt (a b : Int) : cmpF .lt (.int a) (.int b) = some (decide (a < b)) := by rfl
theorem cmpF_gt (a b : Int) : cmpF .gt (.int a) (.int b) = some (decide (b < a)) := by rfl
theorem cmpF_le (a b : Int) : cmpF .le (.int a) (.int b) = some (decide (a ≤ b)) := by rfl
theorem cmpF_ge (a b : Int) : cmpF .ge (.int a) (.int b) = some (decide (b ≤ a)) := by rfl
theorem cmpF_inl (a : D) (b : List D) : cmpF .isin a (.lst b) = memD a b := by cases a <;> rfl
theorem cmpF_int (a : D) (b : List D) : cmpF .isin a (.tup b) = memD a b := by cases a <;> rfl
theorem cmpF_nil (a : D) (b : List D) : cmpF .notin a (.lst b) = (memD a b).map not := by cases a <;> rfl
theorem cmpF_nit (a : D) (b : List D) : cmpF .notin a (.tup b) = (memD a b).map not := by cases a <;> rfl
theorem cmpF_ins (c : Nat) (b : List Nat) : cmpF .isin (.str [c]) (.str b) = some (b.contains c) := by rfl
theorem cmpF_nis (c : Nat) (b : List Nat) : cmpF .notin (.str [c]) (.str b) = some (!b.contains c) := by rfl
theorem eqT_ii (a b : Int) : eqT (.int a) (.int b) = some (decide (a = b)) := by rfl
theorem eqT_bb (a b : Bool) : eqT (.bl a) (.bl b) = some (decide (a = b)) := by cases a <;> cases b <;> rfl
theorem eqT_ss (a b : List Nat) : eqT (.str a) (.str b) = some (decide (a = b)) := by
  show some (a == b) = _
  congr 1; by_cases h : a = b <;> simp [h]
theorem eqT_eq (a b : D) : eqT a b = if pd a pdMax && pd b pdMax then some (eqD a b) else none := by rfl

theorem getF_l (xs : List D) (i : Int) : getF (.lst xs) (.int i) = getAt xs i := by rfl
theorem getF_t (xs : List D) (i : Int) : getF (.tup xs) (.int i) = getAt xs i := by rfl
theorem getF_scr (xs : List Int) (i : Int) : getF (.scr xs) (.int i) = (getAt xs i).map .int := by rfl
theorem getAt_nat {α : Type} {xs : List α} {k : Nat} (h : k < xs.length) : getAt xs (k : Int) = some xs[k] := by
  unfold getAt idxAt
  rw [if_pos (by omega), if_pos (by omega)]
  simp [h]
theorem getAt_pos {α : Type} {xs : List α} {i : Int} (h0 : 0 ≤ i) (h : i < xs.length) : getAt xs i = some (xs[i.toNat]'(by omega)) := by
  unfold getAt idxAt
  rw [if_pos h0, if_pos h]
  simp
theorem getAt_neg {α : Type} {xs : List α} {i : Int} (h0 : i < 0) (h : 0 ≤ i + xs.length) : getAt xs i = some (xs[(i + xs.length).toNat]'(by omega)) := by
  unfold getAt idxAt
  rw [if_neg (by omega), if_pos h]
  simp

theorem getAt_0 {α : Type} (x0 : α) (r : List α) : getAt (x0 :: r) (0 : Int) = some x0 := by
  unfold getAt idxAt; rw [if_pos (by decide), if_pos (by simp; try omega)]; rfl
theorem getAt_1 {α : Type} (x0 x1 : α) (r : List α) : getAt (x0 :: x1 :: r) (1 : Int) = some x1 := by
  unfold getAt idxAt; rw [if_pos (by decide), if_pos (by simp; try omega)]; rfl
theorem getAt_2 {α : Type} (x0 x1 x2 : α) (r : List α) : getAt (x0 :: x1 :: x2 :: r) (2 : Int) = some x2 := by
  unfold getAt idxAt; rw [if_pos (by decide), if_pos (by simp; try omega)]; rfl
theorem getAt_3 {α : Type} (x0 x1 x2 x3 : α) (r : List α) : getAt (x0 :: x1 :: x2 :: x3 :: r) (3 : Int) = some x3 := by
  unfold getAt idxAt; rw [if_pos (by decide), if_pos (by simp; try omega)]; rfl
theorem getAt_4 {α : Type} (x0 x1 x2 x3 x4 : α) (r : List α) : getAt (x0 :: x1 :: x2 :: x3 :: x4 :: r) (4 : Int) = some x4 := by
  unfold getAt idxAt; rw [if_pos (by decide), if_pos (by simp; try omega)]; rfl
theorem getAt_5 {α : Type} (x0 x1 x2 x3 x4 x5 : α) (r : List α) : getAt (x0 :: x1 :: x2 :: x3 :: x4 :: x5 :: r) (5 : Int) = some x5 := by
  unfold getAt idxAt; rw [if_pos (by decide), if_pos (by simp; try omega)]; rfl
theorem getAt_6 {α : Type} (x0 x1 x2 x3 x4 x5 x6 : α) (r : List α) : getAt (x0 :: x1 :: x2 :: x3 :: x4 :: x5 :: x6 :: r) (6 : Int) = some x6 := by
  unfold getAt idxAt; rw [if_pos (by decide), if_pos (by simp; try omega)]; rfl
theorem getAt_7 {α : Type} (x0 x1 x2 x3 x4 x5 x6 x7 : α) (r : List α) : getAt (x0 :: x1 :: x2 :: x3 :: x4 :: x5 :: x6 :: x7 :: r) (7 : Int) = some x7 := by
  unfold getAt idxAt; rw [if_pos (by decide), if_pos (by simp; try omega)]; rfl
theorem getAt_8 {α : Type} (x0 x1 x2 x3 x4 x5 x6 x7 x8 : α) (r : List α) : getAt (x0 :: x1 :: x2 :: x3 :: x4 :: x5 :: x6 :: x7 :: x8 :: r) (8 : Int) = some x8 := by
  unfold getAt idxAt; rw [if_pos (by decide), if_pos (by simp; try omega)]; rfl
theorem getAt_9 {α : Type} (x0 x1 x2 x3 x4 x5 x6 x7 x8 x9 : α) (r : List α) : getAt (x0 :: x1 :: x2 :: x3 :: x4 :: x5 :: x6 :: x7 :: x8 :: x9 :: r) (9 : Int) = some x9 := by
  unfold getAt idxAt; rw [if_pos (by decide), if_pos (by simp; try omega)]; rfl
theorem len_l (xs : List D) : bi1 .len (.lst xs) = some (.dat (.int xs.length)) := by rfl
theorem len_t (xs : List D) : bi1 .len (.tup xs) = some (.dat (.int xs.length)) := by rfl
theorem len_s (xs : List Nat) : bi1 .len (.str xs) = some (.dat (.int xs.length)) := by rfl
theorem len_scr (xs : List Int) : bi1 .len (.scr xs) = some (.dat (.int xs.length)) := by rfl
theorem len_d (xs : List (D × D)) : bi1 .len (.dct xs) = some (.dat (.int xs.length)) := by rfl
theorem abs_i (i : Int) : bi1 .abs (.int i) = some (.dat (.int i.natAbs)) := by rfl
theorem int_i (i : Int) : bi1 .int (.int i) = some (.dat (.int i)) := by rfl
theorem int_b (b : Bool) : bi1 .int (.bl b) = some (.dat (.int (if b = true then 1 else 0))) := by rfl
theorem tuple_l (xs : List D) : bi1 .tuple (.lst xs) = some (.dat (.tup xs)) := by rfl
theorem tuple_t (xs : List D) : bi1 .tuple (.tup xs) = some (.dat (.tup xs)) := by rfl
theorem minL_l (xs : List Int) : bi1 .minL (.lst (xs.map .int)) = (xs.min?).map fun i => .dat (.int i) := by
  have : ints? (xs.map .int) = some xs := by
    induction xs with
    | nil => rfl
    | cons a r ih => rw [List.map_cons, ints?, ih]; rfl
  show (match ints? (xs.map .int) with | some l => (l.min?).map fun i => Val.dat (.int i) | none => none) = _
  rw [this]
theorem maxL_l (xs : List Int) : bi1 .maxL (.lst (xs.map .int)) = (xs.max?).map fun i => .dat (.int i) := by
  have : ints? (xs.map .int) = some xs := by
    induction xs with
    | nil => rfl
    | cons a r ih => rw [List.map_cons, ints?, ih]; rfl
  show (match ints? (xs.map .int) with | some l => (l.max?).map fun i => Val.dat (.int i) | none => none) = _
  rw [this]
theorem sum_l (xs : List Int) : bi1 .sum (.lst (xs.map .int)) = some (.dat (.int xs.sum)) := by
  have : ints? (xs.map .int) = some xs := by
    induction xs with
    | nil => rfl
    | cons a r ih => rw [List.map_cons, ints?, ih]; rfl
  show (ints? (xs.map .int)).map _ = _
  rw [this]; rfl
theorem biF_one (b : BI) (d : D) : biF b [d] = bi1 b d := by cases b <;> simp [biF]
theorem min_2 (a b : Int) : biF .minA [.int a, .int b] = some (.dat (.int (min a b))) := by rfl
theorem max_2 (a b : Int) : biF .maxA [.int a, .int b] = some (.dat (.int (max a b))) := by rfl
theorem seq_l (xs : List D) : seqOf (.lst xs) = some xs := by rfl
theorem seq_t (xs : List D) : seqOf (.tup xs) = some xs := by rfl
theorem items_l (xs : List D) : itemsOf (.lst xs) = some xs := by rfl
theorem items_t (xs : List D) : itemsOf (.tup xs) = some xs := by rfl
theorem frz_n {E : Env} {i : Nat} {d : D} (h : E[i]? = some (some (.new d))) (h2 : d.isSet = false) (o : Orc) (st : Sto) : exS o (.frz i) E st = .nx (E.set i (some (.dat d))) st := by
  rw [exS, h]; simp [h2]
theorem slc_l (xs : List D) (lo hi : Option Int) : slcF (.lst xs) lo hi = some (.new (.lst (cut xs lo hi))) := by rfl
theorem slc_t (xs : List D) (lo hi : Option Int) : slcF (.tup xs) lo hi = some (.dat (.tup (cut xs lo hi))) := by rfl
theorem slc_s (xs : List Nat) (lo hi : Option Int) : slcF (.str xs) lo hi = some (.dat (.str (cut xs lo hi))) := by rfl
theorem cut_up {α : Type} (xs : List α) {j : Int} (h : 0 ≤ j) : cut xs none (some j) = xs.take j.toNat := by
  simp [cut, clampI, Int.not_lt.mpr h]
theorem cut_lo {α : Type} (xs : List α) {j : Int} (h : 0 ≤ j) : cut xs (some j) none = xs.drop j.toNat := by
  simp only [cut, clampI, Int.not_lt.mpr h, if_false, List.take_length]
  by_cases hh : j.toNat ≤ xs.length
  · rw [Nat.min_eq_left hh]
  · rw [Nat.min_eq_right (by omega), List.drop_eq_nil_of_le (Nat.le_refl _), List.drop_eq_nil_of_le (by omega)]

theorem ty_int_non (sup : Nat → List Nat)  : tyF sup .int .non = some false := by rfl
theorem ty_int_bl (sup : Nat → List Nat) (b : Bool) : tyF sup .int (.bl b) = some true := by rfl
theorem ty_int_int (sup : Nat → List Nat) (b : Int) : tyF sup .int (.int b) = some true := by rfl
theorem ty_int_str (sup : Nat → List Nat) (b : List Nat) : tyF sup .int (.str b) = some false := by rfl
theorem ty_int_tup (sup : Nat → List Nat) (b : List D) : tyF sup .int (.tup b) = some false := by rfl
theorem ty_int_lst (sup : Nat → List Nat) (b : List D) : tyF sup .int (.lst b) = some false := by rfl
theorem ty_int_dct (sup : Nat → List Nat) (b : List (D × D)) : tyF sup .int (.dct b) = some false := by rfl
theorem ty_bool_non (sup : Nat → List Nat)  : tyF sup .bool .non = some false := by rfl
theorem ty_bool_bl (sup : Nat → List Nat) (b : Bool) : tyF sup .bool (.bl b) = some true := by rfl
theorem ty_bool_int (sup : Nat → List Nat) (b : Int) : tyF sup .bool (.int b) = some false := by rfl
theorem ty_bool_str (sup : Nat → List Nat) (b : List Nat) : tyF sup .bool (.str b) = some false := by rfl
theorem ty_bool_tup (sup : Nat → List Nat) (b : List D) : tyF sup .bool (.tup b) = some false := by rfl
theorem ty_bool_lst (sup : Nat → List Nat) (b : List D) : tyF sup .bool (.lst b) = some false := by rfl
theorem ty_bool_dct (sup : Nat → List Nat) (b : List (D × D)) : tyF sup .bool (.dct b) = some false := by rfl
theorem ty_str_non (sup : Nat → List Nat)  : tyF sup .str .non = some false := by rfl
theorem ty_str_bl (sup : Nat → List Nat) (b : Bool) : tyF sup .str (.bl b) = some false := by rfl
theorem ty_str_int (sup : Nat → List Nat) (b : Int) : tyF sup .str (.int b) = some false := by rfl
theorem ty_str_str (sup : Nat → List Nat) (b : List Nat) : tyF sup .str (.str b) = some true := by rfl
theorem ty_str_tup (sup : Nat → List Nat) (b : List D) : tyF sup .str (.tup b) = some false := by rfl
theorem ty_str_lst (sup : Nat → List Nat) (b : List D) : tyF sup .str (.lst b) = some false := by rfl
theorem ty_str_dct (sup : Nat → List Nat) (b : List (D × D)) : tyF sup .str (.dct b) = some false := by rfl
theorem ty_list_non (sup : Nat → List Nat)  : tyF sup .list .non = some false := by rfl
theorem ty_list_bl (sup : Nat → List Nat) (b : Bool) : tyF sup .list (.bl b) = some false := by rfl
theorem ty_list_int (sup : Nat → List Nat) (b : Int) : tyF sup .list (.int b) = some false := by rfl
theorem ty_list_str (sup : Nat → List Nat) (b : List Nat) : tyF sup .list (.str b) = some false := by rfl
theorem ty_list_tup (sup : Nat → List Nat) (b : List D) : tyF sup .list (.tup b) = some false := by rfl
theorem ty_list_lst (sup : Nat → List Nat) (b : List D) : tyF sup .list (.lst b) = some true := by rfl
theorem ty_list_dct (sup : Nat → List Nat) (b : List (D × D)) : tyF sup .list (.dct b) = some false := by rfl
theorem ty_tuple_non (sup : Nat → List Nat)  : tyF sup .tuple .non = some false := by rfl
theorem ty_tuple_bl (sup : Nat → List Nat) (b : Bool) : tyF sup .tuple (.bl b) = some false := by rfl
theorem ty_tuple_int (sup : Nat → List Nat) (b : Int) : tyF sup .tuple (.int b) = some false := by rfl
theorem ty_tuple_str (sup : Nat → List Nat) (b : List Nat) : tyF sup .tuple (.str b) = some false := by rfl
theorem ty_tuple_tup (sup : Nat → List Nat) (b : List D) : tyF sup .tuple (.tup b) = some true := by rfl
theorem ty_tuple_lst (sup : Nat → List Nat) (b : List D) : tyF sup .tuple (.lst b) = some false := by rfl
theorem ty_tuple_dct (sup : Nat → List Nat) (b : List (D × D)) : tyF sup .tuple (.dct b) = some false := by rfl
theorem ty_dict_non (sup : Nat → List Nat)  : tyF sup .dict .non = some false := by rfl
theorem ty_dict_bl (sup : Nat → List Nat) (b : Bool) : tyF sup .dict (.bl b) = some false := by rfl
theorem ty_dict_int (sup : Nat → List Nat) (b : Int) : tyF sup .dict (.int b) = some false := by rfl
theorem ty_dict_str (sup : Nat → List Nat) (b : List Nat) : tyF sup .dict (.str b) = some false := by rfl
theorem ty_dict_tup (sup : Nat → List Nat) (b : List D) : tyF sup .dict (.tup b) = some false := by rfl
theorem ty_dict_lst (sup : Nat → List Nat) (b : List D) : tyF sup .dict (.lst b) = some false := by rfl
theorem ty_dict_dct (sup : Nat → List Nat) (b : List (D × D)) : tyF sup .dict (.dct b) = some true := by rfl
theorem tys_nil (sup : Nat → List Nat) (d : D) : tysF sup [] d = some false := by rfl
theorem tys_t {sup : Nat → List Nat} {t : Ty} {d : D} (h : tyF sup t d = some true) (r : List Ty) : tysF sup (t :: r) d = some true := by rw [tysF, h]
theorem tys_f {sup : Nat → List Nat} {t : Ty} {d : D} (h : tyF sup t d = some false) (r : List Ty) : tysF sup (t :: r) d = tysF sup r d := by rw [tysF, h]
theorem isi_dat (o : Nat → List Nat) (ts : List Ty) (st : Sto) (d : D) : isiV o ts st (.dat d) = (drf st d).bind fun d => tysF o ts d := by rfl
theorem isi_new (o : Nat → List Nat) (ts : List Ty) (st : Sto) (d : D) : isiV o ts st (.new d) = (drf st d).bind fun d => tysF o ts d := by rfl
theorem isi_bor (o : Nat → List Nat) (ts : List Ty) (st : Sto) (d : D) : isiV o ts st (.bor d) = (drf st d).bind fun d => tysF o ts d := by rfl
/-! calls -/
def SR.fin : SR → ER Val | .nx _ st => .ok (.dat .non) st | .rt v st => .ok v st | .ex x _ st => .ex x st | _ => .bad
theorem runF_eq (o : Orc) (b : List MS) (E : Env) (st : Sto) : runF o b E st = (exB o b E st).fin := by
  unfold runF SR.fin; cases exB o b E st <;> rfl
theorem fin_nx (E : Env) (st : Sto) : SR.fin (.nx E st) = .ok (.dat .non) st := by rfl
theorem fin_rt (v : Val) (st : Sto) : SR.fin (.rt v st) = .ok v st := by rfl
theorem fin_ex (x : Exc) (E : Env) (st : Sto) : SR.fin (.ex x E st) = .ex x st := by rfl
theorem trim_f (n : Nat) (r : ER Val) : trim false n r = r := by unfold trim; cases r <;> rfl
theorem callN_fn {p : Prog} {n f : Nat} {fd : FnD} {ds : List D} {st : Sto} {E : Env} (h : p.fns[f]? = some fd) (he : envOf fd (ds.map .dat) = some E) (ht : fd.tmp = false) :
    callN p (n + 1) false f ds st = (exB (O p n) fd.body E st).fin := by
  rw [callN, h]
  simp only [he, ht, trim_f, runF_eq]
theorem ocall (p : Prog) (n : Nat) : (O p n).call = callN p n false := by rfl
theorem omake (p : Prog) (n : Nat) : (O p n).make = callN p n true := by rfl
/-! lists made by a walk -/
def compG {α : Type} (g : α → Sto → ER (Option D)) : List α → Sto → List D → ER (List D)
  | [], st, acc => .ok acc.reverse st
  | x :: r, st, acc => (g x st).bind fun v st1 => match v with | some d => compG g r st1 (d :: acc) | none => compG g r st1 acc
theorem compG_congr {α : Type} {g g' : α → Sto → ER (Option D)} {xs xs' : List α} {acc : List D} (h2 : xs = xs') (h : ∀ x, x ∈ xs' → ∀ st, g x st = g' x st) (st : Sto) : compG g xs st acc = compG g' xs' st acc := by
  subst h2
  induction xs generalizing st acc with
  | nil => rfl
  | cons x r ih =>
    rw [compG, compG, h x List.mem_cons_self]
    have ih := fun acc st => @ih acc st (fun y hy => h y (List.mem_cons_of_mem _ hy))
    cases g' x st with
    | ok a st1 => simp only [bind_ok]; cases a <;> simp only [ih]
    | ex _ _ => rfl
    | bad => rfl
theorem compG_pure {α : Type} (g : α → Option D) (xs : List α) (st : Sto) (acc : List D) : compG (fun x st => .ok (g x) st) xs st acc = .ok (acc.reverse ++ xs.filterMap g) st := by
  induction xs generalizing acc with
  | nil => simp [compG]
  | cons x r ih =>
    rw [compG, bind_ok, List.filterMap_cons]
    cases g x with
    | none => exact ih acc
    | some d => simp only [ih]; simp
theorem compG_pure0 {α : Type} (g : α → Option D) (xs : List α) (st : Sto) : compG (fun x st => .ok (g x) st) xs st [] = .ok (xs.filterMap g) st := by rw [compG_pure]; rfl
theorem filterMap_some' {α : Type} (f : α → D) (xs : List α) : List.filterMap (fun x => some (f x)) xs = xs.map f := by
  induction xs with
  | nil => rfl
  | cons x r ih => rw [List.filterMap_cons]; simp [ih]
theorem filterMap_if' {α : Type} (f : α → D) (c : α → Prop) [DecidablePred c] (xs : List α) : List.filterMap (fun x => if c x then some (f x) else none) xs = (xs.filter fun x => decide (c x)).map f := by
  induction xs with
  | nil => rfl
  | cons x r ih =>
    rw [List.filterMap_cons, List.filter_cons]
    by_cases h : c x <;> simp [h, ih]
theorem ite_okc {c : Prop} [Decidable c] (a b : Option D) (st : Sto) : (if c then ER.ok a st else .ok b st) = .ok (if c then a else b) st := by split <;> rfl
theorem ite_okv {c : Prop} [Decidable c] (a b : Val) (st : Sto) : (if c then ER.ok a st else .ok b st) = .ok (if c then a else b) st := by split <;> rfl
theorem ite_int {c : Prop} [Decidable c] (a b : Int) : (if c then Val.dat (.int a) else .dat (.int b)) = .dat (.int (if c then a else b)) := by split <;> rfl
theorem ite_bl1 {c : Prop} [Decidable c] (b : Bool) : (if c then Val.dat (.bl b) else .dat (.bl false)) = .dat (.bl (decide c && b)) := by by_cases h : c <;> simp [h]
theorem ite_bl2 {c : Prop} [Decidable c] (b : Bool) : (if c then Val.dat (.bl true) else .dat (.bl b)) = .dat (.bl (decide c || b)) := by by_cases h : c <;> simp [h]
theorem cmp_map {α : Type} (ev cf : Env → Sto → ER Val) (p : Pat) (E : Env) (f : α → D) (xs : List α) (st : Sto) (acc : List D) :
    compL ev cf p E (xs.map f) st acc = compG (fun x st => match patF p (f x) E with
      | none => .bad
      | some E' => (cf E' st).nox.bind fun v st1 => ifV v ((ev E' st1).nox.bind fun v st2 => (ER.opt v.kp st2).bind fun r st3 => .ok (some r) st3) (.ok none st1) .bad) xs st acc := by
  induction xs generalizing st acc with
  | nil => rfl
  | cons x r ih =>
    rw [List.map_cons, compL, compG]
    cases patF p (f x) E with
    | none => rfl
    | some E' =>
      simp only
      cases (cf E' st).nox with
      | ex _ _ => rfl
      | bad => rfl
      | ok v st1 =>
        simp only [bind_ok]
        cases e : v with
        | new _ => rfl
        | bor _ => rfl
        | xv _ _ => rfl
        | dat d =>
        cases d with
        | bl b =>
          simp only [ifV_bl]
          split
          · cases (ev E' st1).nox with
            | ex _ _ => rfl
            | bad => rfl
            | ok v st2 =>
              simp only [bind_ok]
              cases v.kp with
              | none => rfl
              | some r => simp only [opt_some, bind_ok, ih]
          · simp only [bind_ok, ih]
        | _ => rfl
theorem fS_frE {o : Orc} {p : Pat} {it : MI} {b : List MS} {E : Env} {st : Sto} {ds : List D} {st1 : Sto} (h : evI o true it E st = .ok ds st1) : exS o (.fr p it b) E st = forE o p b ds E st1 := by rw [fS_fr, h, kFr_ok]
theorem cast_lit (n : Nat) : (Nat.cast (no_index (OfNat.ofNat n)) : Int) = OfNat.ofNat n := by rfl
theorem notdec (P : Prop) [Decidable P] : ((!decide P) = true) = ¬P := by simp
def optS (d : Option D) (st : Sto) : ER (Option D) := (ER.opt d st).bind fun r st3 => .ok (some r) st3
theorem optS_some (d : D) (st : Sto) : optS (some d) st = .ok (some d) st := by rfl
def kElt (r : ER Val) : ER (Option D) := r.nox.bind fun v st2 => (ER.opt v.kp st2).bind fun r st3 => .ok (some r) st3
theorem kElt_ok (v : Val) (st : Sto) : kElt (.ok v st) = optS v.kp st := by rfl
def kCnd (r : ER Val) (o : Orc) (e : ME) (E : Env) : ER (Option D) := r.nox.bind fun v st1 => ifV v (kElt (evE o e E st1)) (.ok none st1) .bad
theorem kCnd_b (b : Bool) (st : Sto) (o : Orc) (e : ME) (E : Env) : kCnd (.ok (.dat (.bl b)) st) o e E = if b = true then kElt (evE o e E st) else .ok none st := by rfl
def pC (r : Option Env) (o : Orc) (c e : ME) (st : Sto) : ER (Option D) := match r with | none => .bad | some E => kCnd (evE o c E st) o e E
theorem pC_some (o : Orc) (c e : ME) (E : Env) (st : Sto) : pC (some E) o c e st = kCnd (evE o c E st) o e E := by rfl
def pE (r : Option Env) (o : Orc) (e : ME) (st : Sto) : ER (Option D) := match r with | none => .bad | some E => kElt (evE o e E st)
theorem pE_some (o : Orc) (e : ME) (E : Env) (st : Sto) : pE (some E) o e st = kElt (evE o e E st) := by rfl
theorem compC_map {α : Type} (o : Orc) (e c : ME) (p : Pat) (E : Env) (f : α → D) (xs : List α) (st : Sto) :
    compC o e p c (xs.map f) E st = compG (fun x st => pC (patF p (f x) E) o c e st) xs st [] := by
  rw [compC, cmp_map]
  congr 1
theorem compE_map {α : Type} (o : Orc) (e : ME) (p : Pat) (E : Env) (f : α → D) (xs : List α) (st : Sto) :
    compE o e p (xs.map f) E st = compG (fun x st => pE (patF p (f x) E) o e st) xs st [] := by
  rw [compE, cmp_map]
  congr 1
/-- those items that fit, each turned -/
theorem compC_pure {α : Type} {o : Orc} {e c : ME} {p : Pat} {E : Env} {f : α → D} {xs : List α} (cf : α → Bool) (g : α → D)
    (h : ∀ x ∈ xs, ∃ E', patF p (f x) E = some E' ∧ (∀ st, evE o c E' st = .ok (.dat (.bl (cf x))) st) ∧ (cf x = true → ∀ st, ∃ v, evE o e E' st = .ok v st ∧ v.kp = some (g x))) (st : Sto) :
    compC o e p c (xs.map f) E st = .ok ((xs.filter cf).map g) st := by
  rw [compC_map, compG_congr (g' := fun x st => .ok (if cf x = true then some (g x) else none) st) rfl, compG_pure0]
  · congr 1
    rw [filterMap_if']; simp
  · intro x hx st
    obtain ⟨E', e1, e2, e3⟩ := h x hx
    rw [e1, pC_some, e2, kCnd_b]
    by_cases hc : cf x = true
    · obtain ⟨v, e4, e5⟩ := e3 hc st
      rw [if_pos hc, if_pos hc, e4, kElt_ok, e5, optS_some]
    · rw [if_neg hc, if_neg hc]
theorem compE_pure {α : Type} {o : Orc} {e : ME} {p : Pat} {E : Env} {f : α → D} {xs : List α} (g : α → D)
    (h : ∀ x ∈ xs, ∃ E', patF p (f x) E = some E' ∧ (∀ st, ∃ v, evE o e E' st = .ok v st ∧ v.kp = some (g x))) (st : Sto) :
    compE o e p (xs.map f) E st = .ok (xs.map g) st := by
  rw [compE_map, compG_congr (g' := fun x st => .ok (some (g x)) st) rfl, compG_pure0, filterMap_some']
  intro x hx st
  obtain ⟨E', e1, e2⟩ := h x hx
  obtain ⟨v, e4, e5⟩ := e2 st
  rw [e1, pE_some, e4, kElt_ok, e5, optS_some]
theorem patF_v (i : Nat) (d : D) (E : Env) : patF (.v i) d E = if i < E.length then some (E.set i (some (.dat d))) else none := by
  unfold patF; rw [patA]; simp only; rw [setL]; split <;> rfl
theorem patF_2 (i j : Nat) (a b : D) (E : Env) : patF (.t [.v i, .v j]) (.tup [a, b]) E = if i < E.length then (if j < E.length then some ((E.set i (some (.dat a))).set j (some (.dat b))) else none) else none := by
  unfold patF; simp only [patA, patAL, setL, List.append_nil, List.cons_append, List.nil_append, List.length_set]
theorem patF_3 (i j k : Nat) (a b c : D) (E : Env) : patF (.t [.v i, .v j, .v k]) (.tup [a, b, c]) E = if i < E.length then (if j < E.length then (if k < E.length then some (((E.set i (some (.dat a))).set j (some (.dat b))).set k (some (.dat c))) else none) else none) else none := by
  unfold patF; simp only [patA, patAL, setL, List.append_nil, List.cons_append, List.nil_append, List.length_set]
theorem range_ok {lo hi : Int} (h : (hi - lo).toNat ≤ szMax ∧ -(2 ^ 60) ≤ lo ∧ lo ≤ 2 ^ 60 ∧ -(2 ^ 60) ≤ hi ∧ hi ≤ 2 ^ 60) : rangeL lo hi = some ((List.range (hi - lo).toNat).map fun (k : Nat) => .int (lo + k)) := by
  unfold rangeL; rw [if_pos h]
/-- a list comprehension that draws -/
theorem compL_ex {α : Type} (I : Sto → Prop) (P : D → Prop) (ev cf : Env → Sto → ER Val) (p : Pat) (E : Env) (f : α → D) (xs : List α)
    (h : ∀ x ∈ xs, ∀ st, I st → ∃ E', patF p (f x) E = some E' ∧ cf E' st = .ok (.dat (.bl true)) st ∧ ∃ d st', ev E' st = .ok (.dat d) st' ∧ P d ∧ I st') :
    ∀ st acc, I st → ∃ ds st', compL ev cf p E (xs.map f) st acc = .ok (acc.reverse ++ ds) st' ∧ ds.length = xs.length ∧ (∀ d ∈ ds, P d) ∧ I st' := by
  induction xs with
  | nil => exact fun st acc hi => ⟨[], st, by simp [compL], rfl, by simp, hi⟩
  | cons x r ih =>
    intro st acc hi
    obtain ⟨E', e1, e2, d, st', e3, hp, hi'⟩ := h x List.mem_cons_self st hi
    obtain ⟨ds, st2, e4, hl, hq, hi2⟩ := ih (fun y hy => h y (List.mem_cons_of_mem _ hy)) st' (d :: acc) hi'
    refine ⟨d :: ds, st2, ?_, by simp [hl], by simpa using ⟨hp, hq⟩, hi2⟩
    rw [List.map_cons, compL, e1]
    simp only [e2, nox_ok, bind_ok, ifV_bl, if_true, e3, kp_dat, opt_some, e4]
    simp
/-- a list comprehension that draws, over all frames alike -/
theorem compL_exE {α : Type} (I : Sto → Prop) (P : D → Prop) (C : Env → Prop) (ev cf : Env → Sto → ER Val) (p : Pat) (f : α → D) (xs : List α)
    (h : ∀ x ∈ xs, ∀ st, I st → ∃ d st', P d ∧ I st' ∧ ∀ E, C E → ∃ E', patF p (f x) E = some E' ∧ cf E' st = .ok (.dat (.bl true)) st ∧ ev E' st = .ok (.dat d) st') :
    ∀ st, I st → ∃ ds st', ds.length = xs.length ∧ (∀ d ∈ ds, P d) ∧ I st' ∧ ∀ E, C E → ∀ acc, compL ev cf p E (xs.map f) st acc = .ok (acc.reverse ++ ds) st' := by
  induction xs with
  | nil => exact fun st hi => ⟨[], st, rfl, by simp, hi, fun E _ acc => by simp [compL]⟩
  | cons x r ih =>
    intro st hi
    obtain ⟨d, st', hp, hi', he⟩ := h x List.mem_cons_self st hi
    obtain ⟨ds, st2, hl, hq, hi2, he2⟩ := ih (fun y hy => h y (List.mem_cons_of_mem _ hy)) st' hi'
    refine ⟨d :: ds, st2, by simp [hl], by simpa using ⟨hp, hq⟩, hi2, fun E hE acc => ?_⟩
    obtain ⟨E', e1, e2, e3⟩ := he E hE
    rw [List.map_cons, compL, e1]
    simp only [e2, nox_ok, bind_ok, ifV_bl, if_true, e3, kp_dat, opt_some, he2 E hE]
    simp
theorem fE_lcE {o : Orc} {e : ME} {p : Pat} {it : MI} {E : Env} {st st1 st2 : Sto} {ds l : List D} (h1 : evI o false it E st = .ok ds st1)
    (h2 : compE o e p ds E st1 = .ok l st2) : evE o (.lc e p it) E st = .ok (.new (.lst l)) st2 := by
  rw [fE_lc, h1, kLc_ok, h2, kLsI_ok]
theorem fE_lcfE {o : Orc} {e c : ME} {p : Pat} {it : MI} {E : Env} {st st1 st2 : Sto} {ds l : List D} (h1 : evI o false it E st = .ok ds st1)
    (h2 : compC o e p c ds E st1 = .ok l st2) : evE o (.lcf e p it c) E st = .ok (.new (.lst l)) st2 := by
  rw [fE_lcf, h1, kLcf_ok, h2, kLsI_ok]
theorem maxL_f {α : Type} (f : α → Int) (xs : List α) : bi1 .maxL (.lst (xs.map fun x => .int (f x))) = ((xs.map f).max?).map fun i => .dat (.int i) := by
  rw [← maxL_l, List.map_map]; rfl
theorem minL_f {α : Type} (f : α → Int) (xs : List α) : bi1 .minL (.lst (xs.map fun x => .int (f x))) = ((xs.map f).min?).map fun i => .dat (.int i) := by
  rw [← minL_l, List.map_map]; rfl
theorem sum_f {α : Type} (f : α → Int) (xs : List α) : bi1 .sum (.lst (xs.map fun x => .int (f x))) = some (.dat (.int (xs.map f).sum)) := by
  rw [← sum_l, List.map_map]; rfl
theorem forE_nil (o : Orc) (p : Pat) (b : List MS) (E : Env) (st : Sto) : forE o p b [] E st = .nx E st := by rfl
theorem whlE_t {o : Orc} {c : ME} {b : List MS} {n : Nat} {E E2 : Env} {st st1 st2 : Sto} (h : evE o c E st = .ok (.dat (.bl true)) st1) (h2 : exB o b E st1 = .nx E2 st2) : whlE o c b (n + 1) E st = whlE o c b n E2 st2 := by
  rw [whlE, whlL, h]
  simp only [sr_ok, ifV_bl, if_true, h2, lp_nx]; rfl
theorem whlE_f {o : Orc} {c : ME} {b : List MS} {n : Nat} {E : Env} {st st1 : Sto} (h : evE o c E st = .ok (.dat (.bl false)) st1) : whlE o c b (n + 1) E st = .nx E st1 := by
  rw [whlE, whlL, h]
  simp only [sr_ok, ifV_bl, Bool.false_eq_true, if_false]
theorem forL_step {p : Pat} {b : Env → Sto → SR} {d : D} {ds : List D} {E E1 E2 : Env} {st st2 : Sto} (h1 : patF p d E = some E1) (h2 : b E1 st = .nx E2 st2) : forL p b (d :: ds) E st = forL p b ds E2 st2 := by
  rw [forL, h1]; simp only [h2, lp_nx]
theorem forL_stepc {p : Pat} {b : Env → Sto → SR} {d : D} {ds : List D} {E E1 E2 : Env} {st st2 : Sto} (h1 : patF p d E = some E1) (h2 : b E1 st = .ct E2 st2) : forL p b (d :: ds) E st = forL p b ds E2 st2 := by
  rw [forL, h1]; simp only [h2, lp_ct]
theorem forL_stop {p : Pat} {b : Env → Sto → SR} {d : D} {ds : List D} {E E1 : Env} {st st2 : Sto} {v : Val} (h1 : patF p d E = some E1) (h2 : b E1 st = .rt v st2) : forL p b (d :: ds) E st = .rt v st2 := by
  rw [forL, h1]; simp only [h2, lp_rt]
theorem forE_step {o : Orc} {p : Pat} {b : List MS} {d : D} {ds : List D} {E E1 E2 : Env} {st st2 : Sto} (h1 : patF p d E = some E1) (h2 : exB o b E1 st = .nx E2 st2) : forE o p b (d :: ds) E st = forE o p b ds E2 st2 := forL_step h1 h2
theorem forE_stepc {o : Orc} {p : Pat} {b : List MS} {d : D} {ds : List D} {E E1 E2 : Env} {st st2 : Sto} (h1 : patF p d E = some E1) (h2 : exB o b E1 st = .ct E2 st2) : forE o p b (d :: ds) E st = forE o p b ds E2 st2 := forL_stepc h1 h2
theorem forE_stop {o : Orc} {p : Pat} {b : List MS} {d : D} {ds : List D} {E E1 : Env} {st st2 : Sto} {v : Val} (h1 : patF p d E = some E1) (h2 : exB o b E1 st = .rt v st2) : forE o p b (d :: ds) E st = .rt v st2 := forL_stop h1 h2
theorem forE_rais {o : Orc} {p : Pat} {b : List MS} {d : D} {ds : List D} {E E1 E2 : Env} {st st2 : Sto} {x : Exc} (h1 : patF p d E = some E1) (h2 : exB o b E1 st = .ex x E2 st2) : forE o p b (d :: ds) E st = .ex x E2 st2 := by
  rw [forE, forL, h1]; simp only [h2, lp_ex]
theorem forE_brk {o : Orc} {p : Pat} {b : List MS} {d : D} {ds : List D} {E E1 E2 : Env} {st st2 : Sto} (h1 : patF p d E = some E1) (h2 : exB o b E1 st = .bk E2 st2) : forE o p b (d :: ds) E st = .nx E2 st2 := by
  rw [forE, forL, h1]; simp only [h2, lp_bk]
theorem forL_nil (p : Pat) (b : Env → Sto → SR) (E : Env) (st : Sto) : forL p b [] E st = .nx E st := by rfl
/-- a walk: what holds ahead and at each turn holds behind -/
theorem forL_inv {α : Type} (enc : α → D) (p : Pat) (b : Env → Sto → SR) (I : List α → Env → Sto → Prop) (xs : List α) (E : Env) (st : Sto) (h0 : I [] E st)
    (hs : ∀ pre x post E st, xs = pre ++ x :: post → I pre E st → ∃ E1, patF p (enc x) E = some E1 ∧ ∃ E2 st2, (b E1 st = .nx E2 st2 ∨ b E1 st = .ct E2 st2) ∧ I (pre ++ [x]) E2 st2) :
    ∃ E' st', forL p b (xs.map enc) E st = .nx E' st' ∧ I xs E' st' := by
  have key : ∀ (post pre : List α) (E : Env) (st : Sto), xs = pre ++ post → I pre E st → ∃ E' st', forL p b (post.map enc) E st = .nx E' st' ∧ I xs E' st' := by
    intro post
    induction post with
    | nil => exact fun pre E st e hi => ⟨E, st, rfl, by rw [e, List.append_nil]; exact hi⟩
    | cons x r ih =>
      intro pre E st e hi
      obtain ⟨E1, e1, E2, st2, e2, hi2⟩ := hs pre x r E st e hi
      obtain ⟨E', st', e3, hi3⟩ := ih (pre ++ [x]) E2 st2 (by rw [e, List.append_assoc]; rfl) hi2
      refine ⟨E', st', ?_, hi3⟩
      rw [List.map_cons, forL, e1]
      simp only
      rcases e2 with e2 | e2 <;> simp only [e2, lp_nx, lp_ct, e3]
  exact key xs [] E st rfl h0
/-- a walk over a range -/
theorem forL_rg (f : Nat → D) (p : Pat) (b : Env → Sto → SR) (I : Nat → Env → Sto → Prop) (n : Nat) (E : Env) (st : Sto) (h0 : I 0 E st)
    (hs : ∀ k, k < n → ∀ E st, I k E st → ∃ E1, patF p (f k) E = some E1 ∧ ∃ E2 st2, (b E1 st = .nx E2 st2 ∨ b E1 st = .ct E2 st2) ∧ I (k + 1) E2 st2) :
    ∃ E' st', forL p b ((List.range n).map f) E st = .nx E' st' ∧ I n E' st' := by
  obtain ⟨E', st', e, h⟩ := forL_inv f p b (fun pre => I pre.length) (List.range n) E st h0 (fun pre x post E st hx hi => by
    have hl : pre.length < n := by have := congrArg List.length hx; simp at this; omega
    have hk : x = pre.length := by
      have := congrArg (fun l => l[pre.length]?) hx
      simp [List.getElem?_range hl] at this
      exact this.symm
    subst hk
    obtain ⟨E1, e1, E2, st2, e2, hi2⟩ := hs _ hl E st hi
    exact ⟨E1, e1, E2, st2, e2, by simpa using hi2⟩)
  exact ⟨E', st', e, by simpa using h⟩
theorem forE_rg (f : Nat → D) (o : Orc) (p : Pat) (b : List MS) (I : Nat → Env → Sto → Prop) (n : Nat) (E : Env) (st : Sto) (h0 : I 0 E st)
    (hs : ∀ k, k < n → ∀ E st, I k E st → ∃ E1, patF p (f k) E = some E1 ∧ ∃ E2 st2, (exB o b E1 st = .nx E2 st2 ∨ exB o b E1 st = .ct E2 st2) ∧ I (k + 1) E2 st2) :
    ∃ E' st', forE o p b ((List.range n).map f) E st = .nx E' st' ∧ I n E' st' := forL_rg f p _ I n E st h0 hs
end Mp

end
section
set_option Elab.async false
set_option maxRecDepth 100000
set_option linter.all false
set_option backward.isDefEq.respectTransparency.types false
set_option maxRecDepth 100000
namespace Mp
local macro_rules
| `(tactic| simp! $c:optConfig only [$as,*]) => `(tactic| simp $c:optConfig only [eq_self, vget_dat, vget_new, vget_xv, fE_non, fE_bl, fE_int, fE_str, fE_fnv, fE_con, fE_var, kBin2_ok, kBin2_ex, kBin1_ok, kBin1_ex, fE_bin, kNeg_ok, fE_neg, kNot_ok, kNot_ex, cmpV_eq, cmpV_ne, cmpV_lt, cmpV_le, cmpV_gt, cmpV_ge, cmpV_isin, cmpV_notin, kCmp2_ok, kCmp2_ex, kCmp1_ok, kCmp1_ex, fE_cmp, kChn3_ok, kChn3_ex, chnB_b, kChn2_ok, kChn2_ex, kChn1_ok, kChn1_ex, fE_chn, kIsN_ok, kIsN_ex, kNotN_ok, kNotN_ex, fE_isN, fE_notN, kNeR2_ok, kNeR2_ex, kNeR1_ok, kNeR1_ex, fE_neR, kAnd_b, kAnd_ex, fAnd_1, fAnd_2, kOr_b, kOr_ex, fOr_1, fOr_2, fE_and, fE_or, fE_not, kIfe_b, kIfe_ex, fE_ife, kL2_ok, kL2_ex, kL1_ok, kL1_ex, fL_nil, fL_cons, kTup_ok, kTup_ex, kLst_ok, kLst_ex, fE_tup, fE_lst, dctV_some, kDct2_ok, kDct2_ex, kDct1_ok, kDct1_ex, fE_dct, kFld_ok, kFld_ex, fE_fld, kSub2_ok, kSub2_ex, kSub1_ok, kSub1_ex, fE_sub, kslU2_ok, kslU1_ok, kslU1_ex, fE_slU, kslL2_ok, kslL1_ok, kslL1_ex, fE_slL, kslB3_ok, kslB2_ok, kslB1_ok, kslB1_ex, fE_slB, kRev_ok, kRev_ex, fE_rev, callV_some, kCall_ok, kCall_ex, fE_call, calvV_some, kCalv_ok, kCalv_ex, fE_calv, methV2_some, methV_some, kMeth2_ok, kMeth2_ex, kMeth1_ok, kMeth1_ex, fE_meth, makeV_some, kMake_ok, kMake_ex, fE_make, kXfl_ok, kXfl_ex, fE_xfl, kBi_ok, kBi_ex, fE_bi, lenV2_some, lenV_some, kLenO_ok, kLenO_ex, fE_lenO, kIsi_ok, kIsi_ex, fE_isi, kLsI_ok, kLsI_ex, fE_lsI, kLc_ok, kLc_ex, kLcf_ok, kLcf_ex, fE_lc, fE_lcf, kFs_ok, kFs_ex, fE_fs, kCell_ok, fE_cell, srt1V_some, kSrt2_ok, kSrt1_ok, kSrt1_ex, fE_srtk, kIx_ok, kIx_ex, fI_ex, kRg1_ok, fI_rg1, krg2b_ok, krg2a_ok, krg2a_ex, fI_rg2, krgdb_ok, krgda_ok, krgda_ex, fI_rgd, kEnum_ok, kEnum_ex, fI_enum, zipV_some, kZip2_ok, kZip2_ex, kZip1_ok, kZip1_ex, fI_zip, itemsV_some, kitems_ok, kitems_ex, fI_items, valsV_some, kvals_ok, kvals_ex, fI_vals, putV_dat, putV_new, fT_v, chgV_new, chgV_ref, chgV2_some, chgR2_some, chgE_var, kChg_ok, chgE_fld, chgE_sub, tgFld_some, fT_fld, tgS3_some, kTgS_ok, kTgS_ex, tgS1_some, fT_sub, tgTV_some, fT_t, kTgL_ok, kTgL_ex, fTL_nil, fTL_cons, kNx_ok, kNx_ex, kAsg_ok, kAsg_ex, fS_asg, kPar_ok, kPar_ex, fS_par, augV_some, kAugV_ok, kAugV_ex, augG_dat, fS_augv, augF_some, kAugF2_ok, kAugF2_ex, kAugF1_ok, kAugF1_ex, fS_augf, augS_some, kAugS3_ok, kAugS3_ex, augS2_some, kAugS2_ok, kAugS2_ex, kAugS1_ok, kAugS1_ex, fS_augs, kExpr_ok, kExpr_ex, fS_expr, apF_l, exF'_l, inF'_l, appV_some, kApp_ok, kApp_ex, fS_app, extV_some, kExt_ok, kExt_ex, fS_ext, insV_some, kIns2_ok, kIns2_ex, kIns1_ok, kIns1_ex, fS_ins, kIte_b, kIte_ex, fS_ite, fS_whl, kFr_ok, kFr_ex, fS_fr, retV_dat, retV_new, retV_bor, kRet_ok, kRet_ex, fS_ret, fS_retN, raisV_some, kRais_ok, kRais_ex, fS_rais, kTry_nx, kTry_rt, kTry_ex, fS_tr, fH_nil, fH_n, fH_s, kTryR_nx, kTryR_rt, kTryR_ex, fS_trR, fS_pass, fS_brk, fS_cont, frzV_new, frzV_dat, frzV_non, fS_frz, popV_new, popV1_ref, popV2_lst, fS_popT, kB_nx, kB_bk, kB_ct, kB_rt, kB_ex, fB_nil, fB_cons, plcV_some, plcB_var, plcB_fld, plcB_sub, plcW_new, plcW_ref, plcW2_lst, plcL_var, plcL_fld, plcL_sub, opt_some, nox_ok, snox_nx, snox_rt, snox_ct, snox_bk, del_nx, del_rt, rer_nx, ifV_bl, vd_dat, vd_new, vd_bor, kp_dat, kp_lst, kp_dct, kp_obj, out_dat, out_new, out_bor, it_dat, it_bor, it_newF, it_newT, kpL_nil, kpL_cons, kpC_some, drf_int, drf_bl, drf_non, drf_str, drf_tup, drf_lst, drf_dct, drf_obj, drf_scr, drf_ref, biV_cons, notV_bl, binF_add, binF_sub, binF_mul, binF_fdiv, binF_mod, binF_p18, binF_p9, binF_adds, binF_addl, binF_addt, cmpF_lt, cmpF_gt, cmpF_le, cmpF_ge, eqT_ii, eqT_bb, eqT_ss, eqC, getF_l, getF_t, getF_scr, getAt_0, getAt_1, getAt_2, getAt_3, getAt_4, getAt_5, getAt_6, getAt_7, getAt_8, len_l, len_t, len_s, len_scr, len_d, abs_i, int_i, int_b, tuple_l, tuple_t, biF_one, min_2, max_2, seq_l, seq_t, items_l, items_t, tys_nil, tys_t, tys_f, isi_dat, isi_new, isi_bor, fin_nx, fin_rt, fin_ex, ocall, omake, patF_v, patF_2, patF_3, D.isNon, D.isSet, big_of, bl, slc_l, slc_t, slc_s, ty_int_non, ty_int_bl, ty_int_int, ty_int_str, ty_int_tup, ty_int_lst, ty_int_dct, ty_bool_non, ty_bool_bl, ty_bool_int, ty_bool_str, ty_bool_tup, ty_bool_lst, ty_bool_dct, ty_str_non, ty_str_bl, ty_str_int, ty_str_str, ty_str_tup, ty_str_lst, ty_str_dct, ty_list_non, ty_list_bl, ty_list_int, ty_list_str, ty_list_tup, ty_list_lst, ty_list_dct, ty_tuple_non, ty_tuple_bl, ty_tuple_int, ty_tuple_str, ty_tuple_tup, ty_tuple_lst, ty_tuple_dct, ty_dict_non, ty_dict_bl, ty_dict_int, ty_dict_str, ty_dict_tup, ty_dict_lst, ty_dict_dct, List.getElem?_cons_zero, List.getElem?_cons_succ, List.set_cons_zero, List.set_cons_succ, List.length_cons, List.length_nil, List.length_map, List.length_set, Option.map_some, Option.map_none, Option.bind_some, Option.bind_none, Bool.false_eq_true, if_true, if_false, ↓reduceIte, decide_true, decide_false, decide_eq_true_eq, Bool.not_true, Bool.not_false, Bool.true_and, Bool.and_true, Bool.false_and, Bool.and_false, Bool.true_or, Bool.or_true, Bool.false_or, Bool.or_false, and_true, true_and, and_self, Int.zero_lt_one, Nat.reduceLeDiff, Nat.reduceAdd, Nat.reduceSub, Nat.reduceMul, Nat.reduceEqDiff, Nat.reduceLT, cast_lit, Int.reduceLE, Int.reduceLT, Int.reduceAdd, Int.reduceSub, Int.reduceMul, Int.reduceNeg, Int.reduceEq, Int.reduceNe, Int.reduceToNat, Int.reduceNegSucc, Int.reduceGT, Int.reduceGE, ite_okv, ite_bl1, ite_bl2, gt_iff_lt, ge_iff_le, notdec, ite_okc, filterMap_if', filterMap_some', compG_pure0, compC_map, compE_map, kElt_ok, optS_some, kCnd_b, pC_some, pE_some, forE_nil, maxL_f, minL_f, sum_f, List.nil_append, $as,*])
/-! V1: defs that stand in every law -/
def g_taken : List MS :=
  [(.ite (.cmp .gt (.sub (.var 0) (.int 3)) (.int 0))
   [(.asg (.v 3) (.bin .mod (.bi .int [(.sub (.var 0) (.int 3))]) (.var 1))),
    (.asg (.sub (.var 0) (.int 3)) (.bin .fdiv (.sub (.var 0) (.int 3)) (.var 1))),
    (.ret (.var 3))]
   []),
  (.asg (.sub (.var 0) (.int 1)) (.bin .add (.sub (.var 0) (.int 1)) (.int 1))),
  (.ite (.cmp .gt (.sub (.var 0) (.int 1)) (.bi .len [(.sub (.var 0) (.int 0))]))
   [(.asg (.sub (.var 0) (.int 2)) (.bin .mod (.bi .int [(.bin .add (.bin .mul (.sub (.var 0) (.int 2)) (.int 48271)) (.int 11))]) (.int 2147483647))),
    (.ret (.bin .mod (.bi .int [(.bin .fdiv (.sub (.var 0) (.int 2)) (.int 7))]) (.var 1)))]
   []),
  (.asg (.v 2) (.sub (.sub (.var 0) (.int 0)) (.bin .sub (.sub (.var 0) (.int 1)) (.int 1)))),
  (.asg (.sub (.var 0) (.int 2)) (.bin .mod (.bi .int [(.bin .add (.bin .add (.bin .mul (.sub (.var 0) (.int 2)) (.int 48271)) (.var 2)) (.int 11))]) (.int 2147483647))),
  (.ite (.cmp .ge (.var 2) (.bin .pow (.int 10) (.int 18)))
   [(.asg (.sub (.var 0) (.int 3)) (.bin .fdiv (.var 2) (.var 1)))]
   []),
  (.ret (.bin .mod (.bi .int [(.var 2)]) (.var 1)))]
/-- the drawing row's state -/
def RowOk (ns : List Int) (d : D) : Prop := ∃ i m g : Int, d = .lst [.scr ns, .int i, .int m, .int g] ∧ 0 ≤ i ∧ 0 ≤ m ∧ m < 2147483647
theorem RowOk.start (ns : List Int) (s : Int) (h : 0 ≤ s) (h2 : s < 2147483647) : RowOk ns (.lst [.scr ns, .int 0, .int s, .int 0]) := ⟨0, s, 0, rfl, Int.le_refl 0, h, h2⟩
theorem setAt_0 {a b c d x : D} : setSub (.lst [a, b, c, d]) (.int 0) x = some (.lst [x, b, c, d]) := by rfl
theorem setAt_1 {a b c d x : D} : setSub (.lst [a, b, c, d]) (.int 1) x = some (.lst [a, x, c, d]) := by rfl
theorem setAt_2 {a b c d x : D} : setSub (.lst [a, b, c, d]) (.int 2) x = some (.lst [a, b, x, d]) := by rfl
theorem setAt_3 {a b c d x : D} : setSub (.lst [a, b, c, d]) (.int 3) x = some (.lst [a, b, c, x]) := by rfl
theorem getElem?_set_self' {α : Type} {l : List α} {i : Nat} {a b : α} (h : l[i]? = some a) : (l.set i b)[i]? = some b := by
  rw [List.getElem?_set_self']; rw [h]; rfl
theorem taken {p : Prog} {f n : Nat} (hf : p.fns[f]? = some { np := 2, nv := 4, df := [], tmp := false, body := g_taken }) {ns : List Int} {r : Nat} {d : D} {many : Int} {st : Sto} (hr : st[r]? = some d) (hd : RowOk ns d)
    (h0 : 0 < many) (h1 : many < 10 ^ 30) : ∃ v d', callN p (n + 1) false f [.ref r, .int many] st = .ok (.dat (.int v)) (st.set r d') ∧ 0 ≤ v ∧ v < many ∧ RowOk ns d' := by
  obtain ⟨i, m, g, rfl, hi, hm0, hm1⟩ := hd
  have hbm : big many = true := big_int (by omega) (by omega)
  have hbw : big m = true := big_int (by omega) (by omega)
  rw [callN_fn (E := [some (.dat (.ref r)), some (.dat (.int many)), none, none]) hf rfl rfl]
  have hg := @getElem?_set_self'
  by_cases hg0 : 0 < g
  · refine ⟨g % many, _, ?_, Int.emod_nonneg g (by omega), Int.emod_lt_of_pos g h0, i, m, g / many, rfl, hi, hm0, hm1⟩
    simp! only [g_taken, hr, hg0, h0, hbm, setAt_3]
  by_cases hl : (ns.length : Int) < i + 1
  · have e1 := Int.emod_nonneg (m * 48271 + 11) (show (2147483647 : Int) ≠ 0 by decide)
    have e2 := Int.emod_lt_of_pos (m * 48271 + 11) (show (0 : Int) < 2147483647 by decide)
    refine ⟨(m * 48271 + 11) % 2147483647 / 7 % many, _, ?_, Int.emod_nonneg _ (by omega), Int.emod_lt_of_pos _ h0, i + 1, (m * 48271 + 11) % 2147483647, g, rfl, by omega, e1, e2⟩
    simp! only [g_taken, hr, hg0, h0, hbm, hbw, hl, setAt_1, setAt_2, hg hr, List.set_set]
  · have hget : getAt ns i = some (ns[i.toNat]'(by omega)) := getAt_pos hi (by omega)
    generalize ns[i.toNat]'(by omega) = cell at hget
    have e1 := Int.emod_nonneg (m * 48271 + cell + 11) (show (2147483647 : Int) ≠ 0 by decide)
    have e2 := Int.emod_lt_of_pos (m * 48271 + cell + 11) (show (0 : Int) < 2147483647 by decide)
    have hi1 : i + 1 - 1 = i := by omega
    by_cases hc : (1000000000000000000 : Int) ≤ cell
    · refine ⟨cell % many, _, ?_, Int.emod_nonneg _ (by omega), Int.emod_lt_of_pos _ h0, i + 1, (m * 48271 + cell + 11) % 2147483647, cell / many, rfl, by omega, e1, e2⟩
      simp! only [g_taken, hr, hg0, h0, hbm, hbw, hl, setAt_1, setAt_2, setAt_3, hg hr, List.set_set, hget, hi1, hc]
    · refine ⟨cell % many, _, ?_, Int.emod_nonneg _ (by omega), Int.emod_lt_of_pos _ h0, i + 1, (m * 48271 + cell + 11) % 2147483647, g, rfl, by omega, e1, e2⟩
      simp! only [g_taken, hr, hg0, h0, hbm, hbw, hl, setAt_1, setAt_2, setAt_3, hg hr, List.set_set, hget, hi1, hc]
/-! alike -/
def g_alike (f : Nat) : List MS :=
  [(.ite (.isi (.var 1) [.tuple, .list])
   [(.ite (.or [(.not (.isi (.var 0) [.tuple, .list])), (.cmp .ne (.isi (.var 0) [.list]) (.isi (.var 1) [.list]))])
     [(.ret (.bl false))]
     []),
    (.ite (.cmp .ne (.bi .len [(.var 0)]) (.bi .len [(.var 1)]))
     [(.ret (.bl false))]
     []),
    (.ret (.cmp .eq (.lcf (.var 2) (.v 2) (.rg1 (.bi .len [(.var 1)])) (.not (.call f [(.sub (.var 0) (.var 2)), (.sub (.var 1) (.var 2))]))) (.lst [])))]
   []),
  (.ite (.or [(.isN (.var 1)), (.isi (.var 1) [.str])])
   [(.ret (.and [(.cmp .eq (.var 0) (.var 1)), (.cmp .eq (.isi (.var 0) [.str]) (.isi (.var 1) [.str]))]))]
   []),
  (.ret (.and [(.isi (.var 0) [.int]), (.cmp .eq (.isi (.var 0) [.bool]) (.isi (.var 1) [.bool])), (.cmp .eq (.var 0) (.var 1))]))]
/-- data that _law_alike looks at, so deep at most -/
def alk : Nat → D → Prop
  | _, .non => True
  | _, .bl _ => True
  | _, .int _ => True
  | _, .str _ => True
  | n + 1, .tup xs => xs.length ≤ szMax ∧ ∀ x ∈ xs, alk n x
  | n + 1, .lst xs => xs.length ≤ szMax ∧ ∀ x ∈ xs, alk n x
  | _, _ => False
def allk (n : Nat) (xs : List D) : Prop := ∀ x ∈ xs, alk n x
theorem alk_non (n : Nat) : alk n .non = True := by cases n <;> rfl
theorem alk_bl (n : Nat) (b : Bool) : alk n (.bl b) = True := by cases n <;> rfl
theorem alk_int (n : Nat) (i : Int) : alk n (.int i) = True := by cases n <;> rfl
theorem alk_str (n : Nat) (s : List Nat) : alk n (.str s) = True := by cases n <;> rfl
theorem alk_tup (n : Nat) (xs : List D) : alk (n + 1) (.tup xs) = (xs.length ≤ szMax ∧ allk n xs) := by rfl
theorem alk_lst (n : Nat) (xs : List D) : alk (n + 1) (.lst xs) = (xs.length ≤ szMax ∧ allk n xs) := by rfl
theorem allk_nil (n : Nat) : allk n [] = True := by simp [allk]
theorem allk_cons (n : Nat) (x : D) (r : List D) : allk n (x :: r) = (alk n x ∧ allk n r) := by simp [allk]
theorem allk_map {α : Type} (n : Nat) (f : α → D) (r : List α) : allk n (r.map f) = ∀ x ∈ r, alk n (f x) := by simp [allk]
theorem sz_le {n : Nat} (h : n ≤ 5000000) : (n ≤ szMax) = True := by simp [szMax, h]
theorem filterMap_none' {α : Type} (xs : List α) : List.filterMap (fun _ => (none : Option D)) xs = [] := by simp
theorem eqT_nn : eqT .non .non = some true := by rfl
theorem eqT_ll : eqT (.lst []) (.lst []) = some true := by rfl
theorem szMax_le : ((szMax : Nat) : Int) ≤ 2 ^ 60 := by decide
theorem range0_ok {n : Nat} (h : n ≤ szMax) : rangeL 0 (n : Int) = some ((List.range n).map fun (k : Nat) => .int (k : Int)) := by
  have h2 : (n : Int) ≤ 2 ^ 60 := by have := szMax_le; omega
  rw [range_ok ⟨by omega, by decide, by decide, by omega, h2⟩]
  simp
theorem alike {p : Prog} {f : Nat} (hf : p.fns[f]? = some { np := 2, nv := 3, df := [], tmp := false, body := g_alike f }) : ∀ (n : Nat) (d : D) (st : Sto), alk n d → callN p (n + 1) false f [d, d] st = .ok (.dat (.bl true)) st := by
  intro n
  induction n with
  | zero =>
    intro d st h
    rw [callN_fn (E := [some (.dat d), some (.dat d), none]) hf rfl rfl]
    cases d with
    | non => simp! only [g_alike, eqT_nn]
    | bl b => simp! only [g_alike]
    | int i => simp! only [g_alike]
    | str s => simp! only [g_alike]
    | _ => exact (h : False).elim
  | succ n ih =>
    intro d st h
    rw [callN_fn (E := [some (.dat d), some (.dat d), none]) hf rfl rfl]
    cases d with
    | non => simp! only [g_alike, eqT_nn]
    | bl b => simp! only [g_alike]
    | int i => simp! only [g_alike]
    | str s => simp! only [g_alike]
    | tup xs =>
      have e : ∀ x ∈ List.range xs.length, getAt xs (x : Int) = some (xs.getD x .non) := fun x hx => by
        have hx := List.mem_range.mp hx
        rw [getAt_nat hx]; simp [hx]
      have e2 : ∀ x ∈ List.range xs.length, ∀ st, callN p (n + 1) false f [xs.getD x .non, xs.getD x .non] st = .ok (.dat (.bl true)) st := fun x hx st => by
        have hx := List.mem_range.mp hx
        refine ih _ st (h.2 _ ?_)
        simp [hx]
      have e3 : ∀ st, evE (O p (n + 1)) (.lcf (.var 2) (.v 2) (.rg1 (.bi .len [(.var 1)])) (.not (.call f [(.sub (.var 0) (.var 2)), (.sub (.var 1) (.var 2))]))) [some (.dat (.tup xs)), some (.dat (.tup xs)), none] st = .ok (.new (.lst [])) st := fun st => by
        refine fE_lcfE (ds := (List.range xs.length).map fun (k : Nat) => .int (k : Int)) (st1 := st) (by simp! only [range0_ok h.1]) ?_
        rw [compC_pure (fun _ => false) (fun (k : Nat) => D.int k) (fun x hx => ⟨_, by simp! only []; rfl, fun st => by simp! only [e x hx, e2 x hx], fun h => nomatch h⟩) st]
        simp
      simp! only [g_alike, range0_ok h.1, ↓e3, eqT_ll]
    | lst xs =>
      have e : ∀ x ∈ List.range xs.length, getAt xs (x : Int) = some (xs.getD x .non) := fun x hx => by
        have hx := List.mem_range.mp hx
        rw [getAt_nat hx]; simp [hx]
      have e2 : ∀ x ∈ List.range xs.length, ∀ st, callN p (n + 1) false f [xs.getD x .non, xs.getD x .non] st = .ok (.dat (.bl true)) st := fun x hx st => by
        have hx := List.mem_range.mp hx
        refine ih _ st (h.2 _ ?_)
        simp [hx]
      have e3 : ∀ st, evE (O p (n + 1)) (.lcf (.var 2) (.v 2) (.rg1 (.bi .len [(.var 1)])) (.not (.call f [(.sub (.var 0) (.var 2)), (.sub (.var 1) (.var 2))]))) [some (.dat (.lst xs)), some (.dat (.lst xs)), none] st = .ok (.new (.lst [])) st := fun st => by
        refine fE_lcfE (ds := (List.range xs.length).map fun (k : Nat) => .int (k : Int)) (st1 := st) (by simp! only [range0_ok h.1]) ?_
        rw [compC_pure (fun _ => false) (fun (k : Nat) => D.int k) (fun x hx => ⟨_, by simp! only []; rfl, fun st => by simp! only [e x hx, e2 x hx], fun h => nomatch h⟩) st]
        simp
      simp! only [g_alike, range0_ok h.1, ↓e3, eqT_ll]
    | _ => exact (h : False).elim
end Mp

end
section
set_option Elab.async false
set_option maxRecDepth 100000
set_option linter.all false
set_option backward.isDefEq.respectTransparency.types false
set_option maxRecDepth 100000
namespace Pk10
open Mp
theorem u_is_whole (n : Nat) (x0 : D) (st : Sto) : callN prog (n+1) false 0 [x0] st = (exB (O prog n) b_is_whole [some (.dat x0)] st).fin := callN_fn (fd := { np := 1, nv := 1, df := [], tmp := false, body := b_is_whole }) rfl rfl rfl
theorem u_is_row (n : Nat) (x0 : D) (st : Sto) : callN prog (n+1) false 1 [x0] st = (exB (O prog n) b_is_row [some (.dat x0)] st).fin := callN_fn (fd := { np := 1, nv := 1, df := [], tmp := false, body := b_is_row }) rfl rfl rfl
theorem u_reduced (n : Nat) (x0 x1 : D) (st : Sto) : callN prog (n+1) false 2 [x0, x1] st = (exB (O prog n) b_reduced [some (.dat x0), some (.dat x1), none, none] st).fin := callN_fn (fd := { np := 2, nv := 4, df := [], tmp := false, body := b_reduced }) rfl rfl rfl
theorem u_is_fraction (n : Nat) (x0 : D) (st : Sto) : callN prog (n+1) false 3 [x0] st = (exB (O prog n) b_is_fraction [some (.dat x0)] st).fin := callN_fn (fd := { np := 1, nv := 1, df := [], tmp := false, body := b_is_fraction }) rfl rfl rfl
theorem u_want_fraction (n : Nat) (x0 : D) (st : Sto) : callN prog (n+1) false 4 [x0] st = (exB (O prog n) b_want_fraction [some (.dat x0)] st).fin := callN_fn (fd := { np := 1, nv := 1, df := [], tmp := false, body := b_want_fraction }) rfl rfl rfl
theorem u_plus (n : Nat) (x0 x1 : D) (st : Sto) : callN prog (n+1) false 5 [x0, x1] st = (exB (O prog n) b_plus [some (.dat x0), some (.dat x1)] st).fin := callN_fn (fd := { np := 2, nv := 2, df := [], tmp := false, body := b_plus }) rfl rfl rfl
theorem u_minus (n : Nat) (x0 x1 : D) (st : Sto) : callN prog (n+1) false 6 [x0, x1] st = (exB (O prog n) b_minus [some (.dat x0), some (.dat x1)] st).fin := callN_fn (fd := { np := 2, nv := 2, df := [], tmp := false, body := b_minus }) rfl rfl rfl
theorem u_times (n : Nat) (x0 x1 : D) (st : Sto) : callN prog (n+1) false 7 [x0, x1] st = (exB (O prog n) b_times [some (.dat x0), some (.dat x1)] st).fin := callN_fn (fd := { np := 2, nv := 2, df := [], tmp := false, body := b_times }) rfl rfl rfl
theorem u_over (n : Nat) (x0 x1 : D) (st : Sto) : callN prog (n+1) false 8 [x0, x1] st = (exB (O prog n) b_over [some (.dat x0), some (.dat x1)] st).fin := callN_fn (fd := { np := 2, nv := 2, df := [], tmp := false, body := b_over }) rfl rfl rfl
theorem u_is_less (n : Nat) (x0 x1 : D) (st : Sto) : callN prog (n+1) false 9 [x0, x1] st = (exB (O prog n) b_is_less [some (.dat x0), some (.dat x1)] st).fin := callN_fn (fd := { np := 2, nv := 2, df := [], tmp := false, body := b_is_less }) rfl rfl rfl
theorem u_floor_of (n : Nat) (x0 : D) (st : Sto) : callN prog (n+1) false 10 [x0] st = (exB (O prog n) b_floor_of [some (.dat x0)] st).fin := callN_fn (fd := { np := 1, nv := 1, df := [], tmp := false, body := b_floor_of }) rfl rfl rfl
theorem u_ceiling_of (n : Nat) (x0 : D) (st : Sto) : callN prog (n+1) false 11 [x0] st = (exB (O prog n) b_ceiling_of [some (.dat x0)] st).fin := callN_fn (fd := { np := 1, nv := 1, df := [], tmp := false, body := b_ceiling_of }) rfl rfl rfl
theorem u_nearest (n : Nat) (x0 : D) (st : Sto) : callN prog (n+1) false 12 [x0] st = (exB (O prog n) b_nearest [some (.dat x0)] st).fin := callN_fn (fd := { np := 1, nv := 1, df := [], tmp := false, body := b_nearest }) rfl rfl rfl
theorem u_total (n : Nat) (x0 : D) (st : Sto) : callN prog (n+1) false 13 [x0] st = (exB (O prog n) b_total [some (.dat x0), none, none] st).fin := callN_fn (fd := { np := 1, nv := 3, df := [], tmp := false, body := b_total }) rfl rfl rfl
theorem u_median (n : Nat) (x0 : D) (st : Sto) : callN prog (n+1) false 14 [x0] st = (exB (O prog n) b_median [some (.dat x0), none, none, none, none, none, none] st).fin := callN_fn (fd := { np := 1, nv := 7, df := [], tmp := false, body := b_median }) rfl rfl rfl
theorem u__law_taken (n : Nat) (x0 x1 : D) (st : Sto) : callN prog (n+1) false 15 [x0, x1] st = (exB (O prog n) b__law_taken [some (.dat x0), some (.dat x1), none, none] st).fin := callN_fn (fd := { np := 2, nv := 4, df := [], tmp := false, body := b__law_taken }) rfl rfl rfl
theorem u__law_alike (n : Nat) (x0 x1 : D) (st : Sto) : callN prog (n+1) false 16 [x0, x1] st = (exB (O prog n) b__law_alike [some (.dat x0), some (.dat x1), none] st).fin := callN_fn (fd := { np := 2, nv := 3, df := [], tmp := false, body := b__law_alike }) rfl rfl rfl
theorem u__law_truth (n : Nat) (x0 x1 : D) (st : Sto) : callN prog (n+1) false 17 [x0, x1] st = (exB (O prog n) b__law_truth [some (.dat x0), some (.dat x1)] st).fin := callN_fn (fd := { np := 2, nv := 2, df := [], tmp := false, body := b__law_truth }) rfl rfl rfl
theorem u__law_low (n : Nat) (x0 x1 : D) (st : Sto) : callN prog (n+1) false 18 [x0, x1] st = (exB (O prog n) b__law_low [some (.dat x0), some (.dat x1), none, none] st).fin := callN_fn (fd := { np := 2, nv := 4, df := [], tmp := false, body := b__law_low }) rfl rfl rfl
theorem u_law (n : Nat) (x0 : D) (st : Sto) : callN prog (n+1) false 19 [x0] st = (exB (O prog n) b_law [some (.dat x0), none, none, none, none, none, none, none, none, none, none, none, none, none, none, none, none, none, none] st).fin := callN_fn (fd := { np := 1, nv := 19, df := [], tmp := false, body := b_law }) rfl rfl rfl
end Pk10

namespace Pk10
open Mp
local macro_rules
| `(tactic| simp! $c:optConfig only [$as,*]) => `(tactic| simp $c:optConfig only [eq_self, vget_dat, vget_new, vget_xv, fE_non, fE_bl, fE_int, fE_str, fE_fnv, fE_con, fE_var, kBin2_ok, kBin2_ex, kBin1_ok, kBin1_ex, fE_bin, kNeg_ok, fE_neg, kNot_ok, kNot_ex, cmpV_eq, cmpV_ne, cmpV_lt, cmpV_le, cmpV_gt, cmpV_ge, cmpV_isin, cmpV_notin, kCmp2_ok, kCmp2_ex, kCmp1_ok, kCmp1_ex, fE_cmp, kChn3_ok, kChn3_ex, chnB_b, kChn2_ok, kChn2_ex, kChn1_ok, kChn1_ex, fE_chn, kIsN_ok, kIsN_ex, kNotN_ok, kNotN_ex, fE_isN, fE_notN, kNeR2_ok, kNeR2_ex, kNeR1_ok, kNeR1_ex, fE_neR, kAnd_b, kAnd_ex, fAnd_1, fAnd_2, kOr_b, kOr_ex, fOr_1, fOr_2, fE_and, fE_or, fE_not, kIfe_b, kIfe_ex, fE_ife, kL2_ok, kL2_ex, kL1_ok, kL1_ex, fL_nil, fL_cons, kTup_ok, kTup_ex, kLst_ok, kLst_ex, fE_tup, fE_lst, dctV_some, kDct2_ok, kDct2_ex, kDct1_ok, kDct1_ex, fE_dct, kFld_ok, kFld_ex, fE_fld, kSub2_ok, kSub2_ex, kSub1_ok, kSub1_ex, fE_sub, kslU2_ok, kslU1_ok, kslU1_ex, fE_slU, kslL2_ok, kslL1_ok, kslL1_ex, fE_slL, kslB3_ok, kslB2_ok, kslB1_ok, kslB1_ex, fE_slB, kRev_ok, kRev_ex, fE_rev, callV_some, kCall_ok, kCall_ex, fE_call, calvV_some, kCalv_ok, kCalv_ex, fE_calv, methV2_some, methV_some, kMeth2_ok, kMeth2_ex, kMeth1_ok, kMeth1_ex, fE_meth, makeV_some, kMake_ok, kMake_ex, fE_make, kXfl_ok, kXfl_ex, fE_xfl, kBi_ok, kBi_ex, fE_bi, lenV2_some, lenV_some, kLenO_ok, kLenO_ex, fE_lenO, kIsi_ok, kIsi_ex, fE_isi, kLsI_ok, kLsI_ex, fE_lsI, kLc_ok, kLc_ex, kLcf_ok, kLcf_ex, fE_lc, fE_lcf, kFs_ok, kFs_ex, fE_fs, kCell_ok, fE_cell, srt1V_some, kSrt2_ok, kSrt1_ok, kSrt1_ex, fE_srtk, kIx_ok, kIx_ex, fI_ex, kRg1_ok, fI_rg1, krg2b_ok, krg2a_ok, krg2a_ex, fI_rg2, krgdb_ok, krgda_ok, krgda_ex, fI_rgd, kEnum_ok, kEnum_ex, fI_enum, zipV_some, kZip2_ok, kZip2_ex, kZip1_ok, kZip1_ex, fI_zip, itemsV_some, kitems_ok, kitems_ex, fI_items, valsV_some, kvals_ok, kvals_ex, fI_vals, putV_dat, putV_new, fT_v, chgV_new, chgV_ref, chgV2_some, chgR2_some, chgE_var, kChg_ok, chgE_fld, chgE_sub, tgFld_some, fT_fld, tgS3_some, kTgS_ok, kTgS_ex, tgS1_some, fT_sub, tgTV_some, fT_t, kTgL_ok, kTgL_ex, fTL_nil, fTL_cons, kNx_ok, kNx_ex, kAsg_ok, kAsg_ex, fS_asg, kPar_ok, kPar_ex, fS_par, augV_some, kAugV_ok, kAugV_ex, augG_dat, fS_augv, augF_some, kAugF2_ok, kAugF2_ex, kAugF1_ok, kAugF1_ex, fS_augf, augS_some, kAugS3_ok, kAugS3_ex, augS2_some, kAugS2_ok, kAugS2_ex, kAugS1_ok, kAugS1_ex, fS_augs, kExpr_ok, kExpr_ex, fS_expr, apF_l, exF'_l, inF'_l, appV_some, kApp_ok, kApp_ex, fS_app, extV_some, kExt_ok, kExt_ex, fS_ext, insV_some, kIns2_ok, kIns2_ex, kIns1_ok, kIns1_ex, fS_ins, kIte_b, kIte_ex, fS_ite, fS_whl, kFr_ok, kFr_ex, fS_fr, retV_dat, retV_new, retV_bor, kRet_ok, kRet_ex, fS_ret, fS_retN, raisV_some, kRais_ok, kRais_ex, fS_rais, kTry_nx, kTry_rt, kTry_ex, fS_tr, fH_nil, fH_n, fH_s, kTryR_nx, kTryR_rt, kTryR_ex, fS_trR, fS_pass, fS_brk, fS_cont, frzV_new, frzV_dat, frzV_non, fS_frz, popV_new, popV1_ref, popV2_lst, fS_popT, kB_nx, kB_bk, kB_ct, kB_rt, kB_ex, fB_nil, fB_cons, plcV_some, plcB_var, plcB_fld, plcB_sub, plcW_new, plcW_ref, plcW2_lst, plcL_var, plcL_fld, plcL_sub, opt_some, nox_ok, snox_nx, snox_rt, snox_ct, snox_bk, del_nx, del_rt, rer_nx, ifV_bl, vd_dat, vd_new, vd_bor, kp_dat, kp_lst, kp_dct, kp_obj, out_dat, out_new, out_bor, it_dat, it_bor, it_newF, it_newT, kpL_nil, kpL_cons, kpC_some, drf_int, drf_bl, drf_non, drf_str, drf_tup, drf_lst, drf_dct, drf_obj, drf_scr, drf_ref, biV_cons, notV_bl, binF_add, binF_sub, binF_mul, binF_fdiv, binF_mod, binF_p18, binF_p9, binF_adds, binF_addl, binF_addt, cmpF_lt, cmpF_gt, cmpF_le, cmpF_ge, eqT_ii, eqT_bb, eqT_ss, eqC, getF_l, getF_t, getF_scr, getAt_0, getAt_1, getAt_2, getAt_3, getAt_4, getAt_5, getAt_6, getAt_7, getAt_8, len_l, len_t, len_s, len_scr, len_d, abs_i, int_i, int_b, tuple_l, tuple_t, biF_one, min_2, max_2, seq_l, seq_t, items_l, items_t, tys_nil, tys_t, tys_f, isi_dat, isi_new, isi_bor, fin_nx, fin_rt, fin_ex, ocall, omake, patF_v, patF_2, patF_3, D.isNon, D.isSet, big_of, bl, slc_l, slc_t, slc_s, ty_int_non, ty_int_bl, ty_int_int, ty_int_str, ty_int_tup, ty_int_lst, ty_int_dct, ty_bool_non, ty_bool_bl, ty_bool_int, ty_bool_str, ty_bool_tup, ty_bool_lst, ty_bool_dct, ty_str_non, ty_str_bl, ty_str_int, ty_str_str, ty_str_tup, ty_str_lst, ty_str_dct, ty_list_non, ty_list_bl, ty_list_int, ty_list_str, ty_list_tup, ty_list_lst, ty_list_dct, ty_tuple_non, ty_tuple_bl, ty_tuple_int, ty_tuple_str, ty_tuple_tup, ty_tuple_lst, ty_tuple_dct, ty_dict_non, ty_dict_bl, ty_dict_int, ty_dict_str, ty_dict_tup, ty_dict_lst, ty_dict_dct, List.getElem?_cons_zero, List.getElem?_cons_succ, List.set_cons_zero, List.set_cons_succ, List.length_cons, List.length_nil, List.length_map, List.length_set, Option.map_some, Option.map_none, Option.bind_some, Option.bind_none, Bool.false_eq_true, if_true, if_false, ↓reduceIte, decide_true, decide_false, decide_eq_true_eq, Bool.not_true, Bool.not_false, Bool.true_and, Bool.and_true, Bool.false_and, Bool.and_false, Bool.true_or, Bool.or_true, Bool.false_or, Bool.or_false, and_true, true_and, and_self, Int.zero_lt_one, Nat.reduceLeDiff, Nat.reduceAdd, Nat.reduceSub, Nat.reduceMul, Nat.reduceEqDiff, Nat.reduceLT, cast_lit, Int.reduceLE, Int.reduceLT, Int.reduceAdd, Int.reduceSub, Int.reduceMul, Int.reduceNeg, Int.reduceEq, Int.reduceNe, Int.reduceToNat, Int.reduceNegSucc, Int.reduceGT, Int.reduceGE, ite_okv, ite_bl1, ite_bl2, gt_iff_lt, ge_iff_le, notdec, ite_okc, filterMap_if', filterMap_some', compG_pure0, compC_map, compE_map, kElt_ok, optS_some, kCnd_b, pC_some, pE_some, forE_nil, maxL_f, minL_f, sum_f, List.nil_append, $as,*])
def fr (a b : Int) : D := .tup [.int a, .int b]
theorem gcd_mod (x y : Int) : Int.gcd y (x % y) = Int.gcd x y := by
  rw [Int.emod_def, Int.gcd_sub_mul_left_right, Int.gcd_comm]
/-- the loop of Euclid -/
theorem gcd_loop (o : Orc) (A B : Option Val) (st : Sto) : ∀ (k : Nat) (x y : Int) (m : Nat), 0 ≤ x → 0 ≤ y → y < 2 ^ k → 2 * k + 1 ≤ m →
    whlE o (.cmp .gt (.var 3) (.int 0)) [(.par [(.v 2), (.v 3)] [(.var 3), (.bin .mod (.var 2) (.var 3))])] m [A, B, some (.dat (.int x)), some (.dat (.int y))] st
      = .nx [A, B, some (.dat (.int (Int.gcd x y))), some (.dat (.int 0))] st := by
  have one : ∀ (x y : Int) (m : Nat), 0 < y → whlE o (.cmp .gt (.var 3) (.int 0)) [(.par [(.v 2), (.v 3)] [(.var 3), (.bin .mod (.var 2) (.var 3))])] (m + 1) [A, B, some (.dat (.int x)), some (.dat (.int y))] st =
      whlE o (.cmp .gt (.var 3) (.int 0)) [(.par [(.v 2), (.v 3)] [(.var 3), (.bin .mod (.var 2) (.var 3))])] m [A, B, some (.dat (.int y)), some (.dat (.int (x % y)))] st := by
    intro x y m hy
    exact whlE_t (st1 := st) (by simp! only [hy]) (by simp! only [hy])
  have zero : ∀ (x : Int) (m : Nat), 0 ≤ x → 0 < m → whlE o (.cmp .gt (.var 3) (.int 0)) [(.par [(.v 2), (.v 3)] [(.var 3), (.bin .mod (.var 2) (.var 3))])] m [A, B, some (.dat (.int x)), some (.dat (.int 0))] st
      = .nx [A, B, some (.dat (.int (Int.gcd x 0))), some (.dat (.int 0))] st := by
    intro x m hx hm
    obtain ⟨m, rfl⟩ := Nat.exists_eq_succ_of_ne_zero (Nat.pos_iff_ne_zero.mp hm)
    have : (Int.gcd x 0 : Int) = x := by rw [Int.gcd_zero_right]; omega
    rw [this]
    exact whlE_f (by simp! only [Int.lt_irrefl])
  intro k
  induction k with
  | zero =>
    intro x y m hx hy hlt hm
    have : y = 0 := by simp at hlt; omega
    subst this
    exact zero x m hx (by omega)
  | succ k ih =>
    intro x y m hx hy hlt hm
    by_cases h0 : y = 0
    · subst h0; exact zero x m hx (by omega)
    obtain ⟨m, rfl⟩ : ∃ j, m = j + 1 := ⟨m - 1, by omega⟩
    rw [one x y m (by omega)]
    have hr := Int.emod_nonneg x h0
    have hr2 := Int.emod_lt_of_pos x (show 0 < y by omega)
    by_cases h1 : x % y = 0
    · rw [h1, zero y m (by omega) (by omega)]
      rw [← gcd_mod x y, h1]
    obtain ⟨m, rfl⟩ : ∃ j, m = j + 1 := ⟨m - 1, by omega⟩
    rw [one y (x % y) m (by omega)]
    have hs := Int.emod_nonneg y h1
    have hs2 := Int.emod_lt_of_pos y (show 0 < x % y by omega)
    have h3 : 2 * (y % (x % y)) < y := by
      have e := Int.mul_ediv_add_emod y (x % y)
      have hq : 1 ≤ y / (x % y) := Int.le_ediv_of_mul_le (by omega) (by omega)
      have : (x % y) * 1 ≤ (x % y) * (y / (x % y)) := Int.mul_le_mul_of_nonneg_left hq hr
      omega
    rw [ih (x % y) (y % (x % y)) m (by omega) hs (by rw [Int.pow_succ] at hlt; omega) (by omega), gcd_mod, gcd_mod]
/-- a fraction in lowest terms -/
def nm (a b : Int) : Int := a / Int.gcd a b
def dn (a b : Int) : Int := b / Int.gcd a b
def red (a b : Int) : D := fr (nm a b) (dn a b)
theorem c_reduced (n : Nat) (a b : Int) {k : Nat} (st : Sto) (hb : 0 < b) [h2 : Bd b k] (hk : k ≤ 90) : callN prog (n+1) false 2 [.int a, .int b] st = .ok (.dat (.tup [.int (nm a b), .int (dn a b)])) st := by
  have hb2 : b < 2 ^ 90 := by
    have h := Nat.lt_of_lt_of_le h2.p (Nat.pow_le_pow_right (show 0 < 2 by decide) hk)
    omega
  have hg : 0 < Int.gcd a b := Int.gcd_pos_of_ne_zero_right a (by omega)
  have hg' : 0 < (Int.gcd a b : Int) := by omega
  have hle : (Int.gcd a b : Int) ≤ b := Int.le_of_dvd hb (Int.gcd_dvd_right ..)
  have hbig : big (Int.gcd a b : Int) = true := big_int (by omega) (by omega)
  have hl := gcd_loop (O prog n) (some (.dat (.int a))) (some (.dat (.int b))) st 90 (a.natAbs) b whlMax (by omega) (by omega) hb2 (by decide)
  have e : Int.gcd (a.natAbs) b = Int.gcd a b := by simp [Int.gcd]
  rw [e] at hl
  have hl' := (fS_whl ..).trans hl
  simp! only [u_reduced, b_reduced, ↓hl', hg', hbig]
  rfl
section
variable {a b : Int}
theorem gp (hb : 0 < b) : 0 < (Int.gcd a b : Int) := by
  have := Int.gcd_pos_of_ne_zero_right a (show b ≠ 0 by omega); omega
theorem nm_mul (hb : 0 < b) : nm a b * Int.gcd a b = a := Int.ediv_mul_cancel (Int.gcd_dvd_left ..)
theorem dn_mul (hb : 0 < b) : dn a b * Int.gcd a b = b := Int.ediv_mul_cancel (Int.gcd_dvd_right ..)
theorem dn_pos (hb : 0 < b) : 0 < dn a b := by
  have h := dn_mul (a := a) hb
  have g := gp (a := a) hb
  exact Int.pos_of_mul_pos_right (by rw [Int.mul_comm, h]; exact hb) g
theorem dn_le (hb : 0 < b) : dn a b ≤ b := by
  have h := dn_mul (a := a) hb
  have g := gp (a := a) hb
  have d := dn_pos (a := a) hb
  have : dn a b * 1 ≤ dn a b * Int.gcd a b := Int.mul_le_mul_of_nonneg_left (by omega) (by omega)
  omega
theorem nm_le (hb : 0 < b) : (nm a b).natAbs ≤ a.natAbs := by
  have h := nm_mul (a := a) hb
  have g := gp (a := a) hb
  have e : a.natAbs = (nm a b).natAbs * (Int.gcd a b) := by
    conv => lhs; rw [← h]
    rw [Int.natAbs_mul]; rfl
  rw [e]; exact Nat.le_mul_of_pos_right _ (by omega)
theorem cop (hb : 0 < b) : Int.gcd (nm a b) (dn a b) = 1 := by
  have g := gp (a := a) hb
  exact Int.gcd_ediv_gcd_ediv_gcd (by omega)
theorem red_mul (d : Int) (hb : 0 < b) (hd : 0 < d) : red (a * d) (b * d) = red a b := by
  have g := gp (a := a) hb
  have e : (Int.gcd (a * d) (b * d) : Int) = Int.gcd a b * d := by
    rw [Int.gcd_mul_right]; push_cast; rw [Int.natAbs_of_nonneg (by omega)]
  unfold red nm dn
  rw [e, Int.mul_ediv_mul_of_pos_left _ _ hd, Int.mul_ediv_mul_of_pos_left _ _ hd]
theorem red_congr {c d : Int} (hb : 0 < b) (hd : 0 < d) (h : a * d = c * b) : red a b = red c d := by
  rw [← red_mul d hb hd, ← red_mul (a := c) b hd hb, h, Int.mul_comm b d]
theorem red_self (hb : 0 < b) : red (nm a b) (dn a b) = red a b := by
  have h := nm_mul (a := a) hb
  have h2 := dn_mul (a := a) hb
  refine red_congr (dn_pos hb) hb ?_
  generalize nm a b = x at *
  generalize dn a b = y at *
  grind
end
theorem red_add {a b c d : Int} (hb : 0 < b) (hd : 0 < d) : red (nm a b * dn c d + nm c d * dn a b) (dn a b * dn c d) = red (a * d + c * b) (b * d) := by
  have h := nm_mul (a := a) hb
  have h2 := dn_mul (a := a) hb
  have h3 := nm_mul (a := c) hd
  have h4 := dn_mul (a := c) hd
  refine red_congr (Int.mul_pos (dn_pos hb) (dn_pos hd)) (Int.mul_pos hb hd) ?_
  generalize nm a b = x at *
  generalize dn a b = y at *
  generalize nm c d = z at *
  generalize dn c d = w at *
  grind
theorem red_sub {a b c d : Int} (hb : 0 < b) (hd : 0 < d) : red (nm a b * dn c d - nm c d * dn a b) (dn a b * dn c d) = red (a * d - c * b) (b * d) := by
  have h := nm_mul (a := a) hb
  have h2 := dn_mul (a := a) hb
  have h3 := nm_mul (a := c) hd
  have h4 := dn_mul (a := c) hd
  refine red_congr (Int.mul_pos (dn_pos hb) (dn_pos hd)) (Int.mul_pos hb hd) ?_
  generalize nm a b = x at *
  generalize dn a b = y at *
  generalize nm c d = z at *
  generalize dn c d = w at *
  grind
theorem red_times {a b c d : Int} (hb : 0 < b) (hd : 0 < d) : red (nm a b * nm c d) (dn a b * dn c d) = red (a * c) (b * d) := by
  have h := nm_mul (a := a) hb
  have h2 := dn_mul (a := a) hb
  have h3 := nm_mul (a := c) hd
  have h4 := dn_mul (a := c) hd
  refine red_congr (Int.mul_pos (dn_pos hb) (dn_pos hd)) (Int.mul_pos hb hd) ?_
  generalize nm a b = x at *
  generalize dn a b = y at *
  generalize nm c d = z at *
  generalize dn c d = w at *
  grind
theorem tup_inj2 {a b c d : Int} (h : fr a b = fr c d) : a = c ∧ b = d := by
  unfold fr at h; injection h with h; injection h with h1 h2; injection h2 with h2 _; injection h1 with h1; injection h2 with h2; exact ⟨h1, h2⟩
section
variable {a b c d : Int}
theorem nm_add (hb : 0 < b) (hd : 0 < d) : nm (nm a b * dn c d + nm c d * dn a b) (dn a b * dn c d) = nm (a * d + c * b) (b * d) := (tup_inj2 (red_add hb hd)).1
theorem dn_add (hb : 0 < b) (hd : 0 < d) : dn (nm a b * dn c d + nm c d * dn a b) (dn a b * dn c d) = dn (a * d + c * b) (b * d) := (tup_inj2 (red_add hb hd)).2
theorem nm_sub (hb : 0 < b) (hd : 0 < d) : nm (nm a b * dn c d - nm c d * dn a b) (dn a b * dn c d) = nm (a * d - c * b) (b * d) := (tup_inj2 (red_sub hb hd)).1
theorem dn_sub (hb : 0 < b) (hd : 0 < d) : dn (nm a b * dn c d - nm c d * dn a b) (dn a b * dn c d) = dn (a * d - c * b) (b * d) := (tup_inj2 (red_sub hb hd)).2
theorem nm_times (hb : 0 < b) (hd : 0 < d) : nm (nm a b * nm c d) (dn a b * dn c d) = nm (a * c) (b * d) := (tup_inj2 (red_times hb hd)).1
theorem dn_times (hb : 0 < b) (hd : 0 < d) : dn (nm a b * nm c d) (dn a b * dn c d) = dn (a * c) (b * d) := (tup_inj2 (red_times hb hd)).2
theorem nm_self (hb : 0 < b) : nm (nm a b) (dn a b) = nm a b := (tup_inj2 (red_self hb)).1
theorem dn_self (hb : 0 < b) : dn (nm a b) (dn a b) = dn a b := (tup_inj2 (red_self hb)).2
end
instance Bd.nm {a b : Int} {k : Nat} [h : Bd a k] : Bd (nm a b) k := ⟨by
  have := h.p
  unfold Pk10.nm
  by_cases h0 : (Int.gcd a b : Int) = 0
  · rw [h0, Int.ediv_zero]; simpa using Nat.pos_of_ne_zero (by simp [Nat.pow_eq_zero])
  · have e := Int.ediv_mul_cancel (Int.gcd_dvd_left a b)
    have e2 : a.natAbs = (a / Int.gcd a b).natAbs * (Int.gcd a b) := by
      conv => lhs; rw [← e]
      rw [Int.natAbs_mul]; rfl
    have : (a / Int.gcd a b).natAbs ≤ a.natAbs := by
      conv => rhs; rw [e2]
      exact Nat.le_mul_of_pos_right _ (by omega)
    omega⟩
instance Bd.dn {a b : Int} {k : Nat} [h : Bd b k] : Bd (dn a b) k := ⟨by
  have := h.p
  unfold Pk10.dn
  by_cases h0 : (Int.gcd a b : Int) = 0
  · rw [h0, Int.ediv_zero]; simpa using Nat.pos_of_ne_zero (by simp [Nat.pow_eq_zero])
  · have e := Int.ediv_mul_cancel (Int.gcd_dvd_right a b)
    have e2 : b.natAbs = (b / Int.gcd a b).natAbs * (Int.gcd a b) := by
      conv => lhs; rw [← e]
      rw [Int.natAbs_mul]; rfl
    have : (b / Int.gcd a b).natAbs ≤ b.natAbs := by
      conv => rhs; rw [e2]
      exact Nat.le_mul_of_pos_right _ (by omega)
    omega⟩
section
variable (n : Nat) (a b c d : Int) (st : Sto) {i j k l : Nat} [Bd a i] [Bd b j] [Bd c k] [Bd d l]
theorem c_less (h1 : i ≤ 4000) (h2 : j ≤ 4000) (h3 : k ≤ 4000) (h4 : l ≤ 4000) : callN prog (n+1) false 9 [.tup [.int a, .int b], .tup [.int c, .int d]] st = .ok (.dat (.bl (decide (a * d < c * b)))) st := by
  simp! only [u_is_less, b_is_less, h1, h2, h3, h4]
theorem c_plus (hb : 0 < b) (hd : 0 < d) (h1 : i ≤ 40) (h2 : j ≤ 40) (h3 : k ≤ 40) (h4 : l ≤ 40) : callN prog (n+2) false 5 [.tup [.int a, .int b], .tup [.int c, .int d]] st = .ok (.dat (.tup [.int (nm (a * d + c * b) (b * d)), .int (dn (a * d + c * b) (b * d))])) st := by
  have g1 : i ≤ 4000 := by omega
  have g2 : j ≤ 4000 := by omega
  have g3 : k ≤ 4000 := by omega
  have g4 : l ≤ 4000 := by omega
  have g5 : j + l ≤ 90 := by omega
  simp! only [u_plus, b_plus, g1, g2, g3, g4, g5, c_reduced, Int.mul_pos, hb, hd]
theorem c_minus (hb : 0 < b) (hd : 0 < d) (h1 : i ≤ 40) (h2 : j ≤ 40) (h3 : k ≤ 40) (h4 : l ≤ 40) : callN prog (n+2) false 6 [.tup [.int a, .int b], .tup [.int c, .int d]] st = .ok (.dat (.tup [.int (nm (a * d - c * b) (b * d)), .int (dn (a * d - c * b) (b * d))])) st := by
  have g1 : i ≤ 4000 := by omega
  have g2 : j ≤ 4000 := by omega
  have g3 : k ≤ 4000 := by omega
  have g4 : l ≤ 4000 := by omega
  have g5 : j + l ≤ 90 := by omega
  simp! only [u_minus, b_minus, g1, g2, g3, g4, g5, c_reduced, Int.mul_pos, hb, hd]
theorem c_times (hb : 0 < b) (hd : 0 < d) (h1 : i ≤ 40) (h2 : j ≤ 40) (h3 : k ≤ 40) (h4 : l ≤ 40) : callN prog (n+2) false 7 [.tup [.int a, .int b], .tup [.int c, .int d]] st = .ok (.dat (.tup [.int (nm (a * c) (b * d)), .int (dn (a * c) (b * d))])) st := by
  have g1 : i ≤ 4000 := by omega
  have g2 : j ≤ 4000 := by omega
  have g3 : k ≤ 4000 := by omega
  have g4 : l ≤ 4000 := by omega
  have g5 : j + l ≤ 90 := by omega
  simp! only [u_times, b_times, g1, g2, g3, g4, g5, c_reduced, Int.mul_pos, hb, hd]
theorem c_over (hb : 0 < b) (hc : 0 < c) (h1 : i ≤ 40) (h2 : j ≤ 40) (h3 : k ≤ 40) (h4 : l ≤ 40) : callN prog (n+2) false 8 [.tup [.int a, .int b], .tup [.int c, .int d]] st = .ok (.dat (.tup [.int (nm (a * d) (b * c)), .int (dn (a * d) (b * c))])) st := by
  have g1 : i ≤ 4000 := by omega
  have g2 : j ≤ 4000 := by omega
  have g3 : k ≤ 4000 := by omega
  have g4 : l ≤ 4000 := by omega
  have g5 : j + k ≤ 90 := by omega
  simp! only [u_over, b_over, g1, g2, g3, g4, g5, c_reduced, Int.mul_pos, hb, hc]
theorem c_floor (hb : 0 < b) (h2 : j ≤ 4000) : callN prog (n+1) false 10 [.tup [.int a, .int b]] st = .ok (.dat (.int (a / b))) st := by
  simp! only [u_floor_of, b_floor_of, h2, hb]
theorem c_ceil (hb : 0 < b) (h2 : j ≤ 4000) : callN prog (n+1) false 11 [.tup [.int a, .int b]] st = .ok (.dat (.int (-(-a / b)))) st := by
  simp! only [u_ceiling_of, b_ceiling_of, h2, hb]
theorem c_near (hb : 0 < b) (h1 : i ≤ 2000) (h2 : j ≤ 2000) : callN prog (n+1) false 12 [.tup [.int a, .int b]] st = .ok (.dat (.int ((2 * a + b) / (2 * b)))) st := by
  have g1 : i ≤ 4000 := by omega
  have g2 : j ≤ 4000 := by omega
  have g3 : 4 + j ≤ 4000 := by omega
  have : 0 < 2 * b := by omega
  simp! only [u_nearest, b_nearest, g1, g2, g3, hb, this]
theorem c_truth (n : Nat) (b : Bool) (st : Sto) : callN prog (n+1) false 17 [.bl b, .bl b] st = .ok (.dat (.bl true)) st := by
  simp! only [u__law_truth, b__law_truth]
theorem c_row_t (n : Nat) (xs : List D) (st : Sto) : callN prog (n+1) false 1 [.tup xs] st = .ok (.dat (.bl true)) st := by
  simp! only [u_is_row, b_is_row]
theorem c_row_l (n : Nat) (xs : List D) (st : Sto) : callN prog (n+1) false 1 [.lst xs] st = .ok (.dat (.bl true)) st := by
  simp! only [u_is_row, b_is_row]
theorem c_whole (n : Nat) (i : Int) (st : Sto) : callN prog (n+1) false 0 [.int i] st = .ok (.dat (.bl true)) st := by
  simp! only [u_is_whole, b_is_whole]
theorem eqT_2 (a b c d : Int) : eqT (.tup [.int a, .int b]) (.tup [.int c, .int d]) = some (decide (a = c ∧ b = d)) := by
  show some _ = _
  simp only [eqD, eqL]
  by_cases h1 : a = c <;> by_cases h2 : b = d <;> simp [h1, h2]
theorem c_isfr (hb : 0 < b) (h2 : j ≤ 90) : callN prog (n+2) false 3 [.tup [.int a, .int b]] st = .ok (.dat (.bl (decide (nm a b = a ∧ dn a b = b)))) st := by
  have : ¬ b < 1 := by omega
  simp! only [u_is_fraction, b_is_fraction, c_row_t, c_whole, c_reduced, h2, hb, this, eqT_2]
theorem c_isfr_l (hb : 0 < b) (h2 : j ≤ 90) : callN prog (n+2) false 3 [.lst [.int a, .int b]] st = .ok (.dat (.bl (decide (nm a b = a ∧ dn a b = b)))) st := by
  have : ¬ b < 1 := by omega
  simp! only [u_is_fraction, b_is_fraction, c_row_l, c_whole, c_reduced, h2, hb, this, eqT_2]
theorem c_want_l (hb : 0 < b) (h2 : j ≤ 90) (h : nm a b = a ∧ dn a b = b) : callN prog (n+3) false 4 [.lst [.int a, .int b]] st = .ok (.dat (.tup [.int a, .int b])) st := by
  simp! only [u_want_fraction, b_want_fraction, c_isfr_l, h2, hb, h]
end
theorem low_loop (o : Orc) (a b : Int) (hb : 0 < b) (hb2 : b ≤ 5000000) (st : Sto) : ∃ x, exS o (.fr (.v 3) (.rg2 (.int 1) (.bin .add (.bi .int [(.var 1)]) (.int 1)))
     [(.ite (.and [(.cmp .eq (.bin .mod (.bi .int [(.var 0)]) (.var 3)) (.int 0)), (.cmp .eq (.bin .mod (.bi .int [(.var 1)]) (.var 3)) (.int 0))])
     [(.asg (.v 2) (.var 3))]
     [])]) [some (.dat (.int a)), some (.dat (.int b)), some (.dat (.int 1)), none] st = .nx [some (.dat (.int a)), some (.dat (.int b)), some (.dat (.int (Int.gcd a b))), x] st := by
  have hz : szMax = 5000000 := rfl
  have hr : rangeL 1 (b + 1) = some ((List.range (b + 1 - 1).toNat).map fun (k : Nat) => .int (1 + k)) := range_ok ⟨by omega, by decide, by decide, by omega, by omega⟩
  have he : evI o true (.rg2 (.int 1) (.bin .add (.bi .int [(.var 1)]) (.int 1))) [some (.dat (.int a)), some (.dat (.int b)), some (.dat (.int 1)), none] st = .ok ((List.range (b + 1 - 1).toNat).map fun (k : Nat) => .int (1 + k)) st := by
    simp! only [hr]
  rw [fS_frE he]
  obtain ⟨E', st', e, rfl, g, x, rfl, hg0, hga, hgb, hall⟩ := forE_rg (fun (k : Nat) => .int (1 + k)) o (.v 3) ([(.ite (.and [(.cmp .eq (.bin .mod (.bi .int [(.var 0)]) (.var 3)) (.int 0)), (.cmp .eq (.bin .mod (.bi .int [(.var 1)]) (.var 3)) (.int 0))])
     [(.asg (.v 2) (.var 3))]
     [])]) (fun n E st' => st' = st ∧ ∃ (g : Int) (x : Option Val), E = [some (.dat (.int a)), some (.dat (.int b)), some (.dat (.int g)), x] ∧ 0 < g ∧ g ∣ a ∧ g ∣ b ∧ ∀ j : Nat, j < n → (1 + j : Int) ∣ a → (1 + j : Int) ∣ b → (1 + j : Int) ≤ g)
     (b + 1 - 1).toNat [some (.dat (.int a)), some (.dat (.int b)), some (.dat (.int 1)), none] st ⟨rfl, 1, none, rfl, by decide, Int.one_dvd a, Int.one_dvd b, fun j hj => absurd hj (Nat.not_lt_zero j)⟩
     (fun k hk E st' hi => by
      obtain ⟨rfl, g, x, rfl, hg0, hga, hgb, hall⟩ := hi
      have hp : (0 : Int) < 1 + k := by omega
      by_cases h1 : a % (1 + k) = 0
      · by_cases h2 : b % (1 + k) = 0
        · refine ⟨_, by simp! only []; rfl, _, _, .inl (by simp! only [hp, h1, h2]; rfl), rfl, 1 + k, _, rfl, hp, Int.dvd_of_emod_eq_zero h1, Int.dvd_of_emod_eq_zero h2, fun j hj _ _ => by omega⟩
        · refine ⟨_, by simp! only []; rfl, _, _, .inl (by simp! only [hp, h1, h2]; rfl), rfl, g, _, rfl, hg0, hga, hgb, fun j hj h3 h4 => ?_⟩
          by_cases hjk : j = k
          · subst hjk; exact absurd (Int.emod_eq_zero_of_dvd h4) h2
          · exact hall j (by omega) h3 h4
      · refine ⟨_, by simp! only []; rfl, _, _, .inl (by simp! only [hp, h1]; rfl), rfl, g, _, rfl, hg0, hga, hgb, fun j hj h3 h4 => ?_⟩
        by_cases hjk : j = k
        · subst hjk; exact absurd (Int.emod_eq_zero_of_dvd h3) h1
        · exact hall j (by omega) h3 h4)
  refine ⟨x, ?_⟩
  rw [e]
  have hgp := gp (a := a) hb
  have hgl : (Int.gcd a b : Int) ≤ b := Int.le_of_dvd hb (Int.gcd_dvd_right ..)
  have h1 : g ≤ Int.gcd a b := Int.le_of_dvd hgp (Int.dvd_coe_gcd hga hgb)
  have h2 := hall (Int.gcd a b - 1) (by omega) (by
    have : (1 + ((Int.gcd a b - 1 : Nat) : Int)) = Int.gcd a b := by omega
    rw [this]; exact Int.gcd_dvd_left ..) (by
    have : (1 + ((Int.gcd a b - 1 : Nat) : Int)) = Int.gcd a b := by omega
    rw [this]; exact Int.gcd_dvd_right ..)
  have : g = Int.gcd a b := by omega
  rw [this]
theorem c_low (n : Nat) (a b : Int) (st : Sto) (hb : 0 < b) (hb2 : b ≤ 5000000) : callN prog (n+1) false 18 [.int a, .int b] st = .ok (.dat (.tup [.int (nm a b), .int (dn a b)])) st := by
  obtain ⟨x, hl⟩ := low_loop (O prog n) a b hb hb2 st
  have hg := gp (a := a) hb
  have hgl : (Int.gcd a b : Int) ≤ b := Int.le_of_dvd hb (Int.gcd_dvd_right ..)
  have hbig : big (Int.gcd a b : Int) = true := big_int (by omega) (by omega)
  simp! only [u__law_low, b__law_low, ↓hl, hg, hbig]
  rfl
/-! sums -/
def enF (p : Int × Int) : D := .tup [.int p.1, .int p.2]
def stepF (w p : Int × Int) : Int × Int := (nm (w.1 * p.2 + p.1 * w.2) (w.2 * p.2), dn (w.1 * p.2 + p.1 * w.2) (w.2 * p.2))
def prq : List (Int × Int) → Int
  | [] => 1
  | p :: r => p.2 * prq r
def Inv (w : Int × Int) (r : List (Int × Int)) (M : Int) : Prop := 0 < w.2 ∧ w.2 * prq r ≤ 5000000 ∧ w.1.natAbs ≤ M * w.2
def Gd (p : Int × Int) : Prop := 0 < p.2 ∧ p.2 ≤ 60 ∧ p.1.natAbs ≤ 60
theorem prq_pos {r : List (Int × Int)} (h : ∀ p ∈ r, Gd p) : 0 < prq r := by
  induction r with
  | nil => decide
  | cons p r ih => exact Int.mul_pos (h p List.mem_cons_self).1 (ih fun q hq => h q (List.mem_cons_of_mem _ hq))
theorem Inv.step {w p : Int × Int} {r : List (Int × Int)} {M : Int} (h : Inv w (p :: r) M) (g : Gd p) (hr : ∀ q ∈ r, Gd q) : Inv (stepF w p) r (M + 60) := by
  obtain ⟨h1, h2, h3⟩ := h
  obtain ⟨g1, g2, g3⟩ := g
  have hy : 0 < w.2 * p.2 := Int.mul_pos h1 g1
  refine ⟨dn_pos hy, ?_, ?_⟩
  · have a := dn_le (a := w.1 * p.2 + p.1 * w.2) hy
    have b := Int.mul_le_mul_of_nonneg_right a (Int.le_of_lt (prq_pos hr))
    refine Int.le_trans b ?_
    rw [Int.mul_assoc]; exact h2
  · have hg := gp (a := w.1 * p.2 + p.1 * w.2) hy
    have e1 := nm_mul (a := w.1 * p.2 + p.1 * w.2) hy
    have e2 := dn_mul (a := w.1 * p.2 + p.1 * w.2) hy
    have hX : ((w.1 * p.2 + p.1 * w.2).natAbs : Int) ≤ (M + 60) * (w.2 * p.2) := by
      have t1 := Int.natAbs_add_le (w.1 * p.2) (p.1 * w.2)
      have t2 : ((w.1 * p.2).natAbs : Int) = w.1.natAbs * p.2 := by rw [Int.natAbs_mul]; push_cast; rw [Int.natAbs_of_nonneg (Int.le_of_lt g1)]
      have t3 : ((p.1 * w.2).natAbs : Int) = p.1.natAbs * w.2 := by rw [Int.natAbs_mul]; push_cast; rw [Int.natAbs_of_nonneg (Int.le_of_lt h1)]
      have t4 : (w.1.natAbs : Int) * p.2 ≤ M * w.2 * p.2 := Int.mul_le_mul_of_nonneg_right h3 (Int.le_of_lt g1)
      have t5 : (p.1.natAbs : Int) * w.2 ≤ 60 * w.2 := Int.mul_le_mul_of_nonneg_right (by omega) (Int.le_of_lt h1)
      have t6 : 60 * w.2 * 1 ≤ 60 * w.2 * p.2 := Int.mul_le_mul_of_nonneg_left (by omega) (by omega)
      have t7 : (M + 60) * (w.2 * p.2) = M * w.2 * p.2 + 60 * w.2 * p.2 := by rw [Int.add_mul, Int.mul_assoc, Int.mul_assoc]
      omega
    show ((nm _ _).natAbs : Int) ≤ (M + 60) * dn _ _
    generalize w.1 * p.2 + p.1 * w.2 = X at *
    generalize w.2 * p.2 = Y at *
    have e3 : (X.natAbs : Int) = (nm X Y).natAbs * Int.gcd X Y := by
      conv => lhs; rw [← e1]
      rw [Int.natAbs_mul]; push_cast; rfl
    have : ((nm X Y).natAbs : Int) * Int.gcd X Y ≤ (M + 60) * dn X Y * Int.gcd X Y := by
      rw [← e3, Int.mul_assoc, e2]; exact hX
    exact Int.le_of_mul_le_mul_right this hg
theorem Inv.bd {w : Int × Int} {r : List (Int × Int)} {M : Int} (h : Inv w r M) (hr : ∀ q ∈ r, Gd q) (hM : M ≤ 1000) : Bd w.1 40 ∧ Bd w.2 23 ∧ w.2 ≤ 5000000 := by
  obtain ⟨h1, h2, h3⟩ := h
  have a : w.2 * 1 ≤ w.2 * prq r := Int.mul_le_mul_of_nonneg_left (prq_pos hr) (by omega)
  have b : M * w.2 ≤ 1000 * w.2 := Int.mul_le_mul_of_nonneg_right hM (by omega)
  exact ⟨⟨by omega⟩, ⟨by omega⟩, by omega⟩
theorem Gd.bd {p : Int × Int} (h : Gd p) : Bd p.1 6 ∧ Bd p.2 6 := ⟨⟨by have := h.2.2; omega⟩, ⟨by have := h.1; have := h.2.1; omega⟩⟩
theorem sum_loop (n : Nat) (R : Option Val) (st : Sto) : ∀ (ps : List (Int × Int)) (w : Int × Int) (M : Int) (x : Option Val), (∀ p ∈ ps, Gd p) → Inv w ps M → M + 60 * ps.length ≤ 1000 →
    ∃ x', forE (O prog (n + 2)) (.v 2) [(.asg (.v 1) (.call 5 [(.var 1), (.var 2)]))] (ps.map enF) [R, some (.dat (enF w)), x] st = .nx [R, some (.dat (enF (ps.foldl stepF w))), x'] st
  | [], w, M, x, _, _, _ => ⟨x, rfl⟩
  | p :: r, w, M, x, hg, hi, hM => by
    have hp := hg p List.mem_cons_self
    have hr : ∀ q ∈ r, Gd q := fun q hq => hg q (List.mem_cons_of_mem _ hq)
    rw [List.length_cons] at hM
    obtain ⟨b1, b2, _⟩ := hi.bd hg (by omega)
    obtain ⟨b3, b4⟩ := hp.bd
    have g1 := hi.1
    have g2 := hp.1
    obtain ⟨x', e⟩ := sum_loop n R st r (stepF w p) (M + 60) (some (.dat (enF p))) hr (hi.step hp hr) (by push_cast at hM; omega)
    refine ⟨x', ?_⟩
    rw [List.map_cons, List.foldl_cons, ← e]
    have : exB (O prog (n + 2)) [(.asg (.v 1) (.call 5 [(.var 1), (.var 2)]))] [R, some (.dat (enF w)), some (.dat (enF p))] st = .nx [R, some (.dat (enF (stepF w p))), some (.dat (enF p))] st := by
      simp! only [enF, c_plus, g1, g2, stepF]
    exact forE_step (by simp! only []) this
theorem c_total (n : Nat) (ps : List (Int × Int)) (st : Sto) (hg : ∀ p ∈ ps, Gd p) (h1 : prq ps ≤ 5000000) (h2 : ps.length ≤ 10) : callN prog (n+3) false 13 [.lst (ps.map enF)] st = .ok (.dat (enF (ps.foldl stepF (0, 1)))) st := by
  obtain ⟨x, e⟩ := sum_loop n (some (.dat (.lst (ps.map enF)))) st ps (0, 1) 0 none hg ⟨by decide, by simpa using h1, by decide⟩ (by omega)
  have he : evI (O prog (n + 2)) true (.ex (.var 0)) [some (.dat (.lst (ps.map enF))), some (.dat (enF (0, 1))), none] st = .ok (ps.map enF) st := by simp! only []
  have := (fS_frE he).trans e
  simp only [enF] at this
  simp! only [u_total, b_total, ↓this]
  rfl
def lastV (ps : List (Int × Int)) (x : Option Val) : Option Val := ps.foldl (fun _ p => some (.dat (enF p))) x
/-- the law's own sum -/
theorem own_loop (n : Nat) (e0 e1 e2 e3 e5 e6 e7 e8 e9 e10 e11 e12 e13 e14 e15 e17 e18 : Option Val) (st : Sto) : ∀ (ps : List (Int × Int)) (w : Int × Int) (M : Int) (e4 : Option Val), (∀ p ∈ ps, Gd p) → Inv w ps M → M + 60 * ps.length ≤ 1000 →
    forE (O prog (n + 1)) (.v 4) [(.asg (.v 16) (.call 18 [(.bin .add (.bin .mul (.sub (.var 16) (.int 0)) (.sub (.var 4) (.int 1))) (.bin .mul (.sub (.var 4) (.int 0)) (.sub (.var 16) (.int 1)))), (.bin .mul (.sub (.var 16) (.int 1)) (.sub (.var 4) (.int 1)))]))] (ps.map enF) [e0, e1, e2, e3, e4, e5, e6, e7, e8, e9, e10, e11, e12, e13, e14, e15, some (.dat (enF w)), e17, e18] st = .nx [e0, e1, e2, e3, lastV ps e4, e5, e6, e7, e8, e9, e10, e11, e12, e13, e14, e15, some (.dat (enF (ps.foldl stepF w))), e17, e18] st
  | [], w, M, x, _, _, _ => rfl
  | p :: r, w, M, x, hg, hi, hM => by
    have hp := hg p List.mem_cons_self
    have hr : ∀ q ∈ r, Gd q := fun q hq => hg q (List.mem_cons_of_mem _ hq)
    rw [List.length_cons] at hM
    obtain ⟨b1, b2, _⟩ := hi.bd hg (by omega)
    obtain ⟨b3, b4⟩ := hp.bd
    have g1 := hi.1
    have g2 := hp.1
    have g3 : w.2 * p.2 ≤ 5000000 := by
      have := hi.2.1
      have h4 : w.2 * p.2 * 1 ≤ w.2 * p.2 * prq r := Int.mul_le_mul_of_nonneg_left (prq_pos hr) (Int.le_of_lt (Int.mul_pos g1 g2))
      rw [prq, ← Int.mul_assoc] at this
      omega
    have e := own_loop n e0 e1 e2 e3 e5 e6 e7 e8 e9 e10 e11 e12 e13 e14 e15 e17 e18 st r (stepF w p) (M + 60) (some (.dat (enF p))) hr (hi.step hp hr) (by push_cast at hM; omega)
    rw [List.map_cons, List.foldl_cons, lastV, List.foldl_cons, ← lastV, ← e]
    have : exB (O prog (n + 1)) [(.asg (.v 16) (.call 18 [(.bin .add (.bin .mul (.sub (.var 16) (.int 0)) (.sub (.var 4) (.int 1))) (.bin .mul (.sub (.var 4) (.int 0)) (.sub (.var 16) (.int 1)))), (.bin .mul (.sub (.var 16) (.int 1)) (.sub (.var 4) (.int 1)))]))] [e0, e1, e2, e3, some (.dat (enF p)), e5, e6, e7, e8, e9, e10, e11, e12, e13, e14, e15, some (.dat (enF w)), e17, e18] st = .nx [e0, e1, e2, e3, some (.dat (enF p)), e5, e6, e7, e8, e9, e10, e11, e12, e13, e14, e15, some (.dat (enF (stepF w p))), e17, e18] st := by
      simp! only [enF, c_low, Int.mul_pos, g1, g2, g3, stepF]
    exact forE_step (by simp! only []) this
/-! the middle -/
def insF (row : List (Int × Int)) (one : Int × Int) : List (Int × Int) :=
  row.take (row.filter fun o => decide (¬ one.1 * o.2 < o.1 * one.2)).length ++ one :: row.drop (row.filter fun o => decide (¬ one.1 * o.2 < o.1 * one.2)).length
theorem less_gd (n : Nat) {p q : Int × Int} (hp : Gd p) (hq : Gd q) (st : Sto) : callN prog (n+1) false 9 [enF p, enF q] st = .ok (.dat (.bl (decide (p.1 * q.2 < q.1 * p.2)))) st := by
  obtain ⟨b1, b2⟩ := hp.bd
  obtain ⟨b3, b4⟩ := hq.bd
  simp! only [enF, c_less]
theorem med_step (n : Nat) (R x3 : Option Val) (st : Sto) (row : List (Int × Int)) (one : Int × Int) (h1 : ∀ p ∈ row, Gd p) (h2 : Gd one) (h3 : row.length ≤ 100) :
    exB (O prog (n + 1)) [(.asg (.v 3) (.bi .len [(.lcf (.var 6) (.v 6) (.ex (.var 1)) (.not (.call 9 [(.var 2), (.var 6)])))])), (.ins (.var 1) (.var 3) (.var 2))]
      [R, some (.new (.lst (row.map enF))), some (.dat (enF one)), x3, none, none, none] st =
      .nx [R, some (.new (.lst ((insF row one).map enF))), some (.dat (enF one)), some (.dat (.int (row.filter fun o => decide (¬ one.1 * o.2 < o.1 * one.2)).length)), none, none, none] st := by
  have hl : ∀ q ∈ row, ∀ st, callN prog (n+1) false 9 [enF one, enF q] st = .ok (.dat (.bl (decide (one.1 * q.2 < q.1 * one.2)))) st := fun q hq st => less_gd n h2 (h1 q hq) st
  have hc : ∀ st, evE (O prog (n + 1)) (.lcf (.var 6) (.v 6) (.ex (.var 1)) (.not (.call 9 [(.var 2), (.var 6)]))) [R, some (.new (.lst (row.map enF))), some (.dat (enF one)), x3, none, none, none] st
      = .ok (.new (.lst ((row.filter fun o => decide (¬ one.1 * o.2 < o.1 * one.2)).map enF))) st := fun st => by
    refine fE_lcfE (by simp! only []; rfl) (compC_pure (fun o => decide (¬ one.1 * o.2 < o.1 * one.2)) enF (fun x hx => ⟨_, by simp! only []; rfl, fun st => by simp! only [hl x hx, decide_not], fun _ st => ⟨_, by simp! only []; rfl, rfl⟩⟩) st)
  have hf : (row.filter fun o => decide (¬ one.1 * o.2 < o.1 * one.2)).length ≤ row.length := List.length_filter_le ..
  have hz : szMax = 5000000 := rfl
  have g1 : row.length < szMax := by omega
  have g2 : (0 : Int) ≤ (row.filter fun o => decide (¬ one.1 * o.2 < o.1 * one.2)).length := by omega
  have g3 : ((row.filter fun o => decide (¬ one.1 * o.2 < o.1 * one.2)).length : Int) < 2 ^ 62 := by omega
  have g4 : clampI row.length ((row.filter fun o => decide (¬ one.1 * o.2 < o.1 * one.2)).length : Int) = (row.filter fun o => decide (¬ one.1 * o.2 < o.1 * one.2)).length := by
    unfold clampI; rw [if_neg (by omega)]; omega
  simp! only [↓hc, g1, g2, g3, g4, insF, List.map_append, List.map_cons, List.map_take, List.map_drop]
/-- in order -/
def leF (p q : Int × Int) : Prop := p.1 * q.2 ≤ q.1 * p.2
def Srt (l : List (Int × Int)) : Prop := l.Pairwise leF
theorem leF_trans {p q r : Int × Int} (hp : Gd p) (hq : Gd q) (hr : Gd r) (h1 : leF p q) (h2 : leF q r) : leF p r := by
  unfold leF at *
  have a := Int.mul_le_mul_of_nonneg_right h1 (Int.le_of_lt hr.1)
  have b := Int.mul_le_mul_of_nonneg_right h2 (Int.le_of_lt hp.1)
  refine Int.le_of_mul_le_mul_right (a := q.2) ?_ hq.1
  have e1 : q.1 * p.2 * r.2 = q.1 * r.2 * p.2 := by ac_rfl
  have e2 : p.1 * r.2 * q.2 = p.1 * q.2 * r.2 := by ac_rfl
  have e3 : r.1 * p.2 * q.2 = r.1 * q.2 * p.2 := by ac_rfl
  omega
/-- those not above stand ahead -/
theorem split_srt (one : Int × Int) : ∀ (row : List (Int × Int)), (∀ p ∈ row, Gd p) → Gd one → Srt row →
    (∀ p ∈ row.take (row.filter fun o => decide (¬ one.1 * o.2 < o.1 * one.2)).length, leF p one) ∧ (∀ p ∈ row.drop (row.filter fun o => decide (¬ one.1 * o.2 < o.1 * one.2)).length, leF one p)
  | [], _, _, _ => ⟨by simp, by simp⟩
  | x :: r, hg, ho, hs => by
    have hx := hg x List.mem_cons_self
    have hr : ∀ p ∈ r, Gd p := fun p hp => hg p (List.mem_cons_of_mem _ hp)
    obtain ⟨i1, i2⟩ := split_srt one r hr ho (List.Pairwise.of_cons hs)
    have hall := (List.pairwise_cons.mp hs).1
    by_cases h : one.1 * x.2 < x.1 * one.2
    · have e : (x :: r).filter (fun o => decide (¬ one.1 * o.2 < o.1 * one.2)) = [] := by
        rw [List.filter_eq_nil_iff]
        intro p hp
        have hlt : one.1 * p.2 < p.1 * one.2 := by
          rcases List.mem_cons.mp hp with rfl | hp
          · exact h
          · have hp' := hr p hp
            have hxp := hall p hp
            unfold leF at hxp
            have a := Int.mul_lt_mul_of_pos_right h hp'.1
            have b := Int.mul_le_mul_of_nonneg_right hxp (Int.le_of_lt ho.1)
            refine Int.lt_of_mul_lt_mul_right (a := x.2) ?_ (Int.le_of_lt hx.1)
            have e1 : one.1 * p.2 * x.2 = one.1 * x.2 * p.2 := by ac_rfl
            have e2 : p.1 * one.2 * x.2 = p.1 * x.2 * one.2 := by ac_rfl
            have e3 : x.1 * one.2 * p.2 = x.1 * p.2 * one.2 := by ac_rfl
            omega
        simp [hlt]
      rw [e]
      refine ⟨by simp, fun p hp => ?_⟩
      rcases List.mem_cons.mp hp with rfl | hp
      · exact Int.le_of_lt h
      · exact leF_trans ho hx (hr p hp) (Int.le_of_lt h) (hall p hp)
    · have e : (x :: r).filter (fun o => decide (¬ one.1 * o.2 < o.1 * one.2)) = x :: r.filter (fun o => decide (¬ one.1 * o.2 < o.1 * one.2)) := List.filter_cons_of_pos (by simp only [h]; rfl)
      rw [e, List.length_cons, List.take_succ_cons, List.drop_succ_cons]
      refine ⟨fun p hp => ?_, i2⟩
      rcases List.mem_cons.mp hp with rfl | hp
      · unfold leF; omega
      · exact i1 p hp
theorem insF_srt {row : List (Int × Int)} {one : Int × Int} (hg : ∀ p ∈ row, Gd p) (ho : Gd one) (hs : Srt row) : Srt (insF row one) := by
  obtain ⟨h1, h2⟩ := split_srt one row hg ho hs
  unfold insF
  generalize (row.filter fun o => decide (¬ one.1 * o.2 < o.1 * one.2)).length = k at *
  refine List.pairwise_append.mpr ⟨hs.sublist (List.take_sublist ..), List.pairwise_cons.mpr ⟨h2, hs.sublist (List.drop_sublist ..)⟩, fun p hp q hq => ?_⟩
  rcases List.mem_cons.mp hq with rfl | hq
  · exact h1 p hp
  · exact leF_trans (hg p (List.mem_of_mem_take hp)) ho (hg q (List.mem_of_mem_drop hq)) (h1 p hp) (h2 q hq)
theorem insF_perm (row : List (Int × Int)) (one : Int × Int) : (insF row one).Perm (one :: row) := by
  unfold insF
  generalize (row.filter fun o => decide (¬ one.1 * o.2 < o.1 * one.2)).length = k
  refine List.perm_middle.trans ?_
  rw [List.take_append_drop]
theorem med_loop (n : Nat) (R : Option Val) (st : Sto) : ∀ (ps row : List (Int × Int)) (x2 x3 : Option Val), (∀ p ∈ row, Gd p) → (∀ p ∈ ps, Gd p) → Srt row → row.length + ps.length ≤ 100 → ∃ row' y2 y3,
    forE (O prog (n + 1)) (.v 2) [(.asg (.v 3) (.bi .len [(.lcf (.var 6) (.v 6) (.ex (.var 1)) (.not (.call 9 [(.var 2), (.var 6)])))])), (.ins (.var 1) (.var 3) (.var 2))] (ps.map enF)
      [R, some (.new (.lst (row.map enF))), x2, x3, none, none, none] st = .nx [R, some (.new (.lst (row'.map enF))), y2, y3, none, none, none] st ∧ Srt row' ∧ row'.Perm (row ++ ps)
  | [], row, x2, x3, _, _, hs, _ => ⟨row, x2, x3, rfl, hs, by simp⟩
  | p :: r, row, x2, x3, h1, h2, hs, hl => by
    have hp := h2 p List.mem_cons_self
    have hr : ∀ q ∈ r, Gd q := fun q hq => h2 q (List.mem_cons_of_mem _ hq)
    rw [List.length_cons] at hl
    have pm := insF_perm row p
    obtain ⟨row', x2', x3', e, s', pm'⟩ := med_loop n R st r (insF row p) (some (.dat (enF p))) (some (.dat (.int (row.filter fun o => decide (¬ p.1 * o.2 < o.1 * p.2)).length))) (fun q hq => by
      rcases List.mem_cons.mp (pm.mem_iff.mp hq) with rfl | hq
      · exact hp
      · exact h1 q hq) hr (insF_srt h1 hp hs) (by rw [pm.length_eq, List.length_cons]; omega)
    refine ⟨row', x2', x3', ?_, s', pm'.trans ((pm.append_right r).trans ?_)⟩
    · rw [List.map_cons, ← e]
      exact forE_step (by simp! only []) (med_step n R x3 st row p h1 hp (by omega))
    · exact List.perm_middle.symm
def midF (l : List (Int × Int)) : Int × Int :=
  let f := l.getD ((l.length - 1) / 2) (0, 1); let s := l.getD (l.length / 2) (0, 1)
  (nm (f.1 * s.2 + s.1 * f.2) (f.2 * s.2 * 2), dn (f.1 * s.2 + s.1 * f.2) (f.2 * s.2 * 2))
theorem getAt_enF {l : List (Int × Int)} {k : Nat} {i : Int} (h : k < l.length) (hi : i = k) : getAt (l.map enF) i = some (enF (l.getD k (0, 1))) := by
  subst hi
  rw [getAt_nat (by simpa using h)]
  simp [h]
theorem c_median (n : Nat) (ps : List (Int × Int)) (st : Sto) (h1 : ∀ p ∈ ps, Gd p) (h0 : ps ≠ []) (h2 : ps.length ≤ 100) : ∃ l, callN prog (n+3) false 14 [.lst (ps.map enF)] st = .ok (.dat (enF (midF l))) st ∧ Srt l ∧ l.Perm ps := by
  obtain ⟨p, r, rfl⟩ := List.exists_cons_of_ne_nil h0
  have hp := h1 p List.mem_cons_self
  have hr : ∀ q ∈ r, Gd q := fun q hq => h1 q (List.mem_cons_of_mem _ hq)
  rw [List.length_cons] at h2
  obtain ⟨l, y2, y3, e, hs, pm⟩ := med_loop (n + 1) (some (.dat (.lst ((p :: r).map enF)))) st r [p] none none (by simpa using hp) hr (List.pairwise_singleton ..) (by simp; omega)
  refine ⟨l, ?_, hs, pm⟩
  have pm' : l.Perm (p :: r) := pm
  have hll : l.length = r.length + 1 := pm'.length_eq
  have he : evI (O prog (n + 2)) true (.ex (.slL (.var 0) (.int 1))) [some (.dat (.lst ((p :: r).map enF))), some (.new (.lst ([p].map enF))), none, none, none, none, none] st = .ok (r.map enF) st := by
    simp! only [cut_lo, List.map_cons, List.map_nil, List.drop_succ_cons, List.drop_zero]
  have hL := (fS_frE he).trans e
  simp only [List.map_cons, List.map_nil] at hL
  have g1 : getAt (l.map enF) (((l.length : Int) - 1) / 2) = some (enF (l.getD ((l.length - 1) / 2) (0, 1))) := getAt_enF (by omega) (by omega)
  have g2 : getAt (l.map enF) ((l.length : Int) / 2) = some (enF (l.getD (l.length / 2) (0, 1))) := getAt_enF (by omega) (by omega)
  have m1 : Gd (l.getD ((l.length - 1) / 2) (0, 1)) := by
    have hlt : (l.length - 1) / 2 < l.length := by omega
    refine h1 _ (pm'.mem_iff.mp ?_)
    simp [hlt]
  have m2 : Gd (l.getD (l.length / 2) (0, 1)) := by
    have hlt : l.length / 2 < l.length := by omega
    refine h1 _ (pm'.mem_iff.mp ?_)
    simp [hlt]
  obtain ⟨b1, b2⟩ := m1.bd
  obtain ⟨b3, b4⟩ := m2.bd
  have q1 := m1.1
  have q2 := m2.1
  have q3 : ∀ x y : Int, 0 < y → nm (nm x y * 1) (dn x y * 2) = nm x (y * 2) := fun x y hy => by
    have := nm_times (a := x) (b := y) (c := 1) (d := 2) hy (by decide)
    rw [show nm 1 2 = 1 by decide, show dn 1 2 = 2 by decide, Int.mul_one x] at this
    exact this
  have q4 : ∀ x y : Int, 0 < y → dn (nm x y * 1) (dn x y * 2) = dn x (y * 2) := fun x y hy => by
    have := dn_times (a := x) (b := y) (c := 1) (d := 2) hy (by decide)
    rw [show nm 1 2 = 1 by decide, show dn 1 2 = 2 by decide, Int.mul_one x] at this
    exact this
  simp! only [u_median, b_median, List.map_cons, ↓hL]
  simp! (maxDischargeDepth := 8) only [u_median, b_median, g1, g2, c_plus, c_times, enF, q1, q2, q3, q4, Int.mul_pos, dn_pos]
  simp only [midF]
/-! values that are none -/
theorem flds_1 (n : Nat) : (O prog n).flds 1 = [0] := by rfl
theorem sup_1 (n : Nat) : (O prog n).sup 1 = [1, 0] := by rfl
theorem c_whole_b (n : Nat) (b : Bool) (st : Sto) : callN prog (n+1) false 0 [.bl b] st = .ok (.dat (.bl false)) st := by
  simp! only [u_is_whole, b_is_whole]
theorem c_row_n (n : Nat) (st : Sto) : callN prog (n+1) false 1 [.non] st = .ok (.dat (.bl false)) st := by
  simp! only [u_is_row, b_is_row]
theorem c_row_i (n : Nat) (i : Int) (st : Sto) : callN prog (n+1) false 1 [.int i] st = .ok (.dat (.bl false)) st := by
  simp! only [u_is_row, b_is_row]
def vals : List D := [.non, (.tup [.int 1, .int 0]), (.tup [.int 2, .int 4]), (.tup [.int 0, .int 2]), (.tup [.int 1]), (.tup [.bl true, .int 2]), (.lst [.int 1, .int 2, .int 3]), (.int 5), (.tup [.int 1, .int (-1)])]
theorem nofr : ∀ v ∈ vals, (∀ n st, callN prog (n+2) false 3 [v] st = .ok (.dat (.bl false)) st) ∧ repOk v = true ∧ same v v = true := by
  intro v hv
  simp only [vals, List.mem_cons, List.not_mem_nil, or_false] at hv
  rcases hv with rfl | rfl | rfl | rfl | rfl | rfl | rfl | rfl | rfl
  · exact ⟨fun n st => by simp! only [u_is_fraction, b_is_fraction, c_row_t, c_row_l, c_row_n, c_row_i, c_whole, c_whole_b, c_reduced, eqT_2], by decide, by decide⟩
  · exact ⟨fun n st => by simp! only [u_is_fraction, b_is_fraction, c_row_t, c_row_l, c_row_n, c_row_i, c_whole, c_whole_b, c_reduced, eqT_2], by decide, by decide⟩
  · exact ⟨fun n st => by simp! only [u_is_fraction, b_is_fraction, c_row_t, c_row_l, c_row_n, c_row_i, c_whole, c_whole_b, c_reduced, eqT_2]; rfl, by decide, by decide⟩
  · exact ⟨fun n st => by simp! only [u_is_fraction, b_is_fraction, c_row_t, c_row_l, c_row_n, c_row_i, c_whole, c_whole_b, c_reduced, eqT_2]; rfl, by decide, by decide⟩
  · exact ⟨fun n st => by simp! only [u_is_fraction, b_is_fraction, c_row_t, c_row_l, c_row_n, c_row_i, c_whole, c_whole_b, c_reduced, eqT_2], by decide, by decide⟩
  · exact ⟨fun n st => by simp! only [u_is_fraction, b_is_fraction, c_row_t, c_row_l, c_row_n, c_row_i, c_whole, c_whole_b, c_reduced, eqT_2], by decide, by decide⟩
  · exact ⟨fun n st => by simp! only [u_is_fraction, b_is_fraction, c_row_t, c_row_l, c_row_n, c_row_i, c_whole, c_whole_b, c_reduced, eqT_2], by decide, by decide⟩
  · exact ⟨fun n st => by simp! only [u_is_fraction, b_is_fraction, c_row_t, c_row_l, c_row_n, c_row_i, c_whole, c_whole_b, c_reduced, eqT_2], by decide, by decide⟩
  · exact ⟨fun n st => by simp! only [u_is_fraction, b_is_fraction, c_row_t, c_row_l, c_row_n, c_row_i, c_whole, c_whole_b, c_reduced, eqT_2], by decide, by decide⟩
theorem val_step (n : Nat) (v : D) (hv : v ∈ vals) (e0 e1 e2 e3 e4 e5 e6 e7 e9 e10 e11 e12 e13 e14 e15 e16 e18 : Option Val) (st : Sto) : exB (O prog (n + 3)) [(.ite (.call 3 [(.var 8)])
     [(.ret (.bl false))]
     []),
    (.tr [(.expr (.call 4 [(.var 8)])),
      (.ret (.bl false))]
     [(1, some 17, [(.ite (.neR (.fld (.var 17) 0) (.var 8))
       [(.ret (.bl false))]
       [])])])] [e0, e1, e2, e3, e4, e5, e6, e7, some (.dat v), e9, e10, e11, e12, e13, e14, e15, e16, none, e18] st = .nx [e0, e1, e2, e3, e4, e5, e6, e7, some (.dat v), e9, e10, e11, e12, e13, e14, e15, e16, none, e18] st := by
  obtain ⟨h1, h2, h3⟩ := nofr v hv
  have h4 : ∀ st, callN prog (n + 3) false 4 [v] st = .ex ⟨1, [(0, v)]⟩ st := fun st => by
    simp! only [u_want_fraction, b_want_fraction, h1, sup_1, flds_1, excF]
    rfl
  have c1 : ([1, 0] : List Nat).contains 1 = true := by decide
  have c2 : ([0] : List Nat).contains 0 = true := by decide
  have c3 : List.lookup 0 [((0 : Nat), v)] = some v := by rfl
  simp! only [h1, h4, exH, sup_1, flds_1, fldV, h2, h3, c1, c2, c3]
/-! the law -/
theorem val_loop (n : Nat) (e0 e1 e2 e3 e4 e5 e6 e7 e9 e10 e11 e12 e13 e14 e15 e16 e18 : Option Val) (st : Sto) : ∀ (vs : List D) (x : Option Val), (∀ v ∈ vs, v ∈ vals) →
    forE (O prog (n + 3)) (.v 8) [(.ite (.call 3 [(.var 8)])
     [(.ret (.bl false))]
     []),
    (.tr [(.expr (.call 4 [(.var 8)])),
      (.ret (.bl false))]
     [(1, some 17, [(.ite (.neR (.fld (.var 17) 0) (.var 8))
       [(.ret (.bl false))]
       [])])])] vs [e0, e1, e2, e3, e4, e5, e6, e7, x, e9, e10, e11, e12, e13, e14, e15, e16, none, e18] st = .nx [e0, e1, e2, e3, e4, e5, e6, e7, (vs.foldl (fun _ v => some (.dat v)) x), e9, e10, e11, e12, e13, e14, e15, e16, none, e18] st
  | [], x, _ => rfl
  | v :: r, x, h => by
    have e := val_loop n e0 e1 e2 e3 e4 e5 e6 e7 e9 e10 e11 e12 e13 e14 e15 e16 e18 st r (some (.dat v)) fun q hq => h q (List.mem_cons_of_mem _ hq)
    rw [List.foldl_cons, ← e]
    exact forE_step (by simp! only []) (val_step n v (h v List.mem_cons_self) e0 e1 e2 e3 e4 e5 e6 e7 e9 e10 e11 e12 e13 e14 e15 e16 e18 st)
theorem val_fr (n : Nat) (e0 e1 e2 e3 e4 e5 e6 e7 e8 e9 e10 e11 e12 e13 e14 e15 e16 e18 : Option Val) (st : Sto) : exS (O prog (n + 3)) (.fr (.v 8) (.ex (.lst [.non, (.tup [(.int 1), (.int 0)]), (.tup [(.int 2), (.int 4)]), (.tup [(.int 0), (.int 2)]), (.tup [(.int 1)]), (.tup [(.bl true), (.int 2)]), (.lst [(.int 1), (.int 2), (.int 3)]), (.int 5), (.tup [(.int 1), (.neg (.int 1))])])) [(.ite (.call 3 [(.var 8)])
     [(.ret (.bl false))]
     []),
    (.tr [(.expr (.call 4 [(.var 8)])),
      (.ret (.bl false))]
     [(1, some 17, [(.ite (.neR (.fld (.var 17) 0) (.var 8))
       [(.ret (.bl false))]
       [])])])]) [e0, e1, e2, e3, e4, e5, e6, e7, e8, e9, e10, e11, e12, e13, e14, e15, e16, none, e18] st = .nx [e0, e1, e2, e3, e4, e5, e6, e7, (some (.dat (.tup [.int 1, .int (-1)]))), e9, e10, e11, e12, e13, e14, e15, e16, none, e18] st := by
  have he : evI (O prog (n + 3)) true (.ex (.lst [.non, (.tup [(.int 1), (.int 0)]), (.tup [(.int 2), (.int 4)]), (.tup [(.int 0), (.int 2)]), (.tup [(.int 1)]), (.tup [(.bl true), (.int 2)]), (.lst [(.int 1), (.int 2), (.int 3)]), (.int 5), (.tup [(.int 1), (.neg (.int 1))])])) [e0, e1, e2, e3, e4, e5, e6, e7, e8, e9, e10, e11, e12, e13, e14, e15, e16, none, e18] st = .ok vals st := by
    simp! only [vals]
  exact (fS_frE he).trans (val_loop n e0 e1 e2 e3 e4 e5 e6 e7 e9 e10 e11 e12 e13 e14 e15 e16 e18 st vals e8 fun v hv => hv)
theorem own_fr (n : Nat) (e0 e1 e2 e3 e4 e5 e6 e7 e8 e9 e10 e11 e12 e13 e14 e17 e18 : Option Val) (ps : List (Int × Int)) (st : Sto) (hg : ∀ p ∈ ps, Gd p) (h1 : prq ps ≤ 5000000) (h2 : ps.length ≤ 10) :
    exS (O prog (n + 1)) (.fr (.v 4) (.ex (.var 15)) [(.asg (.v 16) (.call 18 [(.bin .add (.bin .mul (.sub (.var 16) (.int 0)) (.sub (.var 4) (.int 1))) (.bin .mul (.sub (.var 4) (.int 0)) (.sub (.var 16) (.int 1)))), (.bin .mul (.sub (.var 16) (.int 1)) (.sub (.var 4) (.int 1)))]))]) [e0, e1, e2, e3, e4, e5, e6, e7, e8, e9, e10, e11, e12, e13, e14, some (.dat (.lst (ps.map enF))), some (.dat (.tup [.int 0, .int 1])), e17, e18] st = .nx [e0, e1, e2, e3, lastV ps e4, e5, e6, e7, e8, e9, e10, e11, e12, e13, e14, some (.dat (.lst (ps.map enF))), some (.dat (enF (ps.foldl stepF (0, 1)))), e17, e18] st := by
  have he : evI (O prog (n + 1)) true (.ex (.var 15)) [e0, e1, e2, e3, e4, e5, e6, e7, e8, e9, e10, e11, e12, e13, e14, some (.dat (.lst (ps.map enF))), some (.dat (enF (0, 1))), e17, e18] st = .ok (ps.map enF) st := by
    simp! only []
  exact (fS_frE he).trans (own_loop n e0 e1 e2 e3 e5 e6 e7 e8 e9 e10 e11 e12 e13 e14 (some (.dat (.lst (ps.map enF)))) e17 e18 st ps (0, 1) 0 e4 hg ⟨by decide, by simpa using h1, by decide⟩ (by omega))
def W : List D := (List.range 123).map fun (k : Nat) => .int (-61 + k)
section
variable (n : Nat) (a b : Int) [Bd a 10] [Bd b 10] (st : Sto)
theorem bd_range (k : Nat) (h : k ∈ List.range 123) : Bd (-61 + (k : Int)) 10 := ⟨by have := List.mem_range.mp h; omega⟩
theorem x_below (e0 e1 e3 e4 e5 e6 e7 e8 e11 e12 e13 e14 e15 e16 e17 e18 : Option Val) : evE (O prog n) (.lcf (.var 18) (.v 18) (.ex (.var 2)) (.cmp .le (.bin .mul (.var 18) (.var 10)) (.var 9))) [e0, e1, some (.new (.lst W)), e3, e4, e5, e6, e7, e8, some (.dat (.int a)), some (.dat (.int b)), e11, e12, e13, e14, e15, e16, e17, e18] st = .ok (.new (.lst (((List.range 123).filter fun (k : Nat) => decide ((-61 + (k : Int)) * b ≤ a)).map fun (k : Nat) => .int (-61 + k)))) st := by
  have hb : ∀ k ∈ List.range 123, big (-61 + (k : Int)) = true := fun k hk => by
    have := bd_range k hk
    simp only [big_of, Nat.reduceLeDiff]
  have hb2 : ∀ k ∈ List.range 123, big (2 * (-61 + (k : Int)) - 1) = true := fun k hk => by
    have := bd_range k hk
    exact big_of (k := 4 + 10 + 4 + 1) (h := Bd.sub) (by decide)
  refine fE_lcfE (by simp! only []; rfl) (compC_pure (fun (k : Nat) => decide ((-61 + (k : Int)) * b ≤ a)) (fun (k : Nat) => .int (-61 + k)) (fun x hx => ⟨_, by simp! only []; rfl, fun st => by simp! only [hb x hx, hb2 x hx], fun _ st => ⟨_, by simp! only []; rfl, rfl⟩⟩) st)
theorem x_above (e0 e1 e3 e4 e5 e6 e7 e8 e11 e12 e13 e14 e15 e16 e17 e18 : Option Val) : evE (O prog n) (.lcf (.var 18) (.v 18) (.ex (.var 2)) (.cmp .ge (.bin .mul (.var 18) (.var 10)) (.var 9))) [e0, e1, some (.new (.lst W)), e3, e4, e5, e6, e7, e8, some (.dat (.int a)), some (.dat (.int b)), e11, e12, e13, e14, e15, e16, e17, e18] st = .ok (.new (.lst (((List.range 123).filter fun (k : Nat) => decide (a ≤ (-61 + (k : Int)) * b)).map fun (k : Nat) => .int (-61 + k)))) st := by
  have hb : ∀ k ∈ List.range 123, big (-61 + (k : Int)) = true := fun k hk => by
    have := bd_range k hk
    simp only [big_of, Nat.reduceLeDiff]
  have hb2 : ∀ k ∈ List.range 123, big (2 * (-61 + (k : Int)) - 1) = true := fun k hk => by
    have := bd_range k hk
    exact big_of (k := 4 + 10 + 4 + 1) (h := Bd.sub) (by decide)
  refine fE_lcfE (by simp! only []; rfl) (compC_pure (fun (k : Nat) => decide (a ≤ (-61 + (k : Int)) * b)) (fun (k : Nat) => .int (-61 + k)) (fun x hx => ⟨_, by simp! only []; rfl, fun st => by simp! only [hb x hx, hb2 x hx], fun _ st => ⟨_, by simp! only []; rfl, rfl⟩⟩) st)
theorem x_best (e0 e1 e3 e4 e5 e6 e7 e8 e11 e12 e13 e14 e15 e16 e17 e18 : Option Val) : evE (O prog n) (.lcf (.var 18) (.v 18) (.ex (.var 2)) (.cmp .le (.bin .mul (.bin .sub (.bin .mul (.int 2) (.var 18)) (.int 1)) (.var 10)) (.bin .mul (.int 2) (.var 9)))) [e0, e1, some (.new (.lst W)), e3, e4, e5, e6, e7, e8, some (.dat (.int a)), some (.dat (.int b)), e11, e12, e13, e14, e15, e16, e17, e18] st = .ok (.new (.lst (((List.range 123).filter fun (k : Nat) => decide ((2 * (-61 + (k : Int)) - 1) * b ≤ 2 * a)).map fun (k : Nat) => .int (-61 + k)))) st := by
  have hb : ∀ k ∈ List.range 123, big (-61 + (k : Int)) = true := fun k hk => by
    have := bd_range k hk
    simp only [big_of, Nat.reduceLeDiff]
  have hb2 : ∀ k ∈ List.range 123, big (2 * (-61 + (k : Int)) - 1) = true := fun k hk => by
    have := bd_range k hk
    exact big_of (k := 4 + 10 + 4 + 1) (h := Bd.sub) (by decide)
  refine fE_lcfE (by simp! only []; rfl) (compC_pure (fun (k : Nat) => decide ((2 * (-61 + (k : Int)) - 1) * b ≤ 2 * a)) (fun (k : Nat) => .int (-61 + k)) (fun x hx => ⟨_, by simp! only []; rfl, fun st => by simp! only [hb x hx, hb2 x hx], fun _ st => ⟨_, by simp! only []; rfl, rfl⟩⟩) st)
end
/-! numbers of the law -/
theorem max_some {xs : List Int} {a : Int} (h : a ∈ xs) (h2 : ∀ b ∈ xs, b ≤ a) : xs.max? = some a := by
  rw [List.max?_eq_some_iff]; exact ⟨h, h2⟩
theorem min_some {xs : List Int} {a : Int} (h : a ∈ xs) (h2 : ∀ b ∈ xs, a ≤ b) : xs.min? = some a := by
  rw [List.min?_eq_some_iff]; exact ⟨h, h2⟩
theorem mem_w {P : Int → Prop} [DecidablePred P] {x : Int} (h1 : -61 ≤ x) (h2 : x ≤ 61) (hp : P x) : x ∈ ((List.range 123).filter fun (k : Nat) => decide (P (-61 + (k : Int)))).map fun (k : Nat) => -61 + (k : Int) := by
  rw [List.mem_map]
  refine ⟨(x + 61).toNat, List.mem_filter.mpr ⟨List.mem_range.mpr (by omega), ?_⟩, by omega⟩
  have : -61 + ((x + 61).toNat : Int) = x := by omega
  rw [this]; exact decide_eq_true hp
theorem of_w {P : Int → Prop} [DecidablePred P] {x : Int} (h : x ∈ ((List.range 123).filter fun (k : Nat) => decide (P (-61 + (k : Int)))).map fun (k : Nat) => -61 + (k : Int)) : P x := by
  rw [List.mem_map] at h
  obtain ⟨k, hk, rfl⟩ := h
  exact of_decide_eq_true (List.mem_filter.mp hk).2
section
variable {a b : Int} (ha : -60 ≤ a) (ha2 : a ≤ 60) (hb : 0 < b)
include ha ha2 hb
theorem q_lo : -61 ≤ a / b ∧ a / b ≤ 61 := by
  have h := Int.mul_ediv_add_emod a b
  have h1 := Int.emod_nonneg a (show b ≠ 0 by omega)
  have h2 := Int.emod_lt_of_pos a hb
  constructor
  · refine Int.le_ediv_of_mul_le hb ?_
    have : -61 * b ≤ -61 * 1 := Int.mul_le_mul_of_nonpos_left (by omega) (by omega)
    omega
  · refine Int.ediv_le_of_le_mul hb ?_
    have : 61 * 1 ≤ 61 * b := Int.mul_le_mul_of_nonneg_left (by omega) (by omega)
    omega
theorem m_below : (((List.range 123).filter fun (k : Nat) => decide ((-61 + (k : Int)) * b ≤ a)).map fun (k : Nat) => -61 + (k : Int)).max? = some (a / b) := by
  obtain ⟨h1, h2⟩ := q_lo ha ha2 hb
  refine max_some (mem_w (P := fun x => x * b ≤ a) h1 h2 (Int.ediv_mul_le a (by omega))) fun x hx => ?_
  exact Int.le_ediv_of_mul_le hb (of_w (P := fun x => x * b ≤ a) hx)
theorem m_above : (((List.range 123).filter fun (k : Nat) => decide (a ≤ (-61 + (k : Int)) * b)).map fun (k : Nat) => -61 + (k : Int)).min? = some (-(-a / b)) := by
  obtain ⟨h1, h2⟩ := q_lo (a := -a) (b := b) (by omega) (by omega) hb
  have h3 := Int.ediv_mul_le (-a) (show b ≠ 0 by omega)
  refine min_some (mem_w (P := fun x => a ≤ x * b) (by omega) (by omega) (by show a ≤ -(-a / b) * b; rw [Int.neg_mul]; omega)) fun x hx => ?_
  have h4 : a ≤ x * b := of_w (P := fun x => a ≤ x * b) hx
  have h5 : -x ≤ -a / b := Int.le_ediv_of_mul_le hb (by rw [Int.neg_mul]; omega)
  omega
theorem m_best : (((List.range 123).filter fun (k : Nat) => decide ((2 * (-61 + (k : Int)) - 1) * b ≤ 2 * a)).map fun (k : Nat) => -61 + (k : Int)).max? = some ((2 * a + b) / (2 * b)) := by
  have e : ∀ x : Int, (2 * x - 1) * b ≤ 2 * a ↔ x * (2 * b) ≤ 2 * a + b := fun x => by
    have e1 : (2 * x - 1) * b = x * (2 * b) - b := by rw [Int.sub_mul, Int.one_mul]; congr 1; ac_rfl
    rw [e1]; omega
  have hb2 : 0 < 2 * b := by omega
  have h1 : -61 ≤ (2 * a + b) / (2 * b) := by
    refine Int.le_ediv_of_mul_le hb2 ?_
    have : -61 * (2 * b) = -122 * b := by omega
    omega
  have h2 : (2 * a + b) / (2 * b) ≤ 61 := Int.ediv_le_of_le_mul hb2 (by omega)
  refine max_some (mem_w (P := fun x => (2 * x - 1) * b ≤ 2 * a) h1 h2 ((e _).mpr (Int.ediv_mul_le _ (by omega)))) fun x hx => ?_
  exact Int.le_ediv_of_mul_le hb2 ((e x).mp (of_w (P := fun x => (2 * x - 1) * b ≤ 2 * a) hx))
end
theorem div_scale {x y g a b : Int} (hg : 0 < g) (h : x * g = a) (h2 : y * g = b) : x / y = a / b := by
  subst h h2; exact (Int.mul_ediv_mul_of_pos_left x y hg).symm
theorem lt_scale {x y g a b z w h c d : Int} (hg : 0 < g) (h1 : x * g = a) (h2 : y * g = b) (hh : 0 < h) (h3 : z * h = c) (h4 : w * h = d) : (x * w < z * y) = (a * d < c * b) := by
  subst h1 h2 h3 h4
  have hp : 0 < g * h := Int.mul_pos hg hh
  have e1 : x * g * (w * h) = x * w * (g * h) := by ac_rfl
  have e2 : z * h * (y * g) = z * y * (g * h) := by ac_rfl
  rw [e1, e2]
  exact propext ⟨fun k => Int.mul_lt_mul_of_pos_right k hp, fun k => Int.lt_of_mul_lt_mul_right k (Int.le_of_lt hp)⟩
section
variable {a b : Int} (hb : 0 < b)
include hb
theorem fl_red : nm a b / dn a b = a / b := div_scale (gp (a := a) hb) (nm_mul hb) (dn_mul hb)
theorem ce_red : -(-nm a b / dn a b) = -(-a / b) := by rw [div_scale (gp (a := a) hb) (show -nm a b * _ = -a by rw [Int.neg_mul, nm_mul hb]) (dn_mul hb)]
theorem ne_red : (2 * nm a b + dn a b) / (2 * dn a b) = (2 * a + b) / (2 * b) :=
  div_scale (gp (a := a) hb) (by rw [Int.add_mul, Int.mul_assoc, nm_mul hb, dn_mul hb]) (by rw [Int.mul_assoc, dn_mul hb])
theorem lt_red {c d : Int} (hd : 0 < d) : (nm a b * dn c d < nm c d * dn a b) = (a * d < c * b) :=
  lt_scale (gp (a := a) hb) (nm_mul hb) (dn_mul hb) (gp (a := c) hd) (nm_mul hd) (dn_mul hd)
theorem lt_redr {x y : Int} : (x * dn a b < nm a b * y) = (x * b < a * y) := by
  have := lt_scale (x := x) (y := y) (g := 1) (a := x) (b := y) (by decide) (Int.mul_one x) (Int.mul_one y) (gp (a := a) hb) (nm_mul hb) (dn_mul hb)
  exact this
theorem lt_redl {x y : Int} : (nm a b * y < x * dn a b) = (a * y < x * b) := by
  have := lt_scale (gp (a := a) hb) (nm_mul (a := a) hb) (dn_mul (a := a) hb) (z := x) (w := y) (h := 1) (c := x) (d := y) (by decide) (Int.mul_one x) (Int.mul_one y)
  exact this
theorem nm_pos (ha : 0 < a) : 0 < nm a b := Int.pos_of_mul_pos_right (by rw [Int.mul_comm, nm_mul hb]; exact ha) (gp (a := a) hb)
theorem not_dbl : (nm (a * 2) (b * 2) = a * 2 ∧ dn (a * 2) (b * 2) = b * 2) = False := by
  have h := (tup_inj2 (red_mul (a := a) (b := b) 2 hb (by decide))).2
  have h2 := dn_le (a := a) hb
  refine eq_false fun k => ?_
  rw [h] at k
  omega
end
theorem nm_over {a b c d : Int} (hb : 0 < b) (hd : 0 < d) (hc : 0 < c) : nm (nm a b * dn c d) (dn a b * nm c d) = nm (a * d) (b * c) ∧ dn (nm a b * dn c d) (dn a b * nm c d) = dn (a * d) (b * c) := by
  have h := nm_mul (a := a) hb
  have h2 := dn_mul (a := a) hb
  have h3 := nm_mul (a := c) hd
  have h4 := dn_mul (a := c) hd
  refine tup_inj2 (red_congr (Int.mul_pos (dn_pos hb) (nm_pos hd hc)) (Int.mul_pos hb hc) ?_)
  generalize nm a b = x at *
  generalize dn a b = y at *
  generalize nm c d = z at *
  generalize dn c d = w at *
  grind
/-! the middle one -/
theorem mid_lo {p f s : Int × Int} (hp : Gd p) (hf : Gd f) (hs : Gd s) (h1 : leF s p) (h2 : leF f p) :
    ¬ (p.1 * (dn (f.1 * s.2 + s.1 * f.2) (f.2 * s.2 * 2)) < nm (f.1 * s.2 + s.1 * f.2) (f.2 * s.2 * 2) * p.2) := by
  have hY : 0 < f.2 * s.2 * 2 := Int.mul_pos (Int.mul_pos hf.1 hs.1) (by decide)
  rw [lt_redr hY]
  unfold leF at h1 h2
  have a := Int.mul_le_mul_of_nonneg_right h1 (Int.le_of_lt hf.1)
  have b := Int.mul_le_mul_of_nonneg_right h2 (Int.le_of_lt hs.1)
  have e1 : p.1 * (f.2 * s.2 * 2) = p.1 * s.2 * f.2 + p.1 * f.2 * s.2 := by grind
  have e2 : (f.1 * s.2 + s.1 * f.2) * p.2 = s.1 * p.2 * f.2 + f.1 * p.2 * s.2 := by grind
  omega
theorem mid_hi {p f s : Int × Int} (hp : Gd p) (hf : Gd f) (hs : Gd s) (h1 : leF p f) (h2 : leF p s) :
    ¬ (nm (f.1 * s.2 + s.1 * f.2) (f.2 * s.2 * 2) * p.2 < p.1 * (dn (f.1 * s.2 + s.1 * f.2) (f.2 * s.2 * 2))) := by
  have hY : 0 < f.2 * s.2 * 2 := Int.mul_pos (Int.mul_pos hf.1 hs.1) (by decide)
  rw [lt_redl hY]
  unfold leF at h1 h2
  have a := Int.mul_le_mul_of_nonneg_right h1 (Int.le_of_lt hs.1)
  have b := Int.mul_le_mul_of_nonneg_right h2 (Int.le_of_lt hf.1)
  have e1 : p.1 * (f.2 * s.2 * 2) = p.1 * s.2 * f.2 + p.1 * f.2 * s.2 := by grind
  have e2 : (f.1 * s.2 + s.1 * f.2) * p.2 = s.1 * p.2 * f.2 + f.1 * p.2 * s.2 := by grind
  omega
theorem srt_get {l : List (Int × Int)} (hs : Srt l) {i j : Nat} (hij : i < j) (hj : j < l.length) : leF (l.getD i (0, 1)) (l.getD j (0, 1)) := by
  have := List.pairwise_iff_getElem.mp hs i j (by omega) hj hij
  simpa [hj, show i < l.length by omega] using this
theorem leF_refl (p : Int × Int) : leF p p := Int.le_refl _
theorem srt_le {l : List (Int × Int)} (hs : Srt l) {i j : Nat} (hij : i ≤ j) (hj : j < l.length) : leF (l.getD i (0, 1)) (l.getD j (0, 1)) := by
  rcases Nat.lt_or_eq_of_le hij with h | h
  · exact srt_get hs h hj
  · rw [h]; exact leF_refl _
theorem cnt_drop {α : Type} (l : List α) (c : α → Bool) (k : Nat) (h : ∀ p ∈ l.drop k, c p = false) : (l.filter c).length ≤ k := by
  have e : (l.drop k).filter c = [] := List.filter_eq_nil_iff.mpr fun p hp => by rw [h p hp]; decide
  conv => lhs; rw [← List.take_append_drop k l, List.filter_append, e, List.append_nil]
  exact Nat.le_trans (List.length_filter_le ..) (by rw [List.length_take]; omega)
theorem cnt_take {α : Type} (l : List α) (c : α → Bool) (k : Nat) (h : ∀ p ∈ l.take k, c p = false) : (l.filter c).length ≤ l.length - k := by
  have e : (l.take k).filter c = [] := List.filter_eq_nil_iff.mpr fun p hp => by rw [h p hp]; decide
  conv => lhs; rw [← List.take_append_drop k l, List.filter_append, e, List.nil_append]
  exact Nat.le_trans (List.length_filter_le ..) (by rw [List.length_drop]; omega)
theorem mid_cnt {l ps : List (Int × Int)} (hs : Srt l) (pm : l.Perm ps) (hg : ∀ p ∈ ps, Gd p) (h0 : ps ≠ []) :
    2 * (ps.filter fun p => decide (p.1 * (midF l).2 < (midF l).1 * p.2)).length ≤ ps.length ∧ 2 * (ps.filter fun p => decide ((midF l).1 * p.2 < p.1 * (midF l).2)).length ≤ ps.length := by
  have hg' : ∀ p ∈ l, Gd p := fun p hp => hg p (pm.mem_iff.mp hp)
  have hll : 0 < l.length := by rw [pm.length_eq]; exact List.length_pos_iff.mpr h0
  have m1 : Gd (l.getD ((l.length - 1) / 2) (0, 1)) := by
    have hlt : (l.length - 1) / 2 < l.length := by omega
    refine hg' _ ?_
    simp [hlt]
  have m2 : Gd (l.getD (l.length / 2) (0, 1)) := by
    have hlt : l.length / 2 < l.length := by omega
    refine hg' _ ?_
    simp [hlt]
  rw [← (pm.filter _).length_eq, ← (pm.filter _).length_eq, ← pm.length_eq]
  constructor
  · have := cnt_drop l (fun p => decide (p.1 * (midF l).2 < (midF l).1 * p.2)) (l.length / 2) fun p hp => by
      obtain ⟨j, hj, rfl⟩ := List.mem_iff_getElem.mp hp
      rw [List.length_drop] at hj
      have e : (l.drop (l.length / 2))[j] = l.getD (l.length / 2 + j) (0, 1) := by simp [show l.length / 2 + j < l.length by omega]
      have hm : l.getD (l.length / 2 + j) (0, 1) ∈ l := by simp [show l.length / 2 + j < l.length by omega]
      rw [e]
      exact decide_eq_false (mid_lo (hg' _ hm) m1 m2 (srt_le hs (by omega) (by omega)) (srt_le hs (by omega) (by omega)))
    omega
  · have := cnt_take l (fun p => decide ((midF l).1 * p.2 < p.1 * (midF l).2)) ((l.length - 1) / 2 + 1) fun p hp => by
      obtain ⟨j, hj, rfl⟩ := List.mem_iff_getElem.mp hp
      rw [List.length_take] at hj
      have e : (l.take ((l.length - 1) / 2 + 1))[j] = l.getD j (0, 1) := by simp [show j < l.length by omega]
      have hm : l.getD j (0, 1) ∈ l := by simp [show j < l.length by omega]
      rw [e]
      exact decide_eq_false (mid_hi (hg' _ hm) m1 m2 (srt_le hs (by omega) (by omega)) (srt_le hs (by omega) (by omega)))
    omega
theorem mid_odd {l ps : List (Int × Int)} (pm : l.Perm ps) (hg : ∀ p ∈ ps, Gd p) (hr : ∀ p ∈ ps, nm p.1 p.2 = p.1 ∧ dn p.1 p.2 = p.2) (ho : ps.length % 2 = 1) : midF l ∈ ps := by
  have hll : l.length % 2 = 1 := by rw [pm.length_eq]; exact ho
  have e : (l.length - 1) / 2 = l.length / 2 := by omega
  have hlt : l.length / 2 < l.length := by omega
  have hm : l.getD (l.length / 2) (0, 1) ∈ ps := pm.mem_iff.mp (by simp [hlt])
  have g := hg _ hm
  have r := hr _ hm
  have : midF l = l.getD (l.length / 2) (0, 1) := by
    unfold midF
    simp only [e]
    generalize l.getD (l.length / 2) (0, 1) = f at *
    have h2 : 0 < f.2 * f.2 * 2 := Int.mul_pos (Int.mul_pos g.1 g.1) (by decide)
    have := tup_inj2 (red_congr (a := f.1 * f.2 + f.1 * f.2) (c := f.1) h2 g.1 (by grind))
    rw [this.1, this.2, r.1, r.2]
  rw [this]; exact hm
/-! the walk of the law -/
theorem hf15 : prog.fns[15]? = some { np := 2, nv := 4, df := [], tmp := false, body := g_taken } := rfl
theorem hf16 : prog.fns[16]? = some { np := 2, nv := 3, df := [], tmp := false, body := g_alike 16 } := rfl
def Six (p : Int × Int) : Prop := ∃ x y : Int, x.natAbs ≤ 20 ∧ 0 < y ∧ y ≤ 6 ∧ p = (nm x y, dn x y)
theorem draw (ns : List Int) (d : D) (hd : RowOk ns d) (many : Int) (h0 : 0 < many) (h1 : many < 10 ^ 30) : ∃ v d', callN prog 8 false 15 [.ref 0, .int many] [d] = .ok (.dat (.int v)) [d'] ∧ 0 ≤ v ∧ v < many ∧ RowOk ns d' := by
  obtain ⟨v, d', e, r⟩ := taken (n := 7) hf15 (ns := ns) (r := 0) (d := d) (st := [d]) rfl hd h0 h1
  exact ⟨v, d', e, r⟩
theorem rows_six : ∀ (ds : List D), (∀ d ∈ ds, ∃ p, Six p ∧ d = enF p) → ∃ ps : List (Int × Int), ds = ps.map enF ∧ ∀ p ∈ ps, Six p
  | [], _ => ⟨[], rfl, by simp⟩
  | d :: r, h => by
    obtain ⟨p, hp, rfl⟩ := h d List.mem_cons_self
    obtain ⟨ps, rfl, hq⟩ := rows_six r fun x hx => h x (List.mem_cons_of_mem _ hx)
    exact ⟨p :: ps, rfl, List.forall_mem_cons.mpr ⟨hp, hq⟩⟩
theorem x_rows (ns : List Int) (d : D) (hd : RowOk ns d) : ∃ (ps : List (Int × Int)) (d' : D), RowOk ns d' ∧ ps.length ≤ 4 ∧ (∀ p ∈ ps, Six p) ∧ ∀ (e0 e2 e3 e4 e5 e6 e7 e8 e9 e10 e11 e12 e13 e14 e15 e16 e17 e18 : Option Val), evE (O prog 8) (.lc (.call 2 [(.bin .sub (.call 15 [(.var 1), (.int 40)]) (.int 20)), (.bin .add (.int 1) (.call 15 [(.var 1), (.int 6)]))]) (.v 18) (.rg1 (.call 15 [(.var 1), (.int 5)]))) [e0, some (.dat (.ref 0)), e2, e3, e4, e5, e6, e7, e8, e9, e10, e11, e12, e13, e14, e15, e16, e17, e18] [d] = .ok (.new (.lst (ps.map enF))) [d'] := by
  obtain ⟨m, d1, f0, hm0, hm1, hd1⟩ := draw ns d hd 5 (by decide) (by decide)
  obtain ⟨ds, st', hl, hP, ⟨d', rfl, hd'⟩, hc⟩ := compL_exE (fun st => ∃ d, st = [d] ∧ RowOk ns d) (fun d => ∃ p, Six p ∧ d = enF p) (fun E => ∃ e0 e2 e3 e4 e5 e6 e7 e8 e9 e10 e11 e12 e13 e14 e15 e16 e17 e18 : Option Val, E = [e0, some (.dat (.ref 0)), e2, e3, e4, e5, e6, e7, e8, e9, e10, e11, e12, e13, e14, e15, e16, e17, e18])
    (fun E' st' => evE (O prog 8) (.call 2 [(.bin .sub (.call 15 [(.var 1), (.int 40)]) (.int 20)), (.bin .add (.int 1) (.call 15 [(.var 1), (.int 6)]))]) E' st') (fun _ st' => .ok (.dat (.bl true)) st') (.v 18) (fun (k : Nat) => D.int k) (List.range m.toNat) (by
      rintro x _ st ⟨d, rfl, hd⟩
      obtain ⟨a, d1, f1, ha0, ha1, hd1⟩ := draw ns d hd 40 (by decide) (by decide)
      obtain ⟨b, d2, f2, hb0, hb1, hd2⟩ := draw ns d1 hd1 6 (by decide) (by decide)
      have hy : 0 < 1 + b := by omega
      have : Bd (1 + b) 10 := ⟨by omega⟩
      refine ⟨enF (nm (a - 20) (1 + b), dn (a - 20) (1 + b)), [d2], ⟨_, ⟨a - 20, 1 + b, by omega, hy, by omega, rfl⟩, rfl⟩, ⟨d2, rfl, hd2⟩, ?_⟩
      rintro E ⟨e0, e2, e3, e4, e5, e6, e7, e8, e9, e10, e11, e12, e13, e14, e15, e16, e17, e18, rfl⟩
      refine ⟨_, by simp! only []; rfl, rfl, ?_⟩
      simp! only [f1, f2, c_reduced, hy, enF]) [d1] ⟨d1, rfl, hd1⟩
  obtain ⟨ps, rfl, hs⟩ := rows_six ds hP
  have hlen : ps.length ≤ 4 := by simp at hl; omega
  refine ⟨ps, d', hd', hlen, hs, fun e0 e2 e3 e4 e5 e6 e7 e8 e9 e10 e11 e12 e13 e14 e15 e16 e17 e18 => ?_⟩
  have hr : rangeL 0 m = some ((List.range m.toNat).map fun (k : Nat) => D.int k) := by
    have := range0_ok (n := m.toNat) (by have : szMax = 5000000 := rfl; omega)
    rw [show ((m.toNat : Nat) : Int) = m by omega] at this
    exact this
  have hc' := hc [e0, some (.dat (.ref 0)), e2, e3, e4, e5, e6, e7, e8, e9, e10, e11, e12, e13, e14, e15, e16, e17, e18] ⟨e0, e2, e3, e4, e5, e6, e7, e8, e9, e10, e11, e12, e13, e14, e15, e16, e17, e18, rfl⟩ []
  simp only [List.reverse_nil, List.nil_append] at hc'
  exact fE_lcE (by simp! only [f0, hr]) hc'
section
variable (n : Nat) (m : Int × Int) [Bd m.1 30] [Bd m.2 30] (ps : List (Int × Int)) (hg : ∀ p ∈ ps, Gd p) (st : Sto)
include hg
theorem x_lo (e0 e1 e2 e3 e4 e6 e7 e8 e9 e10 e11 e12 e13 e14 e16 e17 e18 : Option Val) : evE (O prog n) (.lcf (.int 1) (.v 4) (.ex (.var 15)) (.cmp .lt (.bin .mul (.sub (.var 4) (.int 0)) (.sub (.var 5) (.int 1))) (.bin .mul (.sub (.var 5) (.int 0)) (.sub (.var 4) (.int 1))))) [e0, e1, e2, e3, e4, some (.dat (enF m)), e6, e7, e8, e9, e10, e11, e12, e13, e14, some (.dat (.lst (ps.map enF))), e16, e17, e18] st = .ok (.new (.lst ((ps.filter fun p => decide (p.1 * m.2 < m.1 * p.2)).map fun _ => .int 1))) st := by
  have h1 : ∀ p ∈ ps, big p.1 = true := fun p hp => by
    obtain ⟨b1, b2⟩ := (hg p hp).bd
    exact big_of (by decide)
  have h2 : ∀ p ∈ ps, big p.2 = true := fun p hp => by
    obtain ⟨b1, b2⟩ := (hg p hp).bd
    exact big_of (by decide)
  refine fE_lcfE (by simp! only []; rfl) (compC_pure (fun (p : Int × Int) => decide (p.1 * m.2 < m.1 * p.2)) (fun (_ : Int × Int) => .int 1) (fun x hx => ⟨_, by simp! only []; rfl, fun st => by simp! only [h1 x hx, h2 x hx, enF], fun _ st => ⟨_, by simp! only []; rfl, rfl⟩⟩) st)
theorem x_hi (e0 e1 e2 e3 e4 e6 e7 e8 e9 e10 e11 e12 e13 e14 e16 e17 e18 : Option Val) : evE (O prog n) (.lcf (.int 1) (.v 4) (.ex (.var 15)) (.cmp .gt (.bin .mul (.sub (.var 4) (.int 0)) (.sub (.var 5) (.int 1))) (.bin .mul (.sub (.var 5) (.int 0)) (.sub (.var 4) (.int 1))))) [e0, e1, e2, e3, e4, some (.dat (enF m)), e6, e7, e8, e9, e10, e11, e12, e13, e14, some (.dat (.lst (ps.map enF))), e16, e17, e18] st = .ok (.new (.lst ((ps.filter fun p => decide (m.1 * p.2 < p.1 * m.2)).map fun _ => .int 1))) st := by
  have h1 : ∀ p ∈ ps, big p.1 = true := fun p hp => by
    obtain ⟨b1, b2⟩ := (hg p hp).bd
    exact big_of (by decide)
  have h2 : ∀ p ∈ ps, big p.2 = true := fun p hp => by
    obtain ⟨b1, b2⟩ := (hg p hp).bd
    exact big_of (by decide)
  refine fE_lcfE (by simp! only []; rfl) (compC_pure (fun (p : Int × Int) => decide (m.1 * p.2 < p.1 * m.2)) (fun (_ : Int × Int) => .int 1) (fun x hx => ⟨_, by simp! only []; rfl, fun st => by simp! only [h1 x hx, h2 x hx, enF], fun _ st => ⟨_, by simp! only []; rfl, rfl⟩⟩) st)
end
theorem six_gd {p : Int × Int} (h : Six p) : Gd p ∧ p.2 ≤ 6 ∧ nm p.1 p.2 = p.1 ∧ dn p.1 p.2 = p.2 := by
  obtain ⟨x, y, h1, h2, h3, rfl⟩ := h
  have a := dn_pos (a := x) h2
  have b := dn_le (a := x) h2
  have c := nm_le (a := x) h2
  exact ⟨⟨a, by show dn x y ≤ 60; omega, by show (nm x y).natAbs ≤ 60; omega⟩, by show dn x y ≤ 6; omega, nm_self h2, dn_self h2⟩
theorem prq_six : ∀ (ps : List (Int × Int)), (∀ p ∈ ps, Six p) → prq ps ≤ 6 ^ ps.length
  | [], _ => by decide
  | p :: r, h => by
    obtain ⟨g, h6, _⟩ := six_gd (h p List.mem_cons_self)
    have hr := prq_six r fun q hq => h q (List.mem_cons_of_mem _ hq)
    have hp : 0 < prq r := prq_pos fun q hq => (six_gd (h q (List.mem_cons_of_mem _ hq))).1
    rw [prq, List.length_cons, Int.pow_succ, Int.mul_comm]
    exact Int.mul_le_mul hr h6 (Int.le_of_lt g.1) (by have := Int.pow_pos (n := 6) (m := r.length) (by decide); omega)
theorem mem_enF (m : Int × Int) (ps : List (Int × Int)) (h : m ∈ ps) : memD (enF m) (ps.map enF) = some true := by
  have hp : ∀ p : Int × Int, pd (enF p) pdMax = true := fun p => by rfl
  have he : eqD (enF m) (enF m) = true := by simp [enF, eqD, eqL]
  unfold memD
  rw [if_pos (by simp [hp, allPd])]
  congr 1
  rw [List.any_eq_true]
  exact ⟨enF m, List.mem_map_of_mem h, he⟩
theorem hW : rangeL (-61) 62 = some W := by
  rw [range_ok (by decide)]; rfl
theorem pure_law (ns : List Int) (_ : ns.length ≤ 63) : ∃ st, callN prog 9 false 19 [.scr ns] [] = .ok (.dat (.bl true)) st := by
  obtain ⟨a0, r1, t1, ha0, ha1, hr1⟩ := draw ns _ (RowOk.start ns 61 (by decide) (by decide)) 121 (by decide) (by decide)
  obtain ⟨b0, r2, t2, hb0, hb1, hr2⟩ := draw ns r1 hr1 60 (by decide) (by decide)
  obtain ⟨c0, r3, t3, hc0, hc1, hr3⟩ := draw ns r2 hr2 121 (by decide) (by decide)
  obtain ⟨d0, r4, t4, hd0, hd1, hr4⟩ := draw ns r3 hr3 60 (by decide) (by decide)
  obtain ⟨ps, r5, hr5, hpl, hsix, xr⟩ := x_rows ns r4 hr4
  obtain ⟨a, ea⟩ : ∃ a, a0 - 60 = a := ⟨_, rfl⟩
  obtain ⟨b, eb⟩ : ∃ b, 1 + b0 = b := ⟨_, rfl⟩
  obtain ⟨c, ec⟩ : ∃ c, c0 - 60 = c := ⟨_, rfl⟩
  obtain ⟨d, ed⟩ : ∃ d, 1 + d0 = d := ⟨_, rfl⟩
  have hb : 0 < b := by omega
  have hd : 0 < d := by omega
  have ba : Bd a 10 := ⟨by omega⟩
  have bb : Bd b 10 := ⟨by omega⟩
  have bc : Bd c 10 := ⟨by omega⟩
  have bd : Bd d 10 := ⟨by omega⟩
  have hbd : b * d ≤ 5000000 := by
    have : b * d ≤ 60 * 60 := Int.mul_le_mul (by omega) (by omega) (by omega) (by decide)
    omega
  have hbd0 : 0 < b * d := Int.mul_pos hb hd
  have hb2 : 0 < b * 2 := by omega
  obtain ⟨rows, hrows⟩ : ∃ rows, (nm a b, dn a b) :: (nm c d, dn c d) :: ps = rows := ⟨_, rfl⟩
  have gab : Gd (nm a b, dn a b) := ⟨dn_pos hb, by have := dn_le (a := a) hb; show dn a b ≤ 60; omega, by have := nm_le (a := a) hb; show (nm a b).natAbs ≤ 60; omega⟩
  have gcd' : Gd (nm c d, dn c d) := ⟨dn_pos hd, by have := dn_le (a := c) hd; show dn c d ≤ 60; omega, by have := nm_le (a := c) hd; show (nm c d).natAbs ≤ 60; omega⟩
  have hg : ∀ p ∈ rows, Gd p := by
    rw [← hrows]
    exact List.forall_mem_cons.mpr ⟨gab, List.forall_mem_cons.mpr ⟨gcd', fun p hp => (six_gd (hsix p hp)).1⟩⟩
  have hred : ∀ p ∈ rows, nm p.1 p.2 = p.1 ∧ dn p.1 p.2 = p.2 := by
    rw [← hrows]
    exact List.forall_mem_cons.mpr ⟨⟨nm_self hb, dn_self hb⟩, List.forall_mem_cons.mpr ⟨⟨nm_self hd, dn_self hd⟩, fun p hp => (six_gd (hsix p hp)).2.2⟩⟩
  have hne : rows ≠ [] := by rw [← hrows]; simp
  have hlen : rows.length ≤ 10 := by rw [← hrows]; simp; omega
  have hprq : prq rows ≤ 5000000 := by
    have h6 := prq_six ps hsix
    have h7 : (6 : Int) ^ ps.length ≤ 6 ^ 4 := by
      have := Nat.pow_le_pow_right (n := 6) (by decide) hpl
      exact_mod_cast this
    have hp : 0 < prq ps := prq_pos fun q hq => (six_gd (hsix q hq)).1
    rw [← hrows, prq, prq]
    have h8 : dn c d * prq ps ≤ 60 * 6 ^ 4 := Int.mul_le_mul gcd'.2.1 (by omega) (by omega) (by decide)
    have h9 : dn a b * (dn c d * prq ps) ≤ 60 * (60 * 6 ^ 4) := Int.mul_le_mul gab.2.1 h8 (Int.mul_nonneg (Int.le_of_lt gcd'.1) (by omega)) (by decide)
    show dn a b * (dn c d * prq ps) ≤ 5000000
    omega
  have hrows' : ([D.tup [.int (nm a b), .int (dn a b)], D.tup [.int (nm c d), .int (dn c d)]] ++ ps.map enF) = rows.map enF := by rw [← hrows]; rfl
  have hsz : 2 + ps.length ≤ szMax := by have : szMax = 5000000 := rfl; omega
  obtain ⟨l, hmid, hsrt, pm⟩ := c_median 5 rows [r5] hg hne (by omega)
  obtain ⟨k1, k2⟩ := mid_cnt hsrt pm hg hne
  obtain ⟨bm1, bm2⟩ : Bd (midF l).1 30 ∧ Bd (midF l).2 30 := by
    have hg' : ∀ p ∈ l, Gd p := fun p hp => hg p (pm.mem_iff.mp hp)
    have hll : 0 < l.length := by rw [pm.length_eq]; exact List.length_pos_iff.mpr hne
    have m1 : Gd (l.getD ((l.length - 1) / 2) (0, 1)) := by
      have hlt : (l.length - 1) / 2 < l.length := by omega
      exact hg' _ (by simp [hlt])
    have m2 : Gd (l.getD (l.length / 2) (0, 1)) := by
      have hlt : l.length / 2 < l.length := by omega
      exact hg' _ (by simp [hlt])
    obtain ⟨b1, b2⟩ := m1.bd
    obtain ⟨b3, b4⟩ := m2.bd
    unfold midF
    exact ⟨(inferInstance : Bd (nm _ _) (6 + 6 + (6 + 6) + 1)).mono (by decide), (inferInstance : Bd (dn _ _) (6 + 6 + bl 2)).mono (by decide)⟩
  have xlo := fun st => x_lo 8 (midF l) rows hg st
  have xhi := fun st => x_hi 8 (midF l) rows hg st
  have k1' : ((rows.length : Int) < 2 * ((rows.filter fun p => decide (p.1 * (midF l).2 < (midF l).1 * p.2)).length : Int)) = False := eq_false (by omega)
  have k2' : ((rows.length : Int) < 2 * ((rows.filter fun p => decide ((midF l).1 * p.2 < p.1 * (midF l).2)).length : Int)) = False := eq_false (by omega)
  have al : ∀ d st, alk 7 d → callN prog 8 false 16 [d, d] st = .ok (.dat (.bl true)) st := fun d st h => alike hf16 7 d st h
  have hodd : ((rows.length : Int) % 2 = 1) → memD (enF (midF l)) (rows.map enF) = some true := fun h => mem_enF _ _ (mid_odd pm hg hred (by omega))
  have ct := c_total 5 rows [r5] hg hprq hlen
  have xm1 := m_below (a := a) (b := b) (by omega) (by omega) hb
  have xm2 := m_above (a := a) (b := b) (by omega) (by omega) hb
  have xm3 := m_best (a := a) (b := b) (by omega) (by omega) hb
  have hown := fun (e0 e1 e2 e3 e4 e5 e6 e7 e8 e9 e10 e11 e12 e13 e14 e17 e18 : Option Val) => own_fr 7 e0 e1 e2 e3 e4 e5 e6 e7 e8 e9 e10 e11 e12 e13 e14 e17 e18 rows [r5] hg hprq hlen
  have ale : ∀ p, alk 7 (enF p) = True := fun p => by simp only [enF, alk_non, alk_bl, alk_int, alk_str, alk_tup, alk_lst, allk_nil, allk_cons, allk_map, sz_le, List.length_cons, List.length_nil, Nat.reduceAdd, Nat.reduceLeDiff, and_true]
  have hk1 : big ((rows.filter fun p => decide (p.1 * (midF l).2 < (midF l).1 * p.2)).length : Int) = true := big_int (by omega) (by omega)
  have hk2 : big ((rows.filter fun p => decide ((midF l).1 * p.2 < p.1 * (midF l).2)).length : Int) = true := big_int (by omega) (by omega)
  have hb5 : b ≤ 5000000 := by omega
  have pda : 0 < dn a b := dn_pos hb
  have pdc : 0 < dn c d := dn_pos hd
  have hd5 : d ≤ 5000000 := by omega
  by_cases hc : 0 < c
  · have hbc0 : 0 < b * c := Int.mul_pos hb hc
    have hbc : b * c ≤ 5000000 := by
      have : b * c ≤ 60 * 60 := Int.mul_le_mul (by omega) (by omega) (by omega) (by decide)
      omega
    have hnc : 0 < nm c d := nm_pos hd hc
    by_cases ho : (rows.length : Int) % 2 = 1
    · refine ⟨[r5], ?_⟩
      simp! (maxDischargeDepth := 8) only [u_law, b_law, alk_non, alk_bl, alk_int, alk_str, alk_tup, alk_lst, allk_nil, allk_cons, allk_map, sz_le, t1, t2, t3, t4, ea, eb, ec, ed, c_reduced, c_low, al, hb, hd, hb5, hd5, pda, pdc, hbc, hbc0, hnc, hbd, hbd0, hb2, hc, ho, c_isfr, nm_self, dn_self, not_dbl, c_plus, c_minus, c_times, c_over, nm_add, dn_add, nm_sub, dn_sub, nm_times, dn_times, nm_over, lt_red, c_less, c_truth, hW, ↓x_below, ↓x_above, ↓x_best, xm1, xm2, xm3, c_floor, c_ceil, c_near, fl_red, ce_red, ne_red, ↓xr, hsz, hrows', ↓hown, hk1, hk2, ale, ct, hmid, ↓xlo, ↓xhi, k1', k2', hodd, cmpF_nil, ↓val_fr, c_want_l]
    · refine ⟨[r5], ?_⟩
      simp! (maxDischargeDepth := 8) only [u_law, b_law, alk_non, alk_bl, alk_int, alk_str, alk_tup, alk_lst, allk_nil, allk_cons, allk_map, sz_le, t1, t2, t3, t4, ea, eb, ec, ed, c_reduced, c_low, al, hb, hd, hb5, hd5, pda, pdc, hbc, hbc0, hnc, hbd, hbd0, hb2, hc, ho, c_isfr, nm_self, dn_self, not_dbl, c_plus, c_minus, c_times, c_over, nm_add, dn_add, nm_sub, dn_sub, nm_times, dn_times, nm_over, lt_red, c_less, c_truth, hW, ↓x_below, ↓x_above, ↓x_best, xm1, xm2, xm3, c_floor, c_ceil, c_near, fl_red, ce_red, ne_red, ↓xr, hsz, hrows', ↓hown, hk1, hk2, ale, ct, hmid, ↓xlo, ↓xhi, k1', k2', hodd, cmpF_nil, ↓val_fr, c_want_l]
  · by_cases ho : (rows.length : Int) % 2 = 1
    · refine ⟨[r5], ?_⟩
      simp! (maxDischargeDepth := 8) only [u_law, b_law, alk_non, alk_bl, alk_int, alk_str, alk_tup, alk_lst, allk_nil, allk_cons, allk_map, sz_le, t1, t2, t3, t4, ea, eb, ec, ed, c_reduced, c_low, al, hb, hd, hb5, hd5, pda, pdc, hbd, hbd0, hb2, hc, ho, c_isfr, nm_self, dn_self, not_dbl, c_plus, c_minus, c_times, c_over, nm_add, dn_add, nm_sub, dn_sub, nm_times, dn_times, nm_over, lt_red, c_less, c_truth, hW, ↓x_below, ↓x_above, ↓x_best, xm1, xm2, xm3, c_floor, c_ceil, c_near, fl_red, ce_red, ne_red, ↓xr, hsz, hrows', ↓hown, hk1, hk2, ale, ct, hmid, ↓xlo, ↓xhi, k1', k2', hodd, cmpF_nil, ↓val_fr, c_want_l]
    · refine ⟨[r5], ?_⟩
      simp! (maxDischargeDepth := 8) only [u_law, b_law, alk_non, alk_bl, alk_int, alk_str, alk_tup, alk_lst, allk_nil, allk_cons, allk_map, sz_le, t1, t2, t3, t4, ea, eb, ec, ed, c_reduced, c_low, al, hb, hd, hb5, hd5, pda, pdc, hbd, hbd0, hb2, hc, ho, c_isfr, nm_self, dn_self, not_dbl, c_plus, c_minus, c_times, c_over, nm_add, dn_add, nm_sub, dn_sub, nm_times, dn_times, nm_over, lt_red, c_less, c_truth, hW, ↓x_below, ↓x_above, ↓x_best, xm1, xm2, xm3, c_floor, c_ceil, c_near, fl_red, ce_red, ne_red, ↓xr, hsz, hrows', ↓hown, hk1, hk2, ale, ct, hmid, ↓xlo, ↓xhi, k1', k2', hodd, cmpF_nil, ↓val_fr, c_want_l]
end Pk10

end
section
set_option Elab.async false
set_option maxRecDepth 100000
namespace Pk10H
open PySem PySem.Spec PyProof.Rows L2 Mp
def LK (K : PySem.W.Frag) (fs cs : List Addr) : Lk := ⟨K, nmOf ["value"], fun c => cs.getD c 0, fun f => fs.getD f 0⟩
theorem all_mk {P : Program} {w : World} {K : PySem.W.Frag} {h : Heap} {mg : Str → Option Value} {fa : Addr} (hP : P = PySem.Challenge.pw_wheelrace_k10_whole_fractions) (X : K.In h) (G : h.Ns mainGlobals mg) (hfa : mg "law" = some (.ref fa))
    {f0 f1 f2 f3 f4 f5 f6 f7 f8 f9 f10 f11 f12 f13 f14 f15 f16 f17 f18 f19 C0 C1 g1 h1 d1 : Addr}
    {od0 an0 od1 an1 od2 an2 od3 an3 od4 an4 od5 an5 od6 an6 od7 an7 od8 an8 od9 an9 od10 an10 od11 an11 od12 an12 od13 an13 od14 an14 od15 an15 od16 an16 od17 an17 od18 an18 od19 an19 : Option Addr}
    {sl0 sl1 sl2 sl3 sl4 sl5 sl6 sl7 sl8 sl9 sl10 sl11 sl12 sl13 sl14 sl15 sl16 sl17 sl18 sl19 : Array (Option Value)}
    {oc0 kV0 dc0 pm0 cd0 ct0 oc1 kV1 dc1 pm1 cd1 ct1 oc2 kV2 dc2 pm2 cd2 ct2 oc3 kV3 dc3 pm3 cd3 ct3 oc4 kV4 dc4 pm4 cd4 ct4 oc5 kV5 dc5 pm5 cd5 ct5 oc6 kV6 dc6 pm6 cd6 ct6 oc7 kV7 dc7 pm7 cd7 ct7 oc8 kV8 dc8 pm8 cd8 ct8 oc9 kV9 dc9 pm9 cd9 ct9 oc10 kV10 dc10 pm10 cd10 ct10 oc11 kV11 dc11 pm11 cd11 ct11 oc12 kV12 dc12 pm12 cd12 ct12 oc13 kV13 dc13 pm13 cd13 ct13 oc14 kV14 dc14 pm14 cd14 ct14 oc15 kV15 dc15 pm15 cd15 ct15 oc16 kV16 dc16 pm16 cd16 ct16 oc17 kV17 dc17 pm17 cd17 ct17 oc18 kV18 dc18 pm18 cd18 ct18 oc19 kV19 dc19 pm19 cd19 ct19 : Value}
    {nm1 qn1 : Str} {N1 : Addr} {bs1 bm1 : List Value} {sn1 : List Str} {sub1 : List Value} {ab1 : Bool} {col1 : Option Bool} {dd1 : Option Addr} {m01 m11 m21 m31 m51 : Option Value}
    {ic1 idc1 ipm1 ict1 icl1 itc1 : Value} {iod1 ian1 ihd1 itd1 : Option Addr} {isl1 ihs1 its1 : Array (Option Value)} {ivs1 : Array Value} {fi1 : Str} {tf1 : Tok}
    (a0 : PySem.W.nsIn K mainGlobals "is_whole" = some (some (.ref f0)))
    (l0 : K.lookup f0 = some ⟨oc0, od0, .func (PySem.W.fnOf "is_whole" "is_whole" (defArgs Pk10.s_is_whole) (defBody Pk10.s_is_whole) (defScope Pk10.s_is_whole) .none kV0 dc0 pm0 an0 cd0 ct0), sl0⟩)
    (c0 : PySem.W.codeIn K cd0 "is_whole" = true)
    (k0 : PySem.W.keepIn K (.ref f0) = true)
    (a1 : PySem.W.nsIn K mainGlobals "is_row" = some (some (.ref f1)))
    (l1 : K.lookup f1 = some ⟨oc1, od1, .func (PySem.W.fnOf "is_row" "is_row" (defArgs Pk10.s_is_row) (defBody Pk10.s_is_row) (defScope Pk10.s_is_row) .none kV1 dc1 pm1 an1 cd1 ct1), sl1⟩)
    (c1 : PySem.W.codeIn K cd1 "is_row" = true)
    (k1 : PySem.W.keepIn K (.ref f1) = true)
    (a2 : PySem.W.nsIn K mainGlobals "reduced" = some (some (.ref f2)))
    (l2 : K.lookup f2 = some ⟨oc2, od2, .func (PySem.W.fnOf "reduced" "reduced" (defArgs Pk10.s_reduced) (defBody Pk10.s_reduced) (defScope Pk10.s_reduced) .none kV2 dc2 pm2 an2 cd2 ct2), sl2⟩)
    (c2 : PySem.W.codeIn K cd2 "reduced" = true)
    (k2 : PySem.W.keepIn K (.ref f2) = true)
    (a3 : PySem.W.nsIn K mainGlobals "is_fraction" = some (some (.ref f3)))
    (l3 : K.lookup f3 = some ⟨oc3, od3, .func (PySem.W.fnOf "is_fraction" "is_fraction" (defArgs Pk10.s_is_fraction) (defBody Pk10.s_is_fraction) (defScope Pk10.s_is_fraction) .none kV3 dc3 pm3 an3 cd3 ct3), sl3⟩)
    (c3 : PySem.W.codeIn K cd3 "is_fraction" = true)
    (k3 : PySem.W.keepIn K (.ref f3) = true)
    (a4 : PySem.W.nsIn K mainGlobals "want_fraction" = some (some (.ref f4)))
    (l4 : K.lookup f4 = some ⟨oc4, od4, .func (PySem.W.fnOf "want_fraction" "want_fraction" (defArgs Pk10.s_want_fraction) (defBody Pk10.s_want_fraction) (defScope Pk10.s_want_fraction) .none kV4 dc4 pm4 an4 cd4 ct4), sl4⟩)
    (c4 : PySem.W.codeIn K cd4 "want_fraction" = true)
    (k4 : PySem.W.keepIn K (.ref f4) = true)
    (a5 : PySem.W.nsIn K mainGlobals "plus" = some (some (.ref f5)))
    (l5 : K.lookup f5 = some ⟨oc5, od5, .func (PySem.W.fnOf "plus" "plus" (defArgs Pk10.s_plus) (defBody Pk10.s_plus) (defScope Pk10.s_plus) .none kV5 dc5 pm5 an5 cd5 ct5), sl5⟩)
    (c5 : PySem.W.codeIn K cd5 "plus" = true)
    (k5 : PySem.W.keepIn K (.ref f5) = true)
    (a6 : PySem.W.nsIn K mainGlobals "minus" = some (some (.ref f6)))
    (l6 : K.lookup f6 = some ⟨oc6, od6, .func (PySem.W.fnOf "minus" "minus" (defArgs Pk10.s_minus) (defBody Pk10.s_minus) (defScope Pk10.s_minus) .none kV6 dc6 pm6 an6 cd6 ct6), sl6⟩)
    (c6 : PySem.W.codeIn K cd6 "minus" = true)
    (k6 : PySem.W.keepIn K (.ref f6) = true)
    (a7 : PySem.W.nsIn K mainGlobals "times" = some (some (.ref f7)))
    (l7 : K.lookup f7 = some ⟨oc7, od7, .func (PySem.W.fnOf "times" "times" (defArgs Pk10.s_times) (defBody Pk10.s_times) (defScope Pk10.s_times) .none kV7 dc7 pm7 an7 cd7 ct7), sl7⟩)
    (c7 : PySem.W.codeIn K cd7 "times" = true)
    (k7 : PySem.W.keepIn K (.ref f7) = true)
    (a8 : PySem.W.nsIn K mainGlobals "over" = some (some (.ref f8)))
    (l8 : K.lookup f8 = some ⟨oc8, od8, .func (PySem.W.fnOf "over" "over" (defArgs Pk10.s_over) (defBody Pk10.s_over) (defScope Pk10.s_over) .none kV8 dc8 pm8 an8 cd8 ct8), sl8⟩)
    (c8 : PySem.W.codeIn K cd8 "over" = true)
    (k8 : PySem.W.keepIn K (.ref f8) = true)
    (a9 : PySem.W.nsIn K mainGlobals "is_less" = some (some (.ref f9)))
    (l9 : K.lookup f9 = some ⟨oc9, od9, .func (PySem.W.fnOf "is_less" "is_less" (defArgs Pk10.s_is_less) (defBody Pk10.s_is_less) (defScope Pk10.s_is_less) .none kV9 dc9 pm9 an9 cd9 ct9), sl9⟩)
    (c9 : PySem.W.codeIn K cd9 "is_less" = true)
    (k9 : PySem.W.keepIn K (.ref f9) = true)
    (a10 : PySem.W.nsIn K mainGlobals "floor_of" = some (some (.ref f10)))
    (l10 : K.lookup f10 = some ⟨oc10, od10, .func (PySem.W.fnOf "floor_of" "floor_of" (defArgs Pk10.s_floor_of) (defBody Pk10.s_floor_of) (defScope Pk10.s_floor_of) .none kV10 dc10 pm10 an10 cd10 ct10), sl10⟩)
    (c10 : PySem.W.codeIn K cd10 "floor_of" = true)
    (k10 : PySem.W.keepIn K (.ref f10) = true)
    (a11 : PySem.W.nsIn K mainGlobals "ceiling_of" = some (some (.ref f11)))
    (l11 : K.lookup f11 = some ⟨oc11, od11, .func (PySem.W.fnOf "ceiling_of" "ceiling_of" (defArgs Pk10.s_ceiling_of) (defBody Pk10.s_ceiling_of) (defScope Pk10.s_ceiling_of) .none kV11 dc11 pm11 an11 cd11 ct11), sl11⟩)
    (c11 : PySem.W.codeIn K cd11 "ceiling_of" = true)
    (k11 : PySem.W.keepIn K (.ref f11) = true)
    (a12 : PySem.W.nsIn K mainGlobals "nearest" = some (some (.ref f12)))
    (l12 : K.lookup f12 = some ⟨oc12, od12, .func (PySem.W.fnOf "nearest" "nearest" (defArgs Pk10.s_nearest) (defBody Pk10.s_nearest) (defScope Pk10.s_nearest) .none kV12 dc12 pm12 an12 cd12 ct12), sl12⟩)
    (c12 : PySem.W.codeIn K cd12 "nearest" = true)
    (k12 : PySem.W.keepIn K (.ref f12) = true)
    (a13 : PySem.W.nsIn K mainGlobals "total" = some (some (.ref f13)))
    (l13 : K.lookup f13 = some ⟨oc13, od13, .func (PySem.W.fnOf "total" "total" (defArgs Pk10.s_total) (defBody Pk10.s_total) (defScope Pk10.s_total) .none kV13 dc13 pm13 an13 cd13 ct13), sl13⟩)
    (c13 : PySem.W.codeIn K cd13 "total" = true)
    (k13 : PySem.W.keepIn K (.ref f13) = true)
    (a14 : PySem.W.nsIn K mainGlobals "median" = some (some (.ref f14)))
    (l14 : K.lookup f14 = some ⟨oc14, od14, .func (PySem.W.fnOf "median" "median" (defArgs Pk10.s_median) (defBody Pk10.s_median) (defScope Pk10.s_median) .none kV14 dc14 pm14 an14 cd14 ct14), sl14⟩)
    (c14 : PySem.W.codeIn K cd14 "median" = true)
    (k14 : PySem.W.keepIn K (.ref f14) = true)
    (a15 : PySem.W.nsIn K mainGlobals "_law_taken" = some (some (.ref f15)))
    (l15 : K.lookup f15 = some ⟨oc15, od15, .func (PySem.W.fnOf "_law_taken" "_law_taken" (defArgs Pk10.s__law_taken) (defBody Pk10.s__law_taken) (defScope Pk10.s__law_taken) .none kV15 dc15 pm15 an15 cd15 ct15), sl15⟩)
    (c15 : PySem.W.codeIn K cd15 "_law_taken" = true)
    (k15 : PySem.W.keepIn K (.ref f15) = true)
    (a16 : PySem.W.nsIn K mainGlobals "_law_alike" = some (some (.ref f16)))
    (l16 : K.lookup f16 = some ⟨oc16, od16, .func (PySem.W.fnOf "_law_alike" "_law_alike" (defArgs Pk10.s__law_alike) (defBody Pk10.s__law_alike) (defScope Pk10.s__law_alike) .none kV16 dc16 pm16 an16 cd16 ct16), sl16⟩)
    (c16 : PySem.W.codeIn K cd16 "_law_alike" = true)
    (k16 : PySem.W.keepIn K (.ref f16) = true)
    (a17 : PySem.W.nsIn K mainGlobals "_law_truth" = some (some (.ref f17)))
    (l17 : K.lookup f17 = some ⟨oc17, od17, .func (PySem.W.fnOf "_law_truth" "_law_truth" (defArgs Pk10.s__law_truth) (defBody Pk10.s__law_truth) (defScope Pk10.s__law_truth) .none kV17 dc17 pm17 an17 cd17 ct17), sl17⟩)
    (c17 : PySem.W.codeIn K cd17 "_law_truth" = true)
    (k17 : PySem.W.keepIn K (.ref f17) = true)
    (a18 : PySem.W.nsIn K mainGlobals "_law_low" = some (some (.ref f18)))
    (l18 : K.lookup f18 = some ⟨oc18, od18, .func (PySem.W.fnOf "_law_low" "_law_low" (defArgs Pk10.s__law_low) (defBody Pk10.s__law_low) (defScope Pk10.s__law_low) .none kV18 dc18 pm18 an18 cd18 ct18), sl18⟩)
    (c18 : PySem.W.codeIn K cd18 "_law_low" = true)
    (k18 : PySem.W.keepIn K (.ref f18) = true)
    (a19 : PySem.W.nsIn K mainGlobals "law" = some (some (.ref f19)))
    (l19 : K.lookup f19 = some ⟨oc19, od19, .func (PySem.W.fnOf "law" "law" (defArgs Pk10.s_law) (defBody Pk10.s_law) (defScope Pk10.s_law) .none kV19 dc19 pm19 an19 cd19 ct19), sl19⟩)
    (c19 : PySem.W.codeIn K cd19 "law" = true)
    (k19 : PySem.W.keepIn K (.ref f19) = true)
    (z_len : PySem.W.nsIn K mainGlobals "len" = some none)
    (z_abs : PySem.W.nsIn K mainGlobals "abs" = some none)
    (z_int : PySem.W.nsIn K mainGlobals "int" = some none)
    (z_tuple : PySem.W.nsIn K mainGlobals "tuple" = some none)
    (z_min : PySem.W.nsIn K mainGlobals "min" = some none)
    (z_max : PySem.W.nsIn K mainGlobals "max" = some none)
    (z_sum : PySem.W.nsIn K mainGlobals "sum" = some none)
    (z_any : PySem.W.nsIn K mainGlobals "any" = some none)
    (z_all : PySem.W.nsIn K mainGlobals "all" = some none)
    (z_isinstance : PySem.W.nsIn K mainGlobals "isinstance" = some none)
    (z_list : PySem.W.nsIn K mainGlobals "list" = some none)
    (z_range : PySem.W.nsIn K mainGlobals "range" = some none)
    (z_repr : PySem.W.nsIn K mainGlobals "repr" = some none)
    (z_bool : PySem.W.nsIn K mainGlobals "bool" = some none)
    (z_str : PySem.W.nsIn K mainGlobals "str" = some none)
    (z_dict : PySem.W.nsIn K mainGlobals "dict" = some none)
    (z_sorted : PySem.W.nsIn K mainGlobals "sorted" = some none)
    (z_set : PySem.W.nsIn K mainGlobals "set" = some none)
    (z_enumerate : PySem.W.nsIn K mainGlobals "enumerate" = some none)
    (z_zip : PySem.W.nsIn K mainGlobals "zip" = some none)
    (z_ValueError : PySem.W.nsIn K mainGlobals "ValueError" = some none)
    (z_LookupError : PySem.W.nsIn K mainGlobals "LookupError" = some none)
    (z_RuntimeError : PySem.W.nsIn K mainGlobals "RuntimeError" = some none)
    (z_super : PySem.W.nsIn K mainGlobals "super" = some none)
    (sn : PySem.W.specialIn K (.builtin "object.__class__") "__get__" = some (some (.builtin "getset_descriptor.__get__")))
    (tk : PySem.W.takesIn K (.builtin "object.__class__") = some true)
    (op : PySem.W.nsIn K PySem.cStatics "thirdparty.any" = some none)
    (x0_a : PySem.W.nsIn K mainGlobals "RaceError" = some (some (.ref C0)))
    (x0_ga : PySem.W.findIn K (.ref C0) "__getattribute__" = some (some (.builtin "BaseException.__getattribute__")))
    (x0_gg : PySem.W.findIn K (.ref C0) "__getattr__" = some none)
    (x0_sb : PySem.W.subIn K (.ref C0) (.type "BaseException") = some true)
    (x0_hd : PySem.W.hasDictIn K C0 = true)
    (x0_ca : PySem.W.findIn K (.ref C0) "__class__" = some (some (.builtin "object.__class__")))
    (x0_mo : PySem.W.mroIn K C0 (.type "object") = some true)
    (x0_ty : PySem.W.typeIn K (.ref C0) = some (.type "type"))
    (x0_kV : PySem.W.kitOne K (.ref C0) (.type "ValueError") = some true)
    (x0_kL : PySem.W.kitOne K (.ref C0) (.type "LookupError") = some false)
    (x0_kR : PySem.W.kitOne K (.ref C0) (.type "RuntimeError") = some false)
    (x0_k0 : PySem.W.kitOne K (.ref C0) (.ref C0) = some true)
    (x0_s0 : PySem.W.subIn K (.ref C0) (.ref C0) = some true)
    (x0_k1 : PySem.W.kitOne K (.ref C0) (.ref C1) = some false)
    (x0_s1 : PySem.W.subIn K (.ref C0) (.ref C1) = some false)
    (x1_a : PySem.W.nsIn K mainGlobals "BadNumber" = some (some (.ref C1)))
    (x1_ga : PySem.W.findIn K (.ref C1) "__getattribute__" = some (some (.builtin "BaseException.__getattribute__")))
    (x1_gg : PySem.W.findIn K (.ref C1) "__getattr__" = some none)
    (x1_sb : PySem.W.subIn K (.ref C1) (.type "BaseException") = some true)
    (x1_hd : PySem.W.hasDictIn K C1 = true)
    (x1_ca : PySem.W.findIn K (.ref C1) "__class__" = some (some (.builtin "object.__class__")))
    (x1_mo : PySem.W.mroIn K C1 (.type "object") = some true)
    (x1_ty : PySem.W.typeIn K (.ref C1) = some (.type "type"))
    (x1_kV : PySem.W.kitOne K (.ref C1) (.type "ValueError") = some true)
    (x1_kL : PySem.W.kitOne K (.ref C1) (.type "LookupError") = some false)
    (x1_kR : PySem.W.kitOne K (.ref C1) (.type "RuntimeError") = some false)
    (x1_k0 : PySem.W.kitOne K (.ref C1) (.ref C0) = some true)
    (x1_s0 : PySem.W.subIn K (.ref C1) (.ref C0) = some true)
    (x1_k1 : PySem.W.kitOne K (.ref C1) (.ref C1) = some true)
    (x1_s1 : PySem.W.subIn K (.ref C1) (.ref C1) = some true)
    (x1_n0 : PySem.W.findIn K (.ref C1) "value" = some none)
    (y1_x : K.lookup C1 = some (excClassObj nm1 qn1 C1 N1 bs1 bm1 true sn1 sub1 ab1 col1 dd1 m01 m11 m21 m31 m51 "ValueError.__new__"))
    (y1_bm : PySem.HandSPX.refsVE bm1 = true)
    (y1_sa : PySem.W.findIn K (.ref C1) "__setattr__" = some (some (.builtin "object.__setattr__")))
    (y1_i : PySem.W.findIn K (.ref C1) "__init__" = some (some (.ref g1)))
    (y1_t : PySem.W.typeIn K (.ref g1) = some (.type "function"))
    (y1_k : PySem.W.keepIn K (.ref C1) = true)
    (y1_v : PySem.W.subIn K (.ref C1) (.type "ValueError") = some true)
    (y1_m : PySem.W.mroIn K C1 (.ref C1) = some true)
    (y1_u : PySem.W.ks_superIn K C1 C1 "__init__" = some (some (.builtin "ValueError.__init__")))
    (y1_l : K.lookup g1 = some ⟨ic1, iod1, .func (PySem.W.ksFn "__init__" "BadNumber.__init__" (defArgs Pk10.t_1) (defBody Pk10.t_1) (defScope Pk10.t_1) .none .none idc1 ipm1 ian1 (.ref h1) ict1 d1), isl1⟩)
    (y1_c : PySem.W.codeIn K (.ref h1) "BadNumber.__init__" = true)
    (y1_h : K.lookup h1 = some ⟨icl1, ihd1, .fields ivs1, ihs1⟩)
    (y1_f : ivs1[2]? = some (.str fi1 tf1))
    (y1_p : ((PySem.Challenge.pw_wheelrace_k10_whole_fractions.main.file : Str) == fi1) = true)
    (y1_d : K.lookup d1 = some ⟨itc1, itd1, .cell (some (.ref C1)), its1⟩) :
    ∃ (fd : FuncData) (sp : Sp), (∀ (s : Shared) (v : Value), BindsTo s fd ⟨[v], []⟩ [("script", v)]) ∧ (∀ base : Heap, K.In base → base.Ns mainGlobals mg → FnG P w K mg base (L2N.CX P w) 9 fa fd ["script"] sp) ∧
      ∀ (H : Hp) (a : Addr) (ns : List Int), ns.length ≤ 63 → Only H → SqL K H a (ns.map V.int) → sp [.ref a] H (fun v _ => v = .bl true) fun _ _ _ => False := by
  subst hP
  have e := (PySem.W.mg_of X G a19).symm.trans hfa
  injection e with e
  injection e with e
  subst e
  have si1 : PySem.MpX.SiT PySem.Challenge.pw_wheelrace_k10_whole_fractions K C1 g1 ["value"] :=
    { cls := ⟨_, _, _, _, _, _, _, _, _, _, _, _, _, _, _, y1_x, y1_bm⟩, sa := y1_sa, iC := y1_i, tC := y1_t, kC := y1_k, exC := x1_sb, vE := y1_v, sC := y1_m, tyC := x1_ty, sup := y1_u, op := op, ne := (fun z => nomatch z), nd := by decide +kernel, ln := by decide,
      nm := fun n hn => by
        simp only [List.mem_cons, List.not_mem_nil, or_false] at hn
        rcases hn with rfl
        · exact ⟨by decide +kernel, x1_n0⟩
      fn := ⟨_, _, _, _, _, _, _, _, _, _, _, _, _, _, _, _, _, _, _, _, _, _, _, y1_l, y1_c, by decide +kernel, fun us hl => match us, hl with | [_, _], _ => rfl, ⟨rfl, rfl, rfl, by decide +kernel⟩, by decide +kernel, by decide +kernel, by decide +kernel, rfl, rfl, y1_h, y1_f, y1_p, y1_d, by decide +kernel⟩ }
  have T : LawTx PySem.Challenge.pw_wheelrace_k10_whole_fractions w K mg (LK K [f0, f1, f2, f3, f4, f5, f6, f7, f8, f9, f10, f11, f12, f13, f14, f15, f16, f17, f18, f19] [C0, C1]) Pk10.prog Pk10.nms :=
    { KL := rfl
      blt := fun x hx => by
        simp only [bltN, List.mem_cons, List.not_mem_nil, or_false] at hx
        rcases hx with rfl | rfl | rfl | rfl | rfl | rfl | rfl | rfl | rfl | rfl | rfl | rfl | rfl | rfl | rfl | rfl | rfl | rfl | rfl | rfl | rfl | rfl | rfl
        · exact PySem.W.mg_none_of X G z_len
        · exact PySem.W.mg_none_of X G z_abs
        · exact PySem.W.mg_none_of X G z_int
        · exact PySem.W.mg_none_of X G z_tuple
        · exact PySem.W.mg_none_of X G z_min
        · exact PySem.W.mg_none_of X G z_max
        · exact PySem.W.mg_none_of X G z_sum
        · exact PySem.W.mg_none_of X G z_any
        · exact PySem.W.mg_none_of X G z_all
        · exact PySem.W.mg_none_of X G z_isinstance
        · exact PySem.W.mg_none_of X G z_list
        · exact PySem.W.mg_none_of X G z_range
        · exact PySem.W.mg_none_of X G z_repr
        · exact PySem.W.mg_none_of X G z_bool
        · exact PySem.W.mg_none_of X G z_str
        · exact PySem.W.mg_none_of X G z_dict
        · exact PySem.W.mg_none_of X G z_sorted
        · exact PySem.W.mg_none_of X G z_set
        · exact PySem.W.mg_none_of X G z_enumerate
        · exact PySem.W.mg_none_of X G z_zip
        · exact PySem.W.mg_none_of X G z_ValueError
        · exact PySem.W.mg_none_of X G z_LookupError
        · exact PySem.W.mg_none_of X G z_RuntimeError
      fnx := fun f x hx => by
        match f, hx with
        | 0, hx => cases hx; exact ⟨PySem.W.mg_of X G a0, k0, _, rfl⟩
        | 1, hx => cases hx; exact ⟨PySem.W.mg_of X G a1, k1, _, rfl⟩
        | 2, hx => cases hx; exact ⟨PySem.W.mg_of X G a2, k2, _, rfl⟩
        | 3, hx => cases hx; exact ⟨PySem.W.mg_of X G a3, k3, _, rfl⟩
        | 4, hx => cases hx; exact ⟨PySem.W.mg_of X G a4, k4, _, rfl⟩
        | 5, hx => cases hx; exact ⟨PySem.W.mg_of X G a5, k5, _, rfl⟩
        | 6, hx => cases hx; exact ⟨PySem.W.mg_of X G a6, k6, _, rfl⟩
        | 7, hx => cases hx; exact ⟨PySem.W.mg_of X G a7, k7, _, rfl⟩
        | 8, hx => cases hx; exact ⟨PySem.W.mg_of X G a8, k8, _, rfl⟩
        | 9, hx => cases hx; exact ⟨PySem.W.mg_of X G a9, k9, _, rfl⟩
        | 10, hx => cases hx; exact ⟨PySem.W.mg_of X G a10, k10, _, rfl⟩
        | 11, hx => cases hx; exact ⟨PySem.W.mg_of X G a11, k11, _, rfl⟩
        | 12, hx => cases hx; exact ⟨PySem.W.mg_of X G a12, k12, _, rfl⟩
        | 13, hx => cases hx; exact ⟨PySem.W.mg_of X G a13, k13, _, rfl⟩
        | 14, hx => cases hx; exact ⟨PySem.W.mg_of X G a14, k14, _, rfl⟩
        | 15, hx => cases hx; exact ⟨PySem.W.mg_of X G a15, k15, _, rfl⟩
        | 16, hx => cases hx; exact ⟨PySem.W.mg_of X G a16, k16, _, rfl⟩
        | 17, hx => cases hx; exact ⟨PySem.W.mg_of X G a17, k17, _, rfl⟩
        | 18, hx => cases hx; exact ⟨PySem.W.mg_of X G a18, k18, _, rfl⟩
        | 19, hx => cases hx; exact ⟨PySem.W.mg_of X G a19, k19, _, rfl⟩
        | n + 20, hx => cases hx
      fns := fun f fd hx => by
        match f, hx with
        | 0, hx => cases hx; exact ⟨_, _, ftx_mk rfl l0 c0 Pk10.sc_is_whole Pk10.ck_is_whole rfl rfl rfl rfl fun us hl => match us, hl with | [_], _ => rfl⟩
        | 1, hx => cases hx; exact ⟨_, _, ftx_mk rfl l1 c1 Pk10.sc_is_row Pk10.ck_is_row rfl rfl rfl rfl fun us hl => match us, hl with | [_], _ => rfl⟩
        | 2, hx => cases hx; exact ⟨_, _, ftx_mk rfl l2 c2 Pk10.sc_reduced Pk10.ck_reduced rfl rfl rfl rfl fun us hl => match us, hl with | [_, _], _ => rfl⟩
        | 3, hx => cases hx; exact ⟨_, _, ftx_mk rfl l3 c3 Pk10.sc_is_fraction Pk10.ck_is_fraction rfl rfl rfl rfl fun us hl => match us, hl with | [_], _ => rfl⟩
        | 4, hx => cases hx; exact ⟨_, _, ftx_mk rfl l4 c4 Pk10.sc_want_fraction Pk10.ck_want_fraction rfl rfl rfl rfl fun us hl => match us, hl with | [_], _ => rfl⟩
        | 5, hx => cases hx; exact ⟨_, _, ftx_mk rfl l5 c5 Pk10.sc_plus Pk10.ck_plus rfl rfl rfl rfl fun us hl => match us, hl with | [_, _], _ => rfl⟩
        | 6, hx => cases hx; exact ⟨_, _, ftx_mk rfl l6 c6 Pk10.sc_minus Pk10.ck_minus rfl rfl rfl rfl fun us hl => match us, hl with | [_, _], _ => rfl⟩
        | 7, hx => cases hx; exact ⟨_, _, ftx_mk rfl l7 c7 Pk10.sc_times Pk10.ck_times rfl rfl rfl rfl fun us hl => match us, hl with | [_, _], _ => rfl⟩
        | 8, hx => cases hx; exact ⟨_, _, ftx_mk rfl l8 c8 Pk10.sc_over Pk10.ck_over rfl rfl rfl rfl fun us hl => match us, hl with | [_, _], _ => rfl⟩
        | 9, hx => cases hx; exact ⟨_, _, ftx_mk rfl l9 c9 Pk10.sc_is_less Pk10.ck_is_less rfl rfl rfl rfl fun us hl => match us, hl with | [_, _], _ => rfl⟩
        | 10, hx => cases hx; exact ⟨_, _, ftx_mk rfl l10 c10 Pk10.sc_floor_of Pk10.ck_floor_of rfl rfl rfl rfl fun us hl => match us, hl with | [_], _ => rfl⟩
        | 11, hx => cases hx; exact ⟨_, _, ftx_mk rfl l11 c11 Pk10.sc_ceiling_of Pk10.ck_ceiling_of rfl rfl rfl rfl fun us hl => match us, hl with | [_], _ => rfl⟩
        | 12, hx => cases hx; exact ⟨_, _, ftx_mk rfl l12 c12 Pk10.sc_nearest Pk10.ck_nearest rfl rfl rfl rfl fun us hl => match us, hl with | [_], _ => rfl⟩
        | 13, hx => cases hx; exact ⟨_, _, ftx_mk rfl l13 c13 Pk10.sc_total Pk10.ck_total rfl rfl rfl rfl fun us hl => match us, hl with | [_], _ => rfl⟩
        | 14, hx => cases hx; exact ⟨_, _, ftx_mk rfl l14 c14 Pk10.sc_median Pk10.ck_median rfl rfl rfl rfl fun us hl => match us, hl with | [_], _ => rfl⟩
        | 15, hx => cases hx; exact ⟨_, _, ftx_mk rfl l15 c15 Pk10.sc__law_taken Pk10.ck__law_taken rfl rfl rfl rfl fun us hl => match us, hl with | [_, _], _ => rfl⟩
        | 16, hx => cases hx; exact ⟨_, _, ftx_mk rfl l16 c16 Pk10.sc__law_alike Pk10.ck__law_alike rfl rfl rfl rfl fun us hl => match us, hl with | [_, _], _ => rfl⟩
        | 17, hx => cases hx; exact ⟨_, _, ftx_mk rfl l17 c17 Pk10.sc__law_truth Pk10.ck__law_truth rfl rfl rfl rfl fun us hl => match us, hl with | [_, _], _ => rfl⟩
        | 18, hx => cases hx; exact ⟨_, _, ftx_mk rfl l18 c18 Pk10.sc__law_low Pk10.ck__law_low rfl rfl rfl rfl fun us hl => match us, hl with | [_, _], _ => rfl⟩
        | 19, hx => cases hx; exact ⟨_, _, ftx_mk rfl l19 c19 Pk10.sc_law Pk10.ck_law rfl rfl rfl rfl fun us hl => match us, hl with | [_], _ => rfl⟩
        | n + 20, hx => cases hx
      cl := fun c x hx => by
        match c, hx with
        | 0, hx => cases hx; exact PySem.W.mg_of X G x0_a
        | 1, hx => cases hx; exact PySem.W.mg_of X G x1_a
        | n + 2, hx => cases hx
      xk := fun n c hx => by
        match c, hx with
        | 0, hx =>
          refine ⟨⟨x0_ga, x0_gg, x0_sb, x0_hd, x0_ca, sn, tk, x0_mo⟩, ⟨x0_ga, x0_gg, x0_sb, x0_hd⟩, fun k hk => ?_, fun t v b ht e1 e2 => ?_⟩
          · cases hk
          · cases t with
            | verr => cases e1; cases e2; exact x0_kV
            | lerr => cases e1; cases e2; exact x0_kL
            | rerr => cases e1; cases e2; exact x0_kR
            | cls c2 => match c2, ht c2 rfl, e1, e2 with
              | 0, _, e1, e2 => cases e1; cases e2; exact x0_k0
              | 1, _, e1, e2 => cases e1; cases e2; exact x0_k1
              | n + 2, hlt, _, _ => exact absurd hlt (by show ¬ (n + 2 < 2); omega)
            | _ => cases e1
        | 1, hx =>
          refine ⟨⟨x1_ga, x1_gg, x1_sb, x1_hd, x1_ca, sn, tk, x1_mo⟩, ⟨x1_ga, x1_gg, x1_sb, x1_hd⟩, fun k hk => ?_, fun t v b ht e1 e2 => ?_⟩
          · have hk : k ∈ [0] := hk
            simp only [List.mem_cons, List.not_mem_nil, or_false] at hk
            rcases hk with rfl
            · exact x1_n0
          · cases t with
            | verr => cases e1; cases e2; exact x1_kV
            | lerr => cases e1; cases e2; exact x1_kL
            | rerr => cases e1; cases e2; exact x1_kR
            | cls c2 => match c2, ht c2 rfl, e1, e2 with
              | 0, _, e1, e2 => cases e1; cases e2; exact x1_k0
              | 1, _, e1, e2 => cases e1; cases e2; exact x1_k1
              | n + 2, hlt, _, _ => exact absurd hlt (by show ¬ (n + 2 < 2); omega)
            | _ => cases e1
        | n + 2, hx => cases hx
      xf := fun n c k hk => by
        match c, hk with
        | 0, hk => rfl
        | 1, hk => rfl
        | n + 2, hk => cases hk
      fi := nmOf_inj (by decide +kernel) (by decide +kernel)
      nmf := fun k y hy => nmOf_get hy
      mkx := fun n c x base A hx hs har hr => by
        match c, hx, har with
        | 0, hx, har => exact absurd (Option.some.inj har) (by show ¬ ((99999 : Nat) = 0); decide)
        | 1, hx, har => cases hx; exact xcm_si si1 hr (PySem.W.mg_of X G x1_a) (PySem.W.mg_none_of X G z_super) rfl rfl (fun z => nomatch z)
        | n + 2, hx, har => cases hx
      ar := fun n c k hk h => by
        match c, h with
        | 0, h => cases h; first | rfl | exact absurd hk (by decide)
        | 1, h => cases h; first | rfl | exact absurd hk (by decide)
        | n + 2, h => cases h
      em := fun n c2 c x hx hs => by
        match c2, hs, c, hx with
        | 0, _, 0, _ => exact PySem.W.exm_ref x0_sb x0_hd x0_ty x0_s0
        | 0, _, 1, _ => exact PySem.W.exm_ref x1_sb x1_hd x1_ty x0_s1
        | 0, _, n + 2, hx => cases hx
        | 1, _, 0, _ => exact PySem.W.exm_ref x0_sb x0_hd x0_ty x1_s0
        | 1, _, 1, _ => exact PySem.W.exm_ref x1_sb x1_hd x1_ty x1_s1
        | 1, _, n + 2, hx => cases hx
        | n + 2, hs, _, _ => cases hs }
  refine ⟨_, fun vs H Q E => vs.length = 1 ∧ spM (LK K [f0, f1, f2, f3, f4, f5, f6, f7, f8, f9, f10, f11, f12, f13, f14, f15, f16, f17, f18, f19] [C0, C1]) (callN Pk10.prog 9 false 19) vs H Q E, fun s v => ?_, fun base _ _ => fn_all T base 9 19 _ _ ["script"] rfl (ftx_mk rfl l19 c19 Pk10.sc_law Pk10.ck_law rfl rfl rfl rfl fun us hl => match us, hl with | [_], _ => rfl), fun H a ns hl hO hS => ⟨rfl, law_sp rfl (by decide) (Pk10.pure_law) H a ns hl hS⟩⟩
  exact BindsTo.of_eq rfl
end Pk10H

end
section
set_option Elab.async false
set_option maxRecDepth 100000
open PySem PySem.W PyProof.Rows
set_option maxRecDepth 100000 in
set_option maxHeartbeats 0 in
theorem PySem.Challenge.cw_wheelrace_k10_whole_fractions_holds : PySem.Challenge.rw_wheelrace_k10_whole_fractions.Holds := by
  w_on; o_law; k_head; (case hw => w_witness2)
  k_fill
  refine Mp.walk_G (n := 63) (k := 9) (x := "script") (l := PySem.Challenge.rw_wheelrace_k10_whole_fractions) rfl (by decide) rfl ⟨⟨rfl, by decide, by decide⟩, rfl⟩ (fun w h Y => PySem.W.kIn_of Y) ?F
  case F =>
    intro w mg fa h KX G hmg
    refine' Pk10H.all_mk rfl KX G hmg ?a0 ?l0 ?c0 ?k0 ?a1 ?l1 ?c1 ?k1 ?a2 ?l2 ?c2 ?k2 ?a3 ?l3 ?c3 ?k3 ?a4 ?l4 ?c4 ?k4 ?a5 ?l5 ?c5 ?k5 ?a6 ?l6 ?c6 ?k6 ?a7 ?l7 ?c7 ?k7 ?a8 ?l8 ?c8 ?k8 ?a9 ?l9 ?c9 ?k9 ?a10 ?l10 ?c10 ?k10 ?a11 ?l11 ?c11 ?k11 ?a12 ?l12 ?c12 ?k12 ?a13 ?l13 ?c13 ?k13 ?a14 ?l14 ?c14 ?k14 ?a15 ?l15 ?c15 ?k15 ?a16 ?l16 ?c16 ?k16 ?a17 ?l17 ?c17 ?k17 ?a18 ?l18 ?c18 ?k18 ?a19 ?l19 ?c19 ?k19 ?z_len ?z_abs ?z_int ?z_tuple ?z_min ?z_max ?z_sum ?z_any ?z_all ?z_isinstance ?z_list ?z_range ?z_repr ?z_bool ?z_str ?z_dict ?z_sorted ?z_set ?z_enumerate ?z_zip ?z_ValueError ?z_LookupError ?z_RuntimeError ?z_super ?sn ?tk ?op ?x0_a ?x0_ga ?x0_gg ?x0_sb ?x0_hd ?x0_ca ?x0_mo ?x0_ty ?x0_kV ?x0_kL ?x0_kR ?x0_k0 ?x0_s0 ?x0_k1 ?x0_s1 ?x1_a ?x1_ga ?x1_gg ?x1_sb ?x1_hd ?x1_ca ?x1_mo ?x1_ty ?x1_kV ?x1_kL ?x1_kR ?x1_k0 ?x1_s0 ?x1_k1 ?x1_s1 ?x1_n0 ?y1_x ?y1_bm ?y1_sa ?y1_i ?y1_t ?y1_k ?y1_v ?y1_m ?y1_u ?y1_l ?y1_c ?y1_h ?y1_f ?y1_p ?y1_d
    (case x0_a => first | k_is | rfl | decide +kernel)
    (case x1_a => first | k_is | rfl | decide +kernel)
    (case a0 => first | k_is | rfl | decide +kernel)
    (case l0 => first | k_is | rfl | decide +kernel)
    (case c0 => first | k_is | rfl | decide +kernel)
    (case k0 => first | k_is | rfl | decide +kernel)
    (case a1 => first | k_is | rfl | decide +kernel)
    (case l1 => first | k_is | rfl | decide +kernel)
    (case c1 => first | k_is | rfl | decide +kernel)
    (case k1 => first | k_is | rfl | decide +kernel)
    (case a2 => first | k_is | rfl | decide +kernel)
    (case l2 => first | k_is | rfl | decide +kernel)
    (case c2 => first | k_is | rfl | decide +kernel)
    (case k2 => first | k_is | rfl | decide +kernel)
    (case a3 => first | k_is | rfl | decide +kernel)
    (case l3 => first | k_is | rfl | decide +kernel)
    (case c3 => first | k_is | rfl | decide +kernel)
    (case k3 => first | k_is | rfl | decide +kernel)
    (case a4 => first | k_is | rfl | decide +kernel)
    (case l4 => first | k_is | rfl | decide +kernel)
    (case c4 => first | k_is | rfl | decide +kernel)
    (case k4 => first | k_is | rfl | decide +kernel)
    (case a5 => first | k_is | rfl | decide +kernel)
    (case l5 => first | k_is | rfl | decide +kernel)
    (case c5 => first | k_is | rfl | decide +kernel)
    (case k5 => first | k_is | rfl | decide +kernel)
    (case a6 => first | k_is | rfl | decide +kernel)
    (case l6 => first | k_is | rfl | decide +kernel)
    (case c6 => first | k_is | rfl | decide +kernel)
    (case k6 => first | k_is | rfl | decide +kernel)
    (case a7 => first | k_is | rfl | decide +kernel)
    (case l7 => first | k_is | rfl | decide +kernel)
    (case c7 => first | k_is | rfl | decide +kernel)
    (case k7 => first | k_is | rfl | decide +kernel)
    (case a8 => first | k_is | rfl | decide +kernel)
    (case l8 => first | k_is | rfl | decide +kernel)
    (case c8 => first | k_is | rfl | decide +kernel)
    (case k8 => first | k_is | rfl | decide +kernel)
    (case a9 => first | k_is | rfl | decide +kernel)
    (case l9 => first | k_is | rfl | decide +kernel)
    (case c9 => first | k_is | rfl | decide +kernel)
    (case k9 => first | k_is | rfl | decide +kernel)
    (case a10 => first | k_is | rfl | decide +kernel)
    (case l10 => first | k_is | rfl | decide +kernel)
    (case c10 => first | k_is | rfl | decide +kernel)
    (case k10 => first | k_is | rfl | decide +kernel)
    (case a11 => first | k_is | rfl | decide +kernel)
    (case l11 => first | k_is | rfl | decide +kernel)
    (case c11 => first | k_is | rfl | decide +kernel)
    (case k11 => first | k_is | rfl | decide +kernel)
    (case a12 => first | k_is | rfl | decide +kernel)
    (case l12 => first | k_is | rfl | decide +kernel)
    (case c12 => first | k_is | rfl | decide +kernel)
    (case k12 => first | k_is | rfl | decide +kernel)
    (case a13 => first | k_is | rfl | decide +kernel)
    (case l13 => first | k_is | rfl | decide +kernel)
    (case c13 => first | k_is | rfl | decide +kernel)
    (case k13 => first | k_is | rfl | decide +kernel)
    (case a14 => first | k_is | rfl | decide +kernel)
    (case l14 => first | k_is | rfl | decide +kernel)
    (case c14 => first | k_is | rfl | decide +kernel)
    (case k14 => first | k_is | rfl | decide +kernel)
    (case a15 => first | k_is | rfl | decide +kernel)
    (case l15 => first | k_is | rfl | decide +kernel)
    (case c15 => first | k_is | rfl | decide +kernel)
    (case k15 => first | k_is | rfl | decide +kernel)
    (case a16 => first | k_is | rfl | decide +kernel)
    (case l16 => first | k_is | rfl | decide +kernel)
    (case c16 => first | k_is | rfl | decide +kernel)
    (case k16 => first | k_is | rfl | decide +kernel)
    (case a17 => first | k_is | rfl | decide +kernel)
    (case l17 => first | k_is | rfl | decide +kernel)
    (case c17 => first | k_is | rfl | decide +kernel)
    (case k17 => first | k_is | rfl | decide +kernel)
    (case a18 => first | k_is | rfl | decide +kernel)
    (case l18 => first | k_is | rfl | decide +kernel)
    (case c18 => first | k_is | rfl | decide +kernel)
    (case k18 => first | k_is | rfl | decide +kernel)
    (case a19 => first | k_is | rfl | decide +kernel)
    (case l19 => first | k_is | rfl | decide +kernel)
    (case c19 => first | k_is | rfl | decide +kernel)
    (case k19 => first | k_is | rfl | decide +kernel)
    (case z_len => first | k_is | rfl | decide +kernel)
    (case z_abs => first | k_is | rfl | decide +kernel)
    (case z_int => first | k_is | rfl | decide +kernel)
    (case z_tuple => first | k_is | rfl | decide +kernel)
    (case z_min => first | k_is | rfl | decide +kernel)
    (case z_max => first | k_is | rfl | decide +kernel)
    (case z_sum => first | k_is | rfl | decide +kernel)
    (case z_any => first | k_is | rfl | decide +kernel)
    (case z_all => first | k_is | rfl | decide +kernel)
    (case z_isinstance => first | k_is | rfl | decide +kernel)
    (case z_list => first | k_is | rfl | decide +kernel)
    (case z_range => first | k_is | rfl | decide +kernel)
    (case z_repr => first | k_is | rfl | decide +kernel)
    (case z_bool => first | k_is | rfl | decide +kernel)
    (case z_str => first | k_is | rfl | decide +kernel)
    (case z_dict => first | k_is | rfl | decide +kernel)
    (case z_sorted => first | k_is | rfl | decide +kernel)
    (case z_set => first | k_is | rfl | decide +kernel)
    (case z_enumerate => first | k_is | rfl | decide +kernel)
    (case z_zip => first | k_is | rfl | decide +kernel)
    (case z_ValueError => first | k_is | rfl | decide +kernel)
    (case z_LookupError => first | k_is | rfl | decide +kernel)
    (case z_RuntimeError => first | k_is | rfl | decide +kernel)
    (case z_super => first | k_is | rfl | decide +kernel)
    (case sn => first | k_is | rfl | decide +kernel)
    (case tk => first | k_is | rfl | decide +kernel)
    (case op => first | k_is | rfl | decide +kernel)
    (case x0_ga => first | k_is | rfl | decide +kernel)
    (case x0_gg => first | k_is | rfl | decide +kernel)
    (case x0_sb => first | k_is | rfl | decide +kernel)
    (case x0_hd => first | k_is | rfl | decide +kernel)
    (case x0_ca => first | k_is | rfl | decide +kernel)
    (case x0_mo => first | k_is | rfl | decide +kernel)
    (case x0_ty => first | k_is | rfl | decide +kernel)
    (case x0_kV => first | k_is | rfl | decide +kernel)
    (case x0_kL => first | k_is | rfl | decide +kernel)
    (case x0_kR => first | k_is | rfl | decide +kernel)
    (case x0_k0 => first | k_is | rfl | decide +kernel)
    (case x0_s0 => first | k_is | rfl | decide +kernel)
    (case x0_k1 => first | k_is | rfl | decide +kernel)
    (case x0_s1 => first | k_is | rfl | decide +kernel)
    (case x1_ga => first | k_is | rfl | decide +kernel)
    (case x1_gg => first | k_is | rfl | decide +kernel)
    (case x1_sb => first | k_is | rfl | decide +kernel)
    (case x1_hd => first | k_is | rfl | decide +kernel)
    (case x1_ca => first | k_is | rfl | decide +kernel)
    (case x1_mo => first | k_is | rfl | decide +kernel)
    (case x1_ty => first | k_is | rfl | decide +kernel)
    (case x1_kV => first | k_is | rfl | decide +kernel)
    (case x1_kL => first | k_is | rfl | decide +kernel)
    (case x1_kR => first | k_is | rfl | decide +kernel)
    (case x1_k0 => first | k_is | rfl | decide +kernel)
    (case x1_s0 => first | k_is | rfl | decide +kernel)
    (case x1_k1 => first | k_is | rfl | decide +kernel)
    (case x1_s1 => first | k_is | rfl | decide +kernel)
    (case x1_n0 => first | k_is | rfl | decide +kernel)
    (case y1_x => first | k_is | rfl | decide +kernel)
    (case y1_bm => decide +kernel)
    (case y1_sa => first | k_is | rfl | decide +kernel)
    (case y1_i => first | k_is | rfl | decide +kernel)
    (case y1_t => first | k_is | rfl | decide +kernel)
    (case y1_k => first | k_is | rfl | decide +kernel)
    (case y1_v => first | k_is | rfl | decide +kernel)
    (case y1_m => first | k_is | rfl | decide +kernel)
    (case y1_u => first | k_is | rfl | decide +kernel)
    (case y1_l => first | k_is | rfl | decide +kernel)
    (case y1_c => first | k_is | rfl | decide +kernel)
    (case y1_h => first | k_is | rfl | decide +kernel)
    (case y1_f => first | rfl | decide +kernel)
    (case y1_p => decide +kernel)
    (case y1_d => first | k_is | rfl | decide +kernel)

end
