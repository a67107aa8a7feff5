import PyProof.Rows.All
import Wide.All
import OpenK.AllK
import Wide.FinOn
import PyProof.ToksMono
import HandS.ForMost
import HandS.ForExc
import HandS.HotCalls
import HandS.ExcIs
import HandS.IsInst
import HandS.Deep
import HandS.Zip
import HandS.More
import HandS.TupAny
import HandS.TupMul
import HandS.TupLe
import HandS.RaiseMore
import HandS.Style
import HandS.Defaults
import HandS.HeadHook4
import HandS.Codes
import HandS.Words
import PyProof.StrBlock2
import HandS.Walk
import HandS.Conv
import KE.GoesEnum
import KE.GoesMore
import HandS.Text
import HandS.SetFor
import HandS.Strs
import HandS.Set
import HandS.SortInts
import HandS.SortOrd
import KE.KDictZip
import KE.KDictPairs
import KE.KSortTupAny
import HandS.TupSets
import HandS.ReplaceList
import HandS.Small
import HandS.HeadHook1
import KE.KStateDown
import HandS.Head0
import HandS.Head1
import HandS.Head2
import HandS.HeadEnd
import PyProof.TableCode
import PySem.Challenge.RW_askparts_k30_names
set_option Elab.async false
set_option maxRecDepth 100000
set_option maxHeartbeats 0
set_option linter.all false
/-! The unlike ones of a list. -/
namespace Ev
/-- the unlike ones, as first met -/
def metGo {A : Type} [DecidableEq A] (acc : List A) : List A → List A
  | [] => acc
  | x :: r => metGo (if x ∈ acc then acc else acc ++ [x]) r
def met {A : Type} [DecidableEq A] (l : List A) : List A := metGo [] l

/-- so many tokens are drawn ahead of the law's call -/
def lowT : Nat := 522
end Ev

/-! A pure evaluator of a small language: what the defs of the given text compute, over plain data. No machine here. -/
namespace Ev

/-- a key of a dict -/
inductive Ky where
  | i (n : Int)
  | s (l : List Nat)
  deriving DecidableEq

/-- plain data; a text is the list of its codes -/
inductive D where
  | non
  | bl (b : Bool)
  | int (i : Int)
  | str (l : List Nat)
  | tup (xs : List D)
  | lst (xs : List D)
  | dic (ks : List Ky) (vs : List D)
  /-- the law's own list of whole numbers -/
  | scr (ns : List Int)
  /-- a dict of the text's top, with text keys -/
  | gdc (ks : List (List Nat)) (vs : List D)
  /-- what stands at an address, nothing told of it -/
  | adr (a : Nat)

/-- a value, an exception (the number of its class), or nothing is told -/
inductive R (A : Type) where
  | ok (a : A)
  | ex (c : Nat)
  | no

def R.bind {A B : Type} (x : R A) (f : A → R B) : R B :=
  match x with
  | .ok a => f a
  | .ex c => .ex c
  | .no => .no

@[simp] theorem R.bind_ok {A B : Type} (a : A) (f : A → R B) : R.bind (.ok a) f = f a := rfl
@[simp] theorem R.bind_ex {A B : Type} (c : Nat) (f : A → R B) : R.bind (.ex c : R A) f = .ex c := rfl
@[simp] theorem R.bind_no {A B : Type} (f : A → R B) : R.bind (.no : R A) f = .no := rfl

inductive B2 where | add | sub | mul | fdiv | mod
  deriving DecidableEq
inductive C2 where | eq | ne | lt | le | gt | ge | isin | notin | is_ | isnot
  deriving DecidableEq
inductive Ty where | int | bool | str | tuple | list
  deriving DecidableEq
/-- built-in functions, by what they are asked with -/
inductive Bi where | len | all_ | str_ | int_ | abs_ | tuple | list | dict | sorted | lenset | sortset | tupzip | dictzip | sum | max2 | min2 | rep (c : Nat) (z : List Nat) | quote | dct1
  deriving DecidableEq
/-- methods that change nothing -/
inductive Mt where | join | index | count | get
  deriving DecidableEq
/-- what is walked -/
inductive Ik where | val | range | range2 | enum | zip2 | zip3
  deriving DecidableEq

/-- targets: a slot, several -/
inductive T where
  | one (i : Nat)
  | many (ts : List T)

inductive E where
  | nul
  | emp
  | var (i : Nat)
  | lit (d : D)
  | glo (g : Nat)
  | tup (es : List E)
  | lst (es : List E)
  | dct (ks : List Ky) (vs : List E)
  | bin (o : B2) (a b : E)
  | cat (a b : E)
  | neg (a : E)
  | cmp (o : C2) (a b : E)
  | cmp2 (o p : C2) (a b c : E)
  | and_ (a b : E)
  | or_ (a b : E)
  | not_ (a : E)
  | ite (c a b : E)
  | idx (a i : E)
  | slc (a l u : E)
  | rev (a : E)
  | call (f : Nat) (es : List E)
  | isi (a : E) (t : Ty)
  | isx (i a : Nat) (b : Bool)
  | bi1 (f : Bi) (a : E)
  | bi2 (f : Bi) (a b : E)
  | mt1 (m : Mt) (o a : E)
  | get2 (o k x : E)
  | lc (e : E) (t : T) (k : Ik) (args : List E) (c : List E) (own : List Nat)

/-- an end that is left out -/
def E.isNul : E → Bool
  | .nul => true
  | _ => false
/-! ### values -/
def lim : Nat := 16777216
def fit (n : Nat) (d : D) : R D := if n ≤ lim then .ok d else .no

mutual
/-- no dict within, no more than n deep -/
def okd : Nat → D → Bool
  | n + 1, .tup xs => okds n xs
  | n + 1, .lst xs => okds n xs
  | 0, .tup _ => false
  | 0, .lst _ => false
  | _, .dic _ _ => false
  | _, .non => true
  | _, .bl _ => true
  | _, .int _ => true
  | _, .str _ => true
  | _, .scr _ => false
  | _, .gdc _ _ => false
  | _, .adr _ => false
def okds : Nat → List D → Bool
  | _, [] => true
  | n, x :: xs => okd n x && okds n xs
end

mutual
/-- Python's == over data without dicts -/
def deq : D → D → Bool
  | .non, .non => true
  | .bl a, .bl b => a == b
  | .bl a, .int j => (if a then 1 else 0) == j
  | .int i, .bl b => i == (if b then 1 else 0)
  | .int i, .int j => i == j
  | .str x, .str y => x == y
  | .lst xs, .lst ys => deqs xs ys
  | .tup xs, .tup ys => deqs xs ys
  | _, _ => false
def deqs : List D → List D → Bool
  | [], [] => true
  | x :: xs, y :: ys => deq x y && deqs xs ys
  | _, _ => false
end

def deep : Nat := 60
/-- the script is only held against the empty list -/
def deqR : D → D → R Bool
  | .scr ns, .lst [] => .ok ns.isEmpty
  | .scr _, _ => .no
  | _, .scr _ => .no
  | a, b => if okd deep a && okd deep b then .ok (deq a b) else .no

def rep {A : Type} (n : Nat) (xs : List A) : List A := (List.replicate n xs).flatten

def bop : B2 → D → D → R D
  | .add, .int a, .int b => .ok (.int (a + b))
  | .add, .str a, .str b => fit (a.length + b.length) (.str (a ++ b))
  | .add, .tup a, .tup b => fit (a.length + b.length) (.tup (a ++ b))
  | .add, .lst a, .lst b => fit (a.length + b.length) (.lst (a ++ b))
  | .sub, .int a, .int b => .ok (.int (a - b))
  | .mul, .int a, .int b => if a.natAbs < 18446744073709551616 || b.natAbs < 18446744073709551616 then .ok (.int (a * b)) else .no
  | .mul, .tup a, .int k => if a.length ≤ 1000 && 2 ≤ k && k ≤ 1000 && !a.isEmpty then .ok (.tup (rep k.toNat a)) else .no
  | .mul, .str a, .int k => if k = 0 then .ok (.str []) else if k = 1 then .ok (.str a) else .no
  | .mul, .lst a, .int k => if 0 ≤ k && k ≤ 10000 then fit (a.length * k.toNat) (.lst (rep k.toNat a)) else .no
  | .fdiv, .int a, .int b => if 0 < b && b < 1073741824 then .ok (.int (a / b)) else .no
  | .mod, .int a, .int b => if 0 < b then .ok (.int (a % b)) else .no
  | _, _, _ => .no

/-- a list that is new -/
def catL : D → D → R D
  | .lst a, .lst b => fit (a.length + b.length) (.lst (a ++ b))
  | _, _ => .no
def kyOf : D → Option Ky
  | .int i => some (.i i)
  | .str l => some (.s l)
  | _ => none

/-- the place of a key -/
def kyAt (k : Ky) : List Ky → Option Nat
  | [] => none
  | x :: xs => if x = k then some 0 else (kyAt k xs).map (· + 1)

def txAt (k : List Nat) : List (List Nat) → Option Nat
  | [] => none
  | x :: xs => if x = k then some 0 else (txAt k xs).map (· + 1)

def anyR (d : D) (xs : List D) : R Bool := if okd deep d && okds deep xs then .ok (xs.any fun z => deq z d) else .no

def isIn : D → D → R Bool
  | d, .lst xs => anyR d xs
  | d, .tup xs => anyR d xs
  | .str [c], .str l => .ok (decide (c ∈ l))
  | d, .dic ks _ => match kyOf d with
    | some k => .ok (decide (k ∈ ks))
    | none => .no
  | .str l, .gdc ks _ => .ok (decide (l ∈ ks))
  | _, _ => .no

def cop : C2 → D → D → R Bool
  | .eq, a, b => deqR a b
  | .ne, a, b => (deqR a b).bind fun z => .ok (!z)
  | .lt, .int a, .int b => .ok (decide (a < b))
  | .le, .int a, .int b => .ok (decide (a ≤ b))
  | .gt, .int a, .int b => .ok (decide (b < a))
  | .ge, .int a, .int b => .ok (decide (b ≤ a))
  | .lt, .str a, .str b => .ok (decide (a < b))
  | .le, .str a, .str b => .ok (!decide (b < a))
  | .gt, .str a, .str b => .ok (decide (b < a))
  | .ge, .str a, .str b => .ok (!decide (a < b))
  | .isin, a, b => isIn a b
  | .notin, a, b => (isIn a b).bind fun z => .ok (!z)
  | .is_, .non, .non => .ok true
  | .is_, _, .non => .ok false
  | .is_, .non, .bl _ => .ok false
  | .is_, .bl a, .bl b => .ok (a == b)
  | .isnot, .non, .non => .ok false
  | .isnot, _, .non => .ok true
  | .isnot, .int _, .bl _ => .ok true
  | .isnot, .bl a, .bl b => .ok (!(a == b))
  | _, _, _ => .no

def isTy : Ty → D → Bool
  | .int, .int _ => true
  | .int, .bl _ => true
  | .bool, .bl _ => true
  | .str, .str _ => true
  | .tuple, .tup _ => true
  | .list, .lst _ => true
  | .list, .scr _ => true
  | _, _ => false

def isTyR (t : Ty) : D → R D
  | .adr _ => .no
  | d => .ok (.bl (isTy t d))
/-- the place that an index means -/
def place (n : Nat) (i : Int) : Option Nat :=
  if 0 ≤ i then (if i < n then some i.toNat else none) else if -(n : Int) ≤ i then some (i + n).toNat else none

def idx : D → D → R D
  | .tup xs, .int i => match (place xs.length i).bind (xs[·]?) with
    | some d => .ok d
    | none => .no
  | .lst xs, .int i => match (place xs.length i).bind (xs[·]?) with
    | some d => .ok d
    | none => .no
  | .str l, .int i => if l.length ≤ lim then (match (place l.length i).bind (l[·]?) with
    | some c => .ok (.str [c])
    | none => .no) else .no
  | .scr ns, .int i => match (place ns.length i).bind (ns[·]?) with
    | some n => .ok (.int n)
    | none => .no
  | .gdc ks vs, .str l => match (txAt l ks).bind (vs[·]?) with
    | some v => .ok v
    | none => .no
  | .dic ks vs, d => match (kyOf d).bind fun k => (kyAt k ks).bind (vs[·]?) with
    | some v => .ok v
    | none => .no
  | _, _ => .no

def intOf : D → R (Option Int)
  | .int i => .ok (some i)
  | _ => .no
def sIx (n d : Nat) : Option Int → Nat
  | none => d
  | some v => if v < 0 then (v + (n : Int)).toNat else min v.toNat n
def cut {A : Type} (xs : List A) (lo hi : Option Int) : List A :=
  (xs.drop (sIx xs.length 0 lo)).take (sIx xs.length xs.length hi - sIx xs.length 0 lo)
def slc (a : D) (lo hi : Option Int) : R D :=
  match a with
  | .tup xs => .ok (.tup (cut xs lo hi))
  | .lst xs => .ok (.lst (cut xs lo hi))
  | .str x => if x.length ≤ lim then .ok (.str (cut x lo hi)) else .no
  | _ => .no
def rvs : D → R D
  | .tup xs => .ok (.tup xs.reverse)
  | .lst xs => .ok (.lst xs.reverse)
  | _ => .no

def boolsOf : List D → Option (List Bool)
  | [] => some []
  | .bl b :: r => (boolsOf r).map (b :: ·)
  | _ => none
def intsOf : List D → Option (List Int)
  | [] => some []
  | .int b :: r => (intsOf r).map (b :: ·)
  | _ => none
def strsOf : List D → Option (List (List Nat))
  | [] => some []
  | .str b :: r => (strsOf r).map (b :: ·)
  | _ => none

/-- figures of a natural number -/
def figs (n : Nat) : List Nat := (Nat.toDigits 10 n).map Char.toNat
def said (i : Int) : List Nat := if i < 0 then 45 :: figs i.natAbs else figs i.natAbs

/-- figures read -/
def readN : List Nat → Nat → Option Nat
  | [], a => some a
  | c :: r, a => if 48 ≤ c && c ≤ 57 then readN r (10 * a + (c - 48)) else none
def readI : List Nat → Option Int
  | [] => none
  | 45 :: c :: r => (readN (c :: r) 0).map fun (n : Nat) => -(n : Int)
  | c :: r => (readN (c :: r) 0).map fun (n : Nat) => (n : Int)

/-- order of numbers and of texts -/
def insI (a : Int) : List Int → List Int
  | [] => [a]
  | b :: r => if a ≤ b then a :: b :: r else b :: insI a r
def srtI : List Int → List Int
  | [] => []
  | a :: r => insI a (srtI r)
def insS (a : List Nat) : List (List Nat) → List (List Nat)
  | [] => [a]
  | b :: r => if b < a then b :: insS a r else a :: b :: r
def srtS : List (List Nat) → List (List Nat)
  | [] => []
  | a :: r => insS a (srtS r)
def once {A : Type} [DecidableEq A] : List A → List A
  | [] => []
  | a :: r => if a ∈ r then once r else a :: once r

/-- a key put to a dict: the old place keeps it -/
def put (k : Ky) (v : D) : List Ky → List D → List Ky × List D
  | x :: ks, y :: vs => if x = k then (x :: ks, v :: vs) else let r := put k v ks vs; (x :: r.1, y :: r.2)
  | _, _ => ([k], [v])
def puts : List (Ky × D) → List Ky → List D → List Ky × List D
  | [], ks, vs => (ks, vs)
  | p :: r, ks, vs => let q := put p.1 p.2 ks vs; puts r q.1 q.2
def pairOf : D → Option (Ky × D)
  | .tup [k, v] => (kyOf k).map fun k => (k, v)
  | _ => none
def pairsOf : List D → Option (List (Ky × D))
  | [] => some []
  | d :: r => (pairOf d).bind fun p => (pairsOf r).map (p :: ·)
def dicOf (ps : List (Ky × D)) : D := let q := puts ps [] []; .dic q.1 q.2
def items : D → Option (List D)
  | .tup xs => some xs
  | .lst xs => some xs
  | _ => none
def small (n : Nat) : Bool := n ≤ 1000

def kyTx : Ky → Option (List Nat)
  | .s l => if l.all (· < 1114112) then some l else none
  | .i _ => none
def kysTx : List Ky → Option (List (List Nat))
  | [] => some []
  | k :: r => (kyTx k).bind fun x => (kysTx r).map (x :: ·)
def sorted0 : D → R D
  | .lst xs => if xs.length ≤ 4000 then (match intsOf xs with
    | some ns => .ok (.lst ((srtI ns).map D.int))
    | none => match strsOf xs with
      | some ss => .ok (.lst ((srtS ss).map D.str))
      | none => .no) else .no
  | .dic ks _ => if ks.length < 64 then (match kysTx ks with
    | some ss => .ok (.lst ((srtS ss).map D.str))
    | none => .no) else .no
  | _ => .no

/-! rows of numbers and texts -/
def cellK : D → Option Bool
  | .int _ => some false
  | .str _ => some true
  | _ => none
def rowKs : List D → Option (List Bool)
  | [] => some []
  | d :: r => (cellK d).bind fun b => (rowKs r).map (b :: ·)
def ltC : D → D → Bool
  | .int a, .int b => decide (a < b)
  | .str a, .str b => decide (a < b)
  | _, _ => false
def ltR : List D → List D → Bool
  | x :: xs, y :: ys => ltC x y || (!ltC y x && ltR xs ys)
  | _, _ => false
def insR (a : List D) : List (List D) → List (List D)
  | [] => [a]
  | b :: r => if ltR b a then b :: insR a r else a :: b :: r
def srtR : List (List D) → List (List D)
  | [] => []
  | a :: r => insR a (srtR r)
def rowsOf : List D → Option (List (List D))
  | [] => some []
  | .tup r :: l => (rowsOf l).map (r :: ·)
  | _ => none
/-- rows of the same kinds -/
def alike (ks : List Bool) (rs : List (List D)) : Bool := rs.all fun r => rowKs r == some ks
/-- a row's cells, to be held against one another -/
abbrev Cell := Int ⊕ List Nat
def cellS : D → Cell
  | .int i => .inl i
  | .str l => .inr l
  | _ => .inl 0
def cellD : Cell → D
  | .inl i => .int i
  | .inr l => .str l
def rowS (r : List D) : List Cell := r.map cellS
def rowD (r : List Cell) : List D := r.map cellD
def sortRows (xs : List D) : Option (List (List D)) := match rowsOf xs with
  | some (r :: rs) => (match rowKs r with
    | some (k :: ks) => if alike (k :: ks) (r :: rs) && xs.length ≤ 4000 then some (srtR (r :: rs)) else none
    | _ => none)
  | _ => none
def sorted (d : D) : R D := match d with
  | .lst xs => (match sortRows xs with
    | some rs => .ok (.lst (rs.map D.tup))
    | none => sorted0 (.lst xs))
  | d => sorted0 d

def keys : List D → Option (List Ky)
  | [] => some []
  | d :: r => (kyOf d).bind fun k => (keys r).map (k :: ·)

def dLen : D → R D
  | .tup xs => .ok (.int xs.length)
  | .lst xs => .ok (.int xs.length)
  | .str l => if l.length ≤ lim then .ok (.int l.length) else .no
  | .dic ks _ => .ok (.int ks.length)
  | .scr ns => .ok (.int ns.length)
  | _ => .no
def dAll : D → R D
  | .lst xs => (match boolsOf xs with
    | some bs => .ok (.bl (bs.all id))
    | none => .no)
  | _ => .no
def dStr : D → R D
  | .int i => if i.natAbs < 1000000000000 then .ok (.str (said i)) else .no
  | _ => .no
def dInt : D → R D
  | .bl b => .ok (.int (if b then 1 else 0))
  | .str l => if l.length ≤ 640 then (match readI l with
    | some i => .ok (.int i)
    | none => .no) else .no
  | _ => .no
def dAbs : D → R D
  | .int i => .ok (.int (if i < 0 then -i else i))
  | _ => .no
def dTuple : D → R D
  | .lst xs => .ok (.tup xs)
  | .tup xs => .ok (.tup xs)
  | _ => .no
def dList : D → R D
  | .lst xs => .ok (.lst xs)
  | .tup xs => .ok (.lst xs)
  | _ => .no
def dDict : D → R D
  | .dic ks vs => .ok (.dic ks vs)
  | .lst xs => (match pairsOf xs with
    | some ps => if small ps.length then .ok (dicOf ps) else .no
    | none => .no)
  | .tup xs => (match pairsOf xs with
    | some ps => if small ps.length then .ok (dicOf ps) else .no
    | none => .no)
  | _ => .no
def dLenset : D → R D
  | .lst xs => if small xs.length then (match strsOf xs with
    | some ss => .ok (.int (met ss).length)
    | none => .no) else .no
  | _ => .no
def dSortset0 : D → R D
  | .lst xs => if xs.length ≤ 4000 then (match intsOf xs with
    | some ns => .ok (.lst ((srtI (met ns)).map D.int))
    | none => (match strsOf xs with
      | some ss => .ok (.lst ((srtS (met ss)).map D.str))
      | none => .no)) else .no
  | _ => .no
/-- a set of rows of the same kinds, in their order -/
def setRows (xs : List D) : Option (List (List D)) := match rowsOf xs with
  | some (r :: rs) => (match rowKs r with
    | some (k :: ks) => if alike (k :: ks) (r :: rs) && decide (xs.length ≤ 4000) && decide ((met ((r :: rs).map rowS)).length < 64) then some (srtR ((met ((r :: rs).map rowS)).map rowD)) else none
    | _ => none)
  | _ => none
def dSortset (d : D) : R D := match d with
  | .lst xs => (match setRows xs with
    | some rs => .ok (.lst (rs.map D.tup))
    | none => dSortset0 (.lst xs))
  | d => dSortset0 d
def paired : List D → List D → List D
  | x :: xs, y :: ys => .tup [x, y] :: paired xs ys
  | _, _ => []
def tripled : List D → List D → List D → List D
  | x :: xs, y :: ys, z :: zs => .tup [x, y, z] :: tripled xs ys zs
  | _, _, _ => []
def dTupzip : D → D → R D
  | .lst xs, .lst ys => if small xs.length && small ys.length then .ok (.tup (paired xs ys)) else .no
  | _, _ => .no
def dDictzip (a b : D) : R D := match items a, items b with
    | some xs, some ys => if small xs.length && small ys.length then (match keys xs with
      | some ks => .ok (dicOf (ks.zip ys))
      | none => .no) else .no
    | _, _ => .no
def dSum : D → R D
  | .lst xs => (match intsOf xs with
    | some ns => .ok (.int ns.sum)
    | none => .no)
  | _ => .no
def dMax : D → D → R D
  | .int a, .int b => .ok (.int (if b > a then b else a))
  | _, _ => .no
def dMin : D → D → R D
  | .int a, .int b => .ok (.int (if b < a then b else a))
  | _, _ => .no
/-- a sign exchanged for a text -/
def repl1 (c : Nat) (z l : List Nat) : List Nat := l.flatMap fun d => if d = c then z else [d]
def dRep (c : Nat) (z : List Nat) : D → R D
  | .str l => if l.length ≤ 1000 && z.length ≤ 10 then .ok (.str (repl1 c z l)) else .no
  | _ => .no
/-- between two signs, the second one doubled within -/
def dQuote : D → D → R D
  | .tup [.str b, .str [c]], .str l => if l.length ≤ 1000 && b.length ≤ 10 then .ok (.str (b ++ repl1 c [c, c] l ++ [c])) else .no
  | _, _ => .no
/-- a dict of one -/
def dDct1 (a b : D) : R D := match kyOf a with
  | some k => .ok (.dic [k] [b])
  | none => .no
def bi1 : Bi → D → R D
  | .rep c z, d => dRep c z d
  | .len, d => dLen d
  | .all_, d => dAll d
  | .str_, d => dStr d
  | .int_, d => dInt d
  | .abs_, d => dAbs d
  | .tuple, d => dTuple d
  | .list, d => dList d
  | .dict, d => dDict d
  | .sorted, d => sorted d
  | .lenset, d => dLenset d
  | .sortset, d => dSortset d
  | .sum, d => dSum d
  | _, _ => .no
def bi2 : Bi → D → D → R D
  | .quote, d, e => dQuote d e
  | .dct1, d, e => dDct1 d e
  | .tupzip, a, b => dTupzip a b
  | .dictzip, a, b => dDictzip a b
  | .max2, a, b => dMax a b
  | .min2, a, b => dMin a b
  | _, _, _ => .no

def joinL (sep : List Nat) : List (List Nat) → List Nat
  | [] => []
  | [x] => x
  | x :: y :: r => x ++ sep ++ joinL sep (y :: r)

/-- the first place of an equal item -/
def findD (d : D) : List D → Option Nat
  | [] => none
  | x :: xs => if deq x d then some 0 else (findD d xs).map (· + 1)
def countD (d : D) : List D → Nat
  | [] => 0
  | x :: xs => (if deq x d then 1 else 0) + countD d xs

def mJoin : D → D → R D
  | .str s, .lst xs => (match strsOf xs with
    | some ss => if (ss.map List.length).sum + ss.length * s.length ≤ lim then .ok (.str (joinL s ss)) else .no
    | none => .no)
  | _, _ => .no
def mIndex : D → D → R D
  | .lst xs, d => if okd deep d && okds deep xs then (match findD d xs with
    | some j => .ok (.int j)
    | none => .no) else .no
  | _, _ => .no
def mCount : D → D → R D
  | .lst xs, d => if okd deep d && okds deep xs then .ok (.int (countD d xs)) else .no
  | _, _ => .no
def mt1 : Mt → D → D → R D
  | .join, o, d => mJoin o d
  | .index, o, d => mIndex o d
  | .count, o, d => mCount o d
  | _, _, _ => .no

/-- d.get(k, x); a row is no key of it -/
def dGet2 : D → D → D → R D
  | .dic ks vs, y, z => (match y with
    | .tup r => if (rowKs r).isSome then .ok z else .no
    | y => (match kyOf y with
      | some k => .ok (((kyAt k ks).bind (vs[·]?)).getD z)
      | none => .no))
  | _, _, _ => .no
def isDic : D → Bool
  | .dic _ _ => true
  | _ => false

/-- what has the method -/
def mtOk : Mt → D → Bool
  | .join, .str _ => true
  | .index, .lst _ => true
  | .count, .lst _ => true
  | _, _ => false

def numbered : Nat → List D → List D
  | _, [] => []
  | n, x :: xs => .tup [.int n, x] :: numbered (n + 1) xs

/-- the items that a walk gives -/
def walk : Ik → List D → R (List D)
  | .val, [.lst xs] => .ok xs
  | .val, [.tup xs] => .ok xs
  | .val, [.str l] => if l.length ≤ lim then .ok (l.map fun c => .str [c]) else .no
  | .range, [.int n] => if -1000000 ≤ n && n ≤ 1000000 then .ok ((List.range n.toNat).map fun (k : Nat) => D.int k) else .no
  | .range2, [.int a, .int b] => if -1000000 ≤ a && a ≤ 1000000 && -1000000 ≤ b && b ≤ 1000000 then .ok ((List.range (b - a).toNat).map fun (k : Nat) => D.int (a + k)) else .no
  | .enum, [.lst xs] => .ok (numbered 0 xs)
  | .enum, [.tup xs] => .ok (numbered 0 xs)
  | .zip2, [.lst xs, .lst ys] => .ok (paired xs ys)
  | .zip2, [.tup xs, .tup ys] => .ok (paired xs ys)
  | .zip2, [.lst xs, .tup ys] => .ok (paired xs ys)
  | .zip2, [.tup xs, .lst ys] => .ok (paired xs ys)
  | .zip3, [a, b, c] => (match items a, items b, items c with
    | some xs, some ys, some zs => .ok (tripled xs ys zs)
    | _, _, _ => .no)
  | _, _ => .no

/-! ### slots -/
/-- what a slot holds: nothing, a shared value, a list or dict of the frame's own -/
inductive Sl where
  | no
  | sh (d : D)
  | ow (d : D)
abbrev Env := List Sl
def Sl.val : Sl → R D
  | .no => .no
  | .sh d => .ok d
  | .ow d => .ok d
def look (env : Env) (i : Nat) : R D := match env[i]? with
  | some s => s.val
  | none => .no
/-- the slots of a block's own names forgotten -/
def wipe (env : Env) : List Nat → Env
  | [] => env
  | v :: vs => (wipe env vs).set v .no

mutual
def bind : T → D → Env → R Env
  | .one i, d, env => if i < env.length then .ok (env.set i (.sh d)) else .no
  | .many ts, .tup xs, env => binds ts xs env
  | .many _, _, _ => .no
def binds : List T → List D → Env → R Env
  | [], [], env => .ok env
  | t :: ts, x :: xs, env => (bind t x env).bind fun env' => binds ts xs env'
  | _, _, _ => .no
end

/-- the slots of a target -/
def tslots : T → List Nat
  | .one i => [i]
  | .many ts => tsl ts
where tsl : List T → List Nat
  | [] => []
  | t :: r => tslots t ++ tsl r

def asBool : D → R Bool
  | .bl b => .ok b
  | _ => .no

/-- a comprehension's turns -/
def lcGo (bnd : D → R Env) (test : Env → R Bool) (elt : Env → R D) : List D → R (List D)
  | [] => .ok []
  | x :: xs => (bnd x).bind fun env => (test env).bind fun b =>
      if b then (elt env).bind fun d => (lcGo bnd test elt xs).bind fun r => .ok (d :: r)
      else lcGo bnd test elt xs

/-- no exception leaves a block -/
def calmly {A : Type} : R A → R A
  | .ok a => .ok a
  | _ => .no

def nodupK : List Ky → Bool
  | [] => true
  | k :: r => !decide (k ∈ r) && nodupK r

/-! ### expressions -/
section
variable (glob : Nat → R D) (fn : Nat → List D → R D)
mutual
def ev : E → Env → R D
  | .nul, _ => .ok .non
  | .emp, _ => .ok (.dic [] [])
  | .var i, env => look env i
  | .lit d, _ => .ok d
  | .glo g, _ => glob g
  | .tup es, env => (evs es env).bind fun ds => fit ds.length (.tup ds)
  | .lst es, env => (evs es env).bind fun ds => fit ds.length (.lst ds)
  | .dct ks vs, env => (evs vs env).bind fun es => if (ks.length = es.length && ks.length ≤ 15) && (!ks.isEmpty && nodupK ks) then .ok (.dic ks es) else .no
  | .cat a b, env => (ev a env).bind fun x => (ev b env).bind fun y => catL x y
  | .bin o a b, env => (ev a env).bind fun x => (ev b env).bind fun y => bop o x y
  | .neg a, env => (ev a env).bind fun x => match x with
    | .int i => .ok (.int (-i))
    | _ => .no
  | .cmp o a b, env => (ev a env).bind fun x => (ev b env).bind fun y => (cop o x y).bind fun z => .ok (.bl z)
  | .cmp2 o p a b c, env => (ev a env).bind fun x => (ev b env).bind fun y => (cop o x y).bind fun z =>
      if z then (ev c env).bind fun w => (cop p y w).bind fun u => .ok (.bl u) else .ok (.bl false)
  | .and_ a b, env => (ev a env).bind fun x => (asBool x).bind fun z => if z then ev b env else .ok (.bl false)
  | .or_ a b, env => (ev a env).bind fun x => (asBool x).bind fun z => if z then .ok (.bl true) else ev b env
  | .not_ a, env => (ev a env).bind fun x => (asBool x).bind fun z => .ok (.bl (!z))
  | .ite c a b, env => (ev c env).bind fun x => (asBool x).bind fun z => if z then ev a env else ev b env
  | .idx a i, env => (ev a env).bind fun x => (ev i env).bind fun y => idx x y
  | .slc a l u, env => (ev a env).bind fun x => (if l.isNul then .ok none else (ev l env).bind intOf).bind fun y =>
      (if u.isNul then .ok none else (ev u env).bind intOf).bind fun z => slc x y z
  | .rev a, env => (ev a env).bind fun x => rvs x
  | .call f es, env => (evs es env).bind fun ds => fn f ds
  | .isi a t, env => (ev a env).bind fun x => isTyR t x
  | .isx i a b, env => (look env i).bind fun x => match x with
    | .adr a' => if a' = a then .ok (.bl b) else .no
    | _ => .no
  | .bi1 f a, env => (ev a env).bind fun x => bi1 f x
  | .bi2 f a b, env => (ev a env).bind fun x => (ev b env).bind fun y => bi2 f x y
  | .mt1 m o a, env => (ev o env).bind fun x => if mtOk m x then (ev a env).bind fun y => mt1 m x y else .no
  | .get2 o k x, env => (ev o env).bind fun a => if isDic a then (ev k env).bind fun y => (ev x env).bind fun z => dGet2 a y z else .no
  | .lc e t k args c own, env => (evs args env).bind fun ds => (walk k ds).bind fun xs =>
      (calmly (lcGo (fun x => bind t x (wipe env own)) (fun env' => evc c env') (fun env' => ev e env') xs)).bind fun rs => fit rs.length (.lst rs)
def evs : List E → Env → R (List D)
  | [], _ => .ok []
  | e :: es, env => (ev e env).bind fun d => (evs es env).bind fun ds => .ok (d :: ds)
/-- a clause's tests: none, or one -/
def evc : List E → Env → R Bool
  | [], _ => .ok true
  | e :: _, env => (ev e env).bind fun x => asBool x
end
end

/-! ### statements -/
inductive S where
  | asg (t : T) (e : E) (own : Bool) (uses : List Nat)
  | asgput (i j : Nat) (k e : E) (uses : List Nat)
  | par (js : List Nat) (es : List E)
  | app (i : Nat) (e : E) (uses : List Nat)
  | ext (i : Nat) (e : E) (uses : List Nat)
  | put (i : Nat) (k v : E) (uses : List Nat)
  | exp (e : E)
  | ret (e : E)
  | ite (c : E) (a b : List S)
  | for_ (t : T) (k : Ik) (args : List E) (uses : List Nat) (body : List S)
  | forL (t : T) (k : Ik) (args : List E) (uses : List Nat) (body : List S)
  | while_ (c : E) (body : List S)
  | raise (c : Nat) (e : E)
  | tryR (e : E) (i : Nat)

inductive Out where
  | nx (env : Env)
  | rt (d : D)
  | ex (c : Nat)
  | no

def flat : D → Bool
  | .non => true
  | .bl _ => true
  | .int _ => true
  | .str _ => true
  | _ => false

/-- own lists and dicts as they are seen: those of uses alone -/
def Sl.seen (b : Bool) : Sl → Sl
  | .ow d => if b then .sh d else .no
  | s => s
def Sl.free (b : Bool) : Sl → Sl
  | .ow d => if b then .sh d else .ow d
  | s => s
def mask (uses : List Nat) (env : Env) : Env := env.mapIdx fun i s => s.seen (decide (i ∈ uses))
def open_ (env : Env) : Env := env.map (Sl.seen true)
def demote (uses : List Nat) (env : Env) : Env := env.mapIdx fun i s => s.free (decide (i ∈ uses))
/-- what is left of them behind a value that is kept -/
def after (d : D) (uses : List Nat) (env : Env) : Env := if flat d then env else demote uses env

def R.out {A : Type} (x : R A) (f : A → Out) : Out :=
  match x with
  | .ok a => f a
  | .ex c => .ex c
  | .no => .no
@[simp] theorem R.out_ok {A : Type} (a : A) (f : A → Out) : R.out (.ok a) f = f a := rfl
@[simp] theorem R.out_ex {A : Type} (c : Nat) (f : A → Out) : R.out (.ex c : R A) f = .ex c := rfl
@[simp] theorem R.out_no {A : Type} (f : A → Out) : R.out (.no : R A) f = .no := rfl

def ownAt (env : Env) (i : Nat) : R D := match env[i]? with
  | some (.ow d) => .ok d
  | _ => .no
/-- a fresh list or dict -/
def fresh : E → Bool
  | .lst _ => true
  | .dct _ _ => true
  | .emp => true
  | .cat _ _ => true
  | .lc .. => true
  | .bi1 .dict _ => true
  | .bi1 .list _ => true
  | .bi1 .sorted _ => true
  | _ => false
def asgOut (t : T) (own : Bool) (d : D) (env : Env) : R Env :=
  match own, t with
  | true, .one i => if i < env.length then .ok (env.set i (.ow d)) else .no
  | true, .many _ => .no
  | false, t => bind t d env
def parGo : List Nat → List D → Env → R Env
  | [], [], env => .ok env
  | i :: js, d :: ds, env => if i < env.length then parGo js ds (env.set i (.sh d)) else .no
  | _, _, _ => .no
def putOut (i : Nat) (k v : D) (env : Env) : R Env := (ownAt env i).bind fun o => match o with
  | .dic ks vs => (match kyOf k with
    | some k => if small ks.length then (let q := put k v ks vs; .ok (env.set i (.ow (.dic q.1 q.2)))) else .no
    | none => .no)
  | _ => .no

/-- what stood empty ahead of a loop is forgotten behind each turn -/
def Sl.keep : Sl → Sl → Sl
  | .no, _ => .no
  | _, t => t
def refit : Env → Env → Env
  | s :: r, t :: q => s.keep t :: refit r q
  | _, q => q
def forGo (bnd : D → Env → R Env) (body : Env → Out) (e0 : Env) : List D → Env → Out
  | [], env => .nx env
  | x :: xs, env => (bnd x env).out fun env' => match body env' with
    | .nx env2 => forGo bnd body e0 xs (refit e0 env2)
    | .rt d => .rt d
    | .ex c => .ex c
    | .no => .no
def whileGo (test : Env → R Bool) (body : Env → Out) (e0 : Env) : Nat → Env → Out
  | 0, _ => .no
  | n + 1, env => (test env).out fun b => if b then (match body env with
    | .nx env2 => whileGo test body e0 n (refit e0 env2)
    | .rt d => .rt d
    | .ex c => .ex c
    | .no => .no) else .nx env
def turns : Nat := 100000

section
variable (glob : Nat → R D) (fn : Nat → List D → R D) (refu : Nat → R D)
mutual
def exS : S → Env → Out
  | .asg t e own uses, env => (ev glob fn e (mask uses env)).out fun d =>
      if own && !fresh e then .no else (asgOut t own d (if own then demote uses env else after d uses env)).out .nx
  | .asgput i j k e uses, env => (ownAt env j).out fun _ => if i = j then .no else (ev glob fn e (mask uses env)).out fun d => match d with
    | .tup [a, b] => (bind (.one i) a (after d uses env)).out fun env1 => (ev glob fn k (mask [] env1)).out fun kd => if flat kd then (putOut j kd b env1).out .nx else .no
    | _ => .no
  | .par js es, env => (evs glob fn es (open_ env)).out fun ds => if ds.all flat then (parGo js ds env).out .nx else .no
  | .app i e uses, env => (ownAt env i).out fun o => match o with
    | .lst xs => (ev glob fn e (mask uses env)).out fun d => (ownAt (after d uses env) i).out fun _ =>
      if xs.length < lim then .nx ((after d uses env).set i (.ow (.lst (xs ++ [d])))) else .no
    | _ => .no
  | .ext i e uses, env => (ownAt env i).out fun o => match o with
    | .lst _ => (ev glob fn e (mask uses env)).out fun d => (ownAt (demote uses env) i).out fun o => match o, d with
      | .lst xs, .lst ys => if xs.length + ys.length ≤ lim then .nx ((demote uses env).set i (.ow (.lst (xs ++ ys)))) else .no
      | _, _ => .no
    | _ => .no
  | .put i k v uses, env => (ownAt env i).out fun _ => (ev glob fn v (mask uses env)).out fun d => (ev glob fn k (mask [] (after d uses env))).out fun kd =>
      if flat kd then (putOut i kd d (after d uses env)).out .nx else .no
  | .exp e, env => (ev glob fn e (open_ env)).out fun _ => .nx env
  | .ret e, env => (ev glob fn e (open_ env)).out .rt
  | .ite c a b, env => ((ev glob fn c (open_ env)).bind asBool).out fun z => if z then exSs a env else exSs b env
  | .for_ t k args uses body, env => (evs glob fn args (mask uses env)).out fun ds => (walk k ds).out fun xs =>
      forGo (fun x env' => bind t x env') (fun env' => exSs body env') (demote uses env) xs (demote uses env)
  | .forL t k args uses body, env => (evs glob fn args (mask uses env)).out fun ds => (walk k ds).out fun xs =>
      forGo (fun x env' => bind t x env') (fun env' => exSs body env') [] xs (demote uses env)
  | .while_ c body, env => whileGo (fun env' => (ev glob fn c (open_ env')).bind asBool) (fun env' => exSs body env') env turns env
  | .raise c e, env => (ev glob fn e (open_ env)).out fun _ => .ex c
  | .tryR e _, env => match ev glob fn e (open_ env) with
    | .ok d => .rt d
    | .ex c => (refu c).out .rt
    | .no => .no
def exSs : List S → Env → Out
  | [], env => .nx env
  | s :: ss, env => match exS s env with
    | .nx env' => exSs ss env'
    | .rt d => .rt d
    | .ex c => .ex c
    | .no => .no
end
end

/-- a def: how many parameters, how many slots, its body -/
structure Fd where
  ps : Nat
  ns : Nat
  body : List S
def start (fd : Fd) (ds : List D) : Env := ds.map Sl.sh ++ List.replicate (fd.ns - ds.length) .no
def ended : Out → R D
  | .nx _ => .ok .non
  | .rt d => .ok d
  | .ex c => .ex c
  | .no => .no
/-- the program: constants, defs, what a refusal is told as -/
structure Pr where
  glob : Nat → R D
  fd : Nat → Option Fd
  refu : Nat → R D
def callF (P : Pr) : Nat → Nat → List D → R D
  | 0, _, _ => .no
  | n + 1, f, ds => match P.fd f with
    | some fd => if ds.length = fd.ps then ended (exSs P.glob (callF P n) P.refu fd.body (start fd ds)) else .no
    | none => .no
end Ev

/-! What the head asks. -/
namespace Ev
open PySem L2
abbrev tx (l : List Nat) : Str := ⟨l.toArray⟩
/-- codes that are signs -/
def okc (l : List Nat) : Bool := l.all (· < 0x110000)
def bnames : List Str := ["len", "all", "str", "int", "abs", "tuple", "list", "dict", "sorted", "isinstance", "range", "enumerate", "zip", "set", "sum", "max", "min", "bool"]
mutual
/-- u stands for d in what is written -/
def repB (K : PySem.W.Frag) : D → Value → Bool
  | .non, u => (match u with
    | .none => true
    | _ => false)
  | .bl b, u => (match u with
    | .bool c => b == c
    | _ => false)
  | .int i, u => (match u with
    | .int j _ => decide (i = j)
    | _ => false)
  | .str l, u => (match u with
    | .str y _ => decide (y = tx l) && okc l
    | _ => false)
  | .tup ds, u => (match u with
    | .ref a => (match K.lookup a with
      | some ⟨.type c, none, .seq its _, _⟩ => decide (c = "tuple") && (decide (its.size ≤ sizeLine) && repsB K ds its.toList)
      | _ => false)
    | _ => false)
  | .lst _, _ => false
  | .dic _ _, _ => false
  | .scr _, _ => false
  | .gdc _ _, _ => false
  | .adr _, _ => false
def repsB (K : PySem.W.Frag) : List D → List Value → Bool
  | [], us => us.isEmpty
  | d :: ds, us => (match us with
    | u :: us => repB K d u && repsB K ds us
    | [] => false)
end
/-- a dict of the top: its values, and no other key -/
def valsG (K : PySem.W.Frag) (a : Addr) : List (List Nat) → List D → Bool
  | [], ds => ds.isEmpty
  | l :: ks, ds => (match ds with
    | d :: ds => (match PySem.W.nsIn K a (tx l) with
      | some (some u) => repB K d u
      | _ => false) && valsG K a ks ds
    | [] => false)
def onlyG (K : PySem.W.Frag) (a : Addr) (ks : List (List Nat)) : Bool := match K.lookup a with
  | some ⟨_, _, .dict es _, _⟩ => es.toList.all fun e => (ks.any fun l => e.key.isStr (tx l)) && !e.refKey
  | _ => false
/-- the tokens of the texts in a dict's tuples are drawn ahead -/
def tokOk : Value → Bool
  | .str _ t => decide (t ≠ 0) && decide (t < lowT)
  | _ => true
def quoB (K : PySem.W.Frag) (a : Addr) (ks : List (List Nat)) : Bool := ks.all fun l => match PySem.W.nsIn K a (tx l) with
  | some (some (.ref b)) => (match K.lookup b with
    | some ⟨_, _, .seq its _, _⟩ => its.toList.all tokOk
    | _ => true)
  | _ => true
structure Df where
  x : Str
  g : Str
  st : Stmt
  N : List Str
  ps : List Str
  ow : List Str
structure Lw where
  dfs : List Df
  rfd : Df
  hr : Bool
  gs : List (Str × D)
  cs : List Str
def excCB (K : PySem.W.Frag) (A : Addr) : Bool :=
  He.eqO (PySem.W.findIn K (.ref A) "__getattribute__") (some (some (.builtin "BaseException.__getattribute__"))) && (He.eqO (PySem.W.findIn K (.ref A) "__getattr__") (some none) && (decide (PySem.W.subIn K (.ref A) (.type "BaseException") = some true) && (PySem.W.hasDictIn K A &&
    (He.eqO (PySem.W.findIn K (.ref A) "__class__") (some (some (.builtin "object.__class__"))) && (He.eqO (PySem.W.specialIn K (.builtin "object.__class__") "__get__") (some (some (.builtin "getset_descriptor.__get__"))) && (decide (PySem.W.takesIn K (.builtin "object.__class__") = some true) && decide (PySem.W.mroIn K A (.type "object") = some true)))))))
def gloB (K : PySem.W.Frag) (x : Str) : Bool := He.Fa.ok K (.glo x)
def clsB (K : PySem.W.Frag) (cs : List Str) (x : Str) : Bool :=
  gloB K x && (He.Fa.ok K (.exc x) && (excCB K (He.ga K x) && (He.Fa.ok K (.exm x "AskError" true) && ((cs.all fun y => decide (PySem.W.kitOne K (.ref (He.ga K x)) (.ref (He.ga K y)) = some (decide (y = x)))) && decide (PySem.W.kitOne K (.ref (He.ga K x)) (.type "ValueError") = some true)))))
def conG (K : PySem.W.Frag) (x : Str) (d : D) : Bool :=
  match d with
  | .gdc ks ds => gloB K x && (valsG K (He.ga K x) ks ds && (onlyG K (He.ga K x) ks && quoB K (He.ga K x) ks))
  | d => (match PySem.W.nsIn K mainGlobals x with
    | some (some u) => repB K d u
    | _ => false)
def freeB (K : PySem.W.Frag) (x : Str) : Bool := He.Fa.ok K (.free x)
def Lw.okK (L : Lw) (K : PySem.W.Frag) : Bool :=
  (L.dfs.all fun d => gloB K d.g) && ((!L.hr || gloB K L.rfd.g) && ((bnames.all fun b => freeB K b) && (freeB K "ValueError" && ((L.cs.all fun x => clsB K L.cs x) && (gloB K "AskError" && L.gs.all fun p => conG K p.1 p.2)))))

def dfD (d : Df) : He.DefD := ⟨(d.g, none), d.x, d.x, defArgs d.st, defBody d.st, defScope d.st, [], []⟩
/-- all defs -/
def Lw.all (L : Lw) : List Df := L.dfs ++ (if L.hr then [L.rfd] else [])
end Ev

/-! The head's hook, with the tokens drawn. -/
noncomputable section
namespace Ev
open PySem PySem.W PySem.Calls PyProof.Rows
/-- a hook that looks at the tokens, too -/
def HookT (H : Hook) : Hook := ⟨H.α × Bool, fun s => (H.obs s, Nat.ble lowT s.toks), fun w => (H.val w, true), H.says, fun w s e => H.of w s (congrArg Prod.fst e), H.keeps⟩
end Ev
end

namespace La
open PySem PySem.W PySem.Calls PyProof.Rows L2 Ev
def top (i : Nat) : Stmt := PySem.Challenge.pw_askparts_k30_names.main.body.getD i (.Pass ⟨0, 0, 0, 0⟩)
def d0 : Df := ⟨"is_number", "is_number", top 16, ["thing", "low", "high"], ["thing", "low", "high"], []⟩
def d1 : Df := ⟨"is_signs", "is_signs", top 17, ["thing", "low", "high", "sign"], ["thing", "low", "high"], []⟩
def d2 : Df := ⟨"is_name", "is_name", top 18, ["thing"], ["thing"], []⟩
def d3 : Df := ⟨"is_worth", "is_worth", top 19, ["thing"], ["thing"], []⟩
def d4 : Df := ⟨"need_tongue", "need_tongue", top 23, ["tongue"], ["tongue"], []⟩
def d5 : Df := ⟨"name_said", "name_said", top 24, ["tongue", "name", "begin", "end"], ["tongue", "name"], []⟩
def d6 : Df := ⟨"worth_said", "worth_said", top 25, ["tongue", "worth"], ["tongue", "worth"], []⟩
def d7 : Df := ⟨"_law_cell", "_law_cell", top 27, ["script", "k"], ["script", "k"], []⟩
def d8 : Df := ⟨"_law_drawn", "_law_drawn", top 28, ["script", "k", "many", "cell"], ["script", "k", "many"], []⟩
def d9 : Df := ⟨"_law_told", "_law_told", top 30, ["way", "tongue", "thing", "e"], ["way", "tongue", "thing"], []⟩
def d10 : Df := ⟨"_law_quoted", "_law_quoted", top 31, ["text", "begin", "end", "twice", "found", "sign"], ["text", "begin", "end", "twice"], []⟩
def d11 : Df := ⟨"_law_names", "_law_names", top 32, ["tongue", "name", "begin", "end"], ["tongue", "name"], []⟩
def d12 : Df := ⟨"_law_worths", "_law_worths", top 33, ["tongue", "worth"], ["tongue", "worth"], []⟩
def d13 : Df := ⟨"law", "law", top 34, ["script", "signs", "drawn", "names", "tongue", "odd", "worths", "k", "name", "one", "way"], ["script"], []⟩
def dR : Df := ⟨"_law_refused", "_law_refused", top 29, ["e", "flags"], ["e"], []⟩
def lw : Lw where
  dfs := [d0, d1, d2, d3, d4, d5, d6, d7, d8, d9, d10, d11, d12, d13]
  rfd := dR
  hr := true
  gs := [("MOST_NAME", (.int (8))),
    ("MOST_TEXT", (.int (12))),
    ("MOST_NUMBER", (.int (9999))),
    ("TONGUES", (.tup [(.str [100, 111, 117, 98, 108, 101]), (.str [98, 114, 97, 99, 107, 101, 116]), (.str [116, 105, 99, 107])])),
    ("NAMES", (.gdc [[100, 111, 117, 98, 108, 101], [98, 114, 97, 99, 107, 101, 116], [116, 105, 99, 107]] [(.tup [(.str [34]), (.str [34])]), (.tup [(.str [91]), (.str [93])]), (.tup [(.str [96]), (.str [96])])]))]
  cs := ["NoBook", "NoTable", "NoAsk", "Faulty", "NoName", "NoTongue", "NoText", "NoStore", "Taken", "NoPart"]
end La
namespace La
open PySem PySem.W PySem.Calls PyProof.Rows L2 Ev
abbrev RR : OpenRow := OpenLaw.row PySem.Challenge.rw_askparts_k30_names
abbrev qv : Program := view RR.prog [34]
def nm0 : List PySem.Str := ["AskError", "NoBook", "NoTable", "NoAsk", "Faulty", "NoName", "NoTongue", "NoText", "NoStore", "Taken", "NoPart", "MOST_NAME", "MOST_TEXT", "MOST_NUMBER", "is_number", "is_signs", "is_name", "is_worth", "TONGUES", "NAMES", "need_tongue", "name_said", "worth_said", "_law_cell", "_law_drawn", "_law_refused", "_law_told", "_law_quoted", "_law_names", "_law_worths"]
def names : List PySem.Str := nm0
def fn : List He.DefD := lw.all.map dfD
def ts : List He.Tab := [(fun K => He.ga K "NAMES", ["double", "bracket", "tick"])]
abbrev hk : PySem.W.Hook := He.hookX 4 [] fn ts [] lw.okK
def ob (s : PySem.W.SharedT) : He.AlX := He.obsX 4 [] fn ts [] lw.okK (HandSHeadRun.getT s)
theorem ob_eq (s : PySem.W.SharedT) : ob s = hk.obs s.abs := He.obsX_eq (HandSHeadRun.getT_eq s)
def obT (s : PySem.W.SharedT) : (Ev.HookT hk).α := (ob s, Nat.ble Ev.lowT s.abs.toks)
theorem obT_eq (s : PySem.W.SharedT) : obT s = (Ev.HookT hk).obs s.abs := congrArg (fun z => (z, Nat.ble Ev.lowT s.abs.toks)) (ob_eq s)
theorem run_a (w : World) : HandSHeadRun.RunEq RR qv (Ev.HookT hk) obT 6000 names (w.withFollow "special-get-raises" false) := by
  intro os
  kernel_rfl
theorem run_b (w : World) : HandSHeadRun.RunEq RR qv (Ev.HookT hk) obT 6000 names (w.withFollow "special-get-raises" true) := by
  intro os
  kernel_rfl
theorem run (w : World) : HandSHeadRun.RunEq RR qv (Ev.HookT hk) obT 6000 names w := PySem.W.byRow2 "special-get-raises" (P := fun w => HandSHeadRun.RunEq RR qv (Ev.HookT hk) obT 6000 names w) run_a run_b w
end La
/-! The hand's judgements once more, with a lower bound of the tokens drawn. -/
namespace Ev
open PySem L2 PyProof.Rows
structure Inv (X : Cx) (pins : List (Addr × Obj)) (σ : L2.St) (H : Hp) (s : Shared) : Prop extends L2.Inv X pins σ H s where
  tk : lowT ≤ s.toks
abbrev Pn := List (Addr × Obj)
/-- value, test, arguments, statement: what stands behind -/
def EP (X : Cx) (pins : Pn) (σ : L2.St) (Q : VK) (u : Value) (z : Shared) : Prop := ∃ v H', Inv X pins σ H' z ∧ RelV v u ∧ Q v H'
def TP (X : Cx) (pins : Pn) (σ : L2.St) (Q : Bool → Hp → Prop) (b : Bool) (z : Shared) : Prop := ∃ H', Inv X pins σ H' z ∧ Q b H'
def AP (X : Cx) (pins : Pn) (σ : L2.St) (Q : List V → Hp → Prop) (us : List Value) (z : Shared) : Prop := ∃ vs H', Inv X pins σ H' z ∧ Vals vs us ∧ Q vs H'
def GP (X : Cx) (pins : Pn) (Q : L2.St → Hp → Prop) (z : Shared) : Prop := ∃ σ' H', Inv X pins σ' H' z ∧ Q σ' H'
def SP (X : Cx) (pins : Pn) (D : Ends) (f : Flow) (z : Shared) : Prop := match f with
  | .next => GP X pins D.nx z
  | .brk => GP X pins D.bk z
  | .cont => GP X pins D.ct z
  | .ret u => ∃ v σ' H', Inv X pins σ' H' z ∧ RelV v u ∧ D.rt v H'
section
variable {X : Cx} {pins : Pn} {σ : L2.St} {H : Hp} {s : Shared} {α : Type} {t : Sem α}
abbrev wx (X : Cx) {α : Type} (t : Sem α) (Q : α → Shared → Prop) (s : Shared) : Prop := wpAny (model X.prog X.w) X.A t Q X.xe s
theorem up0 {Q R : α → Shared → Prop} {E : Value → Shared → Prop} {M : Model} {A : Around} (hn : lowT ≤ s.toks) (h : wpAny M A t Q E s) (k : ∀ a z, lowT ≤ z.toks → Q a z → R a z) : wpAny M A t R E s :=
  wpAny_mono (wpAny_toks_of hn h) (fun a z q => k a z q.1 q.2) fun _ _ q => q.2
theorem _root_.L2.Inv.on (I : L2.Inv X pins σ H s) (h : lowT ≤ s.toks) : Inv X pins σ H s := { I with tk := h }
theorem EP.of {Q : VK} {u : Value} {z : Shared} (h : lowT ≤ z.toks) (q : L2.EP X pins σ Q u z) : EP X pins σ Q u z := let ⟨v, H', J, r, p⟩ := q; ⟨v, H', J.on h, r, p⟩
theorem TP.of {Q : Bool → Hp → Prop} {b : Bool} {z : Shared} (h : lowT ≤ z.toks) (q : L2.TP X pins σ Q b z) : TP X pins σ Q b z := let ⟨H', J, p⟩ := q; ⟨H', J.on h, p⟩
theorem AP.of {Q : List V → Hp → Prop} {u : List Value} {z : Shared} (h : lowT ≤ z.toks) (q : L2.AP X pins σ Q u z) : AP X pins σ Q u z := let ⟨v, H', J, r, p⟩ := q; ⟨v, H', J.on h, r, p⟩
theorem SP.of {D : Ends} {f : Flow} {z : Shared} (h : lowT ≤ z.toks) (q : L2.SP X pins D f z) : SP X pins D f z := by
  cases f with
  | ret u => obtain ⟨v, σ', H', J, r, p⟩ := q; exact ⟨v, σ', H', J.on h, r, p⟩
  | next => obtain ⟨σ', H', J, p⟩ := q; exact ⟨σ', H', J.on h, p⟩
  | brk => obtain ⟨σ', H', J, p⟩ := q; exact ⟨σ', H', J.on h, p⟩
  | cont => obtain ⟨σ', H', J, p⟩ := q; exact ⟨σ', H', J.on h, p⟩
/-- a leaf's end, with the bound -/
theorem upE {t : Sem Value} {Q : VK} {E : Value → Shared → Prop} {M : Model} {A : Around} (hn : lowT ≤ s.toks) (h : wpAny M A t (L2.EP X pins σ Q) E s) : wpAny M A t (EP X pins σ Q) E s := up0 hn h fun _ _ k q => EP.of k q
theorem up1 {β : Type} {t : Sem β} {f : β → Sem Value} {Q : VK} {E E2 : Value → Shared → Prop} {M : Model} {A A2 : Around} (hn : lowT ≤ s.toks) (h : wpAny M A t (fun a z => wpAny M A2 (f a) (L2.EP X pins σ Q) E2 z) E s) : wpAny M A t (fun a z => wpAny M A2 (f a) (EP X pins σ Q) E2 z) E s := up0 hn h fun _ _ k q => upE k q
theorem up2 {β γ : Type} {t : Sem β} {f : β → Sem γ} {g : β → γ → Sem Value} {Q : VK} {E E2 E3 : Value → Shared → Prop} {M : Model} {A A2 A3 : Around} (hn : lowT ≤ s.toks) (h : wpAny M A t (fun a z => wpAny M A2 (f a) (fun b z2 => wpAny M A3 (g a b) (L2.EP X pins σ Q) E3 z2) E2 z) E s) :
    wpAny M A t (fun a z => wpAny M A2 (f a) (fun b z2 => wpAny M A3 (g a b) (EP X pins σ Q) E3 z2) E2 z) E s := up0 hn h fun _ _ k q => up1 k q
theorem up3 {β γ δ : Type} {t : Sem β} {f : β → Sem γ} {g : β → γ → Sem δ} {j : β → γ → δ → Sem Value} {Q : VK} {E E2 E3 E4 : Value → Shared → Prop} {M : Model} {A A2 A3 A4 : Around} (hn : lowT ≤ s.toks) (h : wpAny M A t (fun a z => wpAny M A2 (f a) (fun b z2 => wpAny M A3 (g a b) (fun c z3 => wpAny M A4 (j a b c) (L2.EP X pins σ Q) E4 z3) E3 z2) E2 z) E s) :
    wpAny M A t (fun a z => wpAny M A2 (f a) (fun b z2 => wpAny M A3 (g a b) (fun c z3 => wpAny M A4 (j a b c) (EP X pins σ Q) E4 z3) E3 z2) E2 z) E s := up0 hn h fun _ _ k q => up2 k q
theorem upT {t : Sem Bool} {Q : Bool → Hp → Prop} {E : Value → Shared → Prop} {M : Model} {A : Around} (hn : lowT ≤ s.toks) (h : wpAny M A t (L2.TP X pins σ Q) E s) : wpAny M A t (TP X pins σ Q) E s := up0 hn h fun _ _ k q => TP.of k q
theorem upS {t : Sem Flow} {D : Ends} {E : Value → Shared → Prop} {M : Model} {A : Around} (hn : lowT ≤ s.toks) (h : wpAny M A t (L2.SP X pins D) E s) : wpAny M A t (SP X pins D) E s := up0 hn h fun _ _ k q => SP.of k q
theorem upG {t : Sem α} {Q : L2.St → Hp → Prop} {E : Value → Shared → Prop} {M : Model} {A : Around} (hn : lowT ≤ s.toks) (h : wpAny M A t (fun _ z => ∃ σ' H', L2.Inv X pins σ' H' z ∧ Q σ' H') E s) : wpAny M A t (fun _ z => GP X pins Q z) E s :=
  up0 hn h fun _ _ k q => let ⟨σ', H', J, p⟩ := q; ⟨σ', H', J.on k, p⟩
end
structure PE (X : Cx) (e : Expr) (t : TE) : Prop where
  run : ∀ (pins : Pn) (s : Shared) (σ : L2.St) (H : Hp) (Q : VK), Inv X pins σ H s → t σ H Q → wx X (eval e X.env) (EP X pins σ Q) s
structure PT (X : Cx) (e : Expr) (t : TT) : Prop where
  run : ∀ (pins : Pn) (s : Shared) (σ : L2.St) (H : Hp) (Q : Bool → Hp → Prop), Inv X pins σ H s → t σ H Q → wx X (isTrue e X.env (eval e X.env)) (TP X pins σ Q) s
structure PW (X : Cx) (e : Expr) (t : TT) : Prop where
  run : ∀ (wh : Sem Value) (pins : Pn) (s : Shared) (σ : L2.St) (H : Hp) (Q : Bool → Hp → Prop), Inv X pins σ H s → t σ H Q → wx X (isTrue e X.env wh) (TP X pins σ Q) s
theorem PW.pt {X : Cx} {e : Expr} {t : TT} (h : PW X e t) : PT X e t := ⟨h.run _⟩
structure PA (X : Cx) (es : List Expr) (t : TA) : Prop where
  run : ∀ (pos : Pos) (pins : Pn) (s : Shared) (σ : L2.St) (H : Hp) (Q : List V → Hp → Prop), Inv X pins σ H s → t σ H Q → wx X (spliced (backTo pos (starEach es X.env))) (AP X pins σ Q) s
structure PS (X : Cx) (st : Stmt) (t : TS) : Prop where
  run : ∀ (pins : Pn) (s : Shared) (σ : L2.St) (H : Hp) (D : Ends), Inv X pins σ H s → t D σ H → wx X (exec st X.env) (SP X pins D) s
structure PSs (X : Cx) (st : List Stmt) (t : TS) : Prop where
  run : ∀ (pins : Pn) (s : Shared) (σ : L2.St) (H : Hp) (D : Ends), Inv X pins σ H s → t D σ H → wx X (execs st X.env) (SP X pins D) s
structure PG (X : Cx) (tg : Expr) (t : TG) : Prop where
  run : ∀ (pins : Pn) (s : Shared) (σ : L2.St) (H : Hp) (v : V) (u : Value) (Q : L2.St → Hp → Prop), Inv X pins σ H s → RelV v u → t v σ H Q → wx X (assign tg X.env u) (fun _ z => GP X pins Q z) s
structure PGs (X : Cx) (ts : List Expr) (t : TGs) : Prop where
  run : ∀ (pins : Pn) (s : Shared) (σ : L2.St) (H : Hp) (vs : List V) (us : List Value) (Q : L2.St → Hp → Prop), Inv X pins σ H s → Vals vs us → t vs σ H Q →
    wx X (assignInOrder ((assignEach ts X.env).map (·.2)) us) (fun _ z => GP X pins Q z) s
/-- an iterator that has come -/
def PIE (X : Cx) (pins : Pn) (σ : L2.St) (tg : Expr) (R : It → Hp → Prop) (itv : Value) (z : Shared) : Prop := lowT ≤ z.toks ∧ L2.PIE X pins σ tg R itv z
structure PI (X : Cx) (tg iter : Expr) (wi : TI) : Prop where
  run : ∀ (pins : Pn) (s : Shared) (σ : L2.St) (H : Hp) (R : It → Hp → Prop), Inv X pins σ H s → wi σ H R → wx X (eval iter X.env) (fun v s1 => wx X (pyIter v) (PIE X pins σ tg R) s1) s
structure PTs (X : Cx) (ifs : List Expr) (t : TT) : Prop where
  run : ∀ (pins : Pn) (s : Shared) (σ : L2.St) (H : Hp) (Q : Bool → Hp → Prop), Inv X pins σ H s → t σ H Q →
    wx X (forIn ifs true fun c r => if r = true then do let ok ← isTrue c X.env (eval c X.env); pure (ForInStep.yield ok) else pure (ForInStep.yield r)) (TP X pins σ Q) s
structure PPs (X : Cx) (pos : Pos) (keys : List (Option Expr)) (values : List Expr) (trs : List (TE × TE)) : Prop where
  run : ∀ (pins : Pn) (s : Shared) (σ : L2.St) (H : Hp) (Q : List (V × V) → Hp → Prop), Inv X pins σ H s → tPairs trs σ H Q →
    wx X (evalPairs (pairTrees keys values X.env pos)) (fun vs z => ∃ ps H', Inv X pins σ H' z ∧ VV ps vs ∧ Q ps H') s
structure PO (X : Cx) (e : Option Expr) (t : TO) : Prop where
  run : ∀ (pins : Pn) (s : Shared) (σ : L2.St) (H : Hp) (Q : Option Int → Hp → Prop), Inv X pins σ H s → t σ H Q → wx X (evalPart e X.env) (fun u z => ∃ o H', Inv X pins σ H' z ∧ IsPart u o ∧ Q o H') s
theorem upI1 {X : Cx} {pins : Pn} {σ : L2.St} {tg : Expr} {R : It → Hp → Prop} {β : Type} {t : Sem β} {f : β → Sem Value} {E E2 : Value → Shared → Prop} {M : Model} {A A2 : Around} {s : Shared} (hn : lowT ≤ s.toks) (h : wpAny M A t (fun a z => wpAny M A2 (f a) (L2.PIE X pins σ tg R) E2 z) E s) : wpAny M A t (fun a z => wpAny M A2 (f a) (PIE X pins σ tg R) E2 z) E s := up0 hn h fun _ _ k q => up0 k q fun _ _ k2 r => ⟨k2, r⟩
theorem upP {X : Cx} {pins : Pn} {σ : L2.St} {tg : Expr} {R : It → Hp → Prop} {t : Sem Value} {E : Value → Shared → Prop} {M : Model} {A : Around} {s : Shared} (hn : lowT ≤ s.toks) (h : wpAny M A t (L2.PIE X pins σ tg R) E s) : wpAny M A t (PIE X pins σ tg R) E s := up0 hn h fun _ _ k q => ⟨k, q⟩
/-! ### from the hand's own -/
section
variable {X : Cx}
theorem PE.of {e : Expr} {t : TE} (h : L2.PE X e t) : PE X e t := ⟨fun _ _ _ _ _ I q => upE I.tk (h.run _ _ _ _ _ I.toInv q)⟩
theorem PT.of {e : Expr} {t : TT} (h : L2.PT X e t) : PT X e t := ⟨fun _ _ _ _ _ I q => upT I.tk (h.run _ _ _ _ _ I.toInv q)⟩
theorem PA.of {e : List Expr} {t : TA} (h : L2.PA X e t) : PA X e t := ⟨fun p _ _ _ _ _ I q => up0 I.tk (h.run p _ _ _ _ _ I.toInv q) fun _ _ k r => AP.of k r⟩
theorem PS.of {e : Stmt} {t : TS} (h : L2.PS X e t) : PS X e t := ⟨fun _ _ _ _ _ I q => upS I.tk (h.run _ _ _ _ _ I.toInv q)⟩
theorem PSs.of {e : List Stmt} {t : TS} (h : L2.PSs X e t) : PSs X e t := ⟨fun _ _ _ _ _ I q => upS I.tk (h.run _ _ _ _ _ I.toInv q)⟩
theorem PG.of {e : Expr} {t : TG} (h : L2.PG X e t) : PG X e t := ⟨fun _ _ _ _ _ _ _ I r q => upG I.tk (h.run _ _ _ _ _ _ _ I.toInv r q)⟩
theorem PO.of {e : Option Expr} {t : TO} (h : L2.PO X e t) : PO X e t := ⟨fun _ _ _ _ _ I q => up0 I.tk (h.run _ _ _ _ _ I.toInv q) fun _ _ k ⟨o, H', J, r, p⟩ => ⟨o, H', J.on k, r, p⟩⟩
theorem PI.of {tg e : Expr} {t : TI} (h : L2.PI X tg e t) : PI X tg e t := ⟨fun _ _ _ _ _ I q => up0 I.tk (h.run _ _ _ _ _ I.toInv q) fun _ _ k r => up0 k r fun _ _ k2 r2 => ⟨k2, r2⟩⟩
variable {pins : Pn} {σ : L2.St} {H : Hp} {s : Shared}
theorem PE.on {e : Expr} {t : TE} {Q : VK} {R : Value → Shared → Prop} (h : PE X e t) (I : Inv X pins σ H s) (q : t σ H Q) (k : ∀ x v z G, Inv X pins σ G z → RelV x v → Q x G → R v z) : wx X (eval e X.env) R s :=
  thn (h.run _ _ _ _ _ I q) fun v z ⟨x, G, J, r, p⟩ => k x v z G J r p
theorem PT.on {e : Expr} {t : TT} {Q : Bool → Hp → Prop} {R : Bool → Shared → Prop} (h : PT X e t) (I : Inv X pins σ H s) (q : t σ H Q) (k : ∀ b z G, Inv X pins σ G z → Q b G → R b z) : wx X (isTrue e X.env (eval e X.env)) R s :=
  thn (h.run _ _ _ _ _ I q) fun b z ⟨G, J, p⟩ => k b z G J p
theorem PA.on {e : List Expr} {t : TA} {Q : List V → Hp → Prop} {R : List Value → Shared → Prop} (h : PA X e t) (p : Pos) (I : Inv X pins σ H s) (q : t σ H Q) (k : ∀ xs us z G, Inv X pins σ G z → Vals xs us → Q xs G → R us z) : wx X (spliced (backTo p (starEach e X.env))) R s :=
  thn (h.run p _ _ _ _ _ I q) fun v z ⟨x, G, J, r, w⟩ => k x v z G J r w
end
end Ev

/-! The hand's rules for the judgements with the bound: expressions, tests, targets. -/
namespace Ev
open PySem L2 PyProof.Rows
section
variable {X : Cx} {a b c : Expr} {ta tb tc : TE} {tA tB2 : TT} {es rest : List Expr} {pos p : Pos}
theorem pe_var {i : Nat} {x : Str} (hN : X.N[i]? = some x) (hv : Vis X.env.scope x) (hd : (x == ("__debug__" : Str)) = false := by decide) (hcd : (x == ("__classdict__" : Str)) = false := by decide) : PE X (.Name x pos) (tVar i) := .of (L2.pe_var hN hv hd hcd)
theorem pe_int {i j} : PE X (.Constant (.int i) j pos) (tC (.int i)) := .of L2.pe_int
theorem pe_bl {b j} : PE X (.Constant (.bool b) j pos) (tC (.bl b)) := .of L2.pe_bl
theorem pe_non {j} : PE X (.Constant .none j pos) (tC .non) := .of L2.pe_non
theorem pe_str {x j} : PE X (.Constant (.str x) j pos) (tC (.str x)) := .of L2.pe_str
theorem pe_glob {x : Str} {v : V} {u : Value} (hg : Gl X x) (hm : X.mg x = some u) (r : RelV v u) (hd : (x == ("__debug__" : Str)) = false := by decide) : PE X (.Name x pos) (tC v) := .of (L2.pe_glob hg hm r hd)
theorem pe_bltn {x : Str} {v : V} {u : Value} (hg : Gl X x) (hm : X.mg x = none) (hv : bootBuiltins x = some u) (r : RelV v u) (hn : x ≠ "__name__" := by decide) (hd : (x == ("__debug__" : Str)) = false := by decide) : PE X (.Name x pos) (tC v) := .of (L2.pe_bltn hg hm hv r hn hd)
/-! values and tests -/
theorem pt_val {e : Expr} {t : TE} (h : PE X e t) (he : ∀ whole, isTrue e X.env whole = (do let v ← whole; standAt e.pos; holding [v] (truthy v)) := by intro _; rfl) : PT X e (L2.tB t) :=
  ⟨fun _ _ _ _ _ I q => isTrue_plain (h.on I q fun x v z G J r ⟨k, e1, w⟩ => by
    subst e1; cases r
    exact wpAny_truthy_bool ⟨G, J, w⟩) (he _)⟩
theorem pw_and1 (h : PT X a tA) : PW X (.BoolOp .And [a] pos) tA := ⟨fun _ _ _ _ _ _ I q => isTrue_and (h.on I q fun k z G J w => match k with
  | true => isTrue_and_nil ⟨G, J, w⟩
  | false => ⟨G, J, w⟩)⟩
theorem pw_or1 (h : PT X a tA) : PW X (.BoolOp .Or [a] pos) tA := ⟨fun _ _ _ _ _ _ I q => isTrue_or (h.on I q fun k z G J w => match k with
  | false => isTrue_or_nil ⟨G, J, w⟩
  | true => ⟨G, J, w⟩)⟩
theorem pw_and (h : PT X a tA) (g : PW X (.BoolOp .And (b :: rest) pos) tB2) : PW X (.BoolOp .And (a :: b :: rest) pos) (tAnd tA tB2) := ⟨fun wh _ _ _ _ Q I q => isTrue_and (h.on I q fun k z G J w => match k with
  | true => g.run wh _ z _ G Q J w
  | false => ⟨G, J, w⟩)⟩
theorem pw_or (h : PT X a tA) (g : PW X (.BoolOp .Or (b :: rest) pos) tB2) : PW X (.BoolOp .Or (a :: b :: rest) pos) (tOr tA tB2) := ⟨fun wh _ _ _ _ Q I q => isTrue_or (h.on I q fun k z G J w => match k with
  | true => ⟨G, J, w⟩
  | false => g.run wh _ z _ G Q J w)⟩
theorem pt_not (h : PT X a tA) : PT X (.UnaryOp .Not a pos) (tNot tA) := ⟨fun _ _ _ _ Q I q => isTrue_not (h.run _ _ _ _ (fun k G => Q (!k) G) I q)⟩
theorem pe_one {op} {t : TE} (h : PE X a t) : PE X (.BoolOp op [a] pos) t := ⟨fun _ _ _ _ _ I q => BoolOp_one (h.run _ _ _ _ _ I q)⟩
theorem pe_and (h : PE X a ta) (g : PE X (.BoolOp .And (b :: rest) pos) tb) : PE X (.BoolOp .And (a :: b :: rest) pos) (tAndV ta tb) := ⟨fun _ _ _ _ Q I q => BoolOp_and (h.on I q fun x v z G J r ⟨k, e1, w⟩ => by
  subst e1; cases r
  exact wpAny_truthy_bool (match k, w with
    | true, w => g.run _ z _ G Q J w
    | false, w => ⟨.bl false, G, J, rfl, w⟩))⟩
theorem pe_or (h : PE X a ta) (g : PE X (.BoolOp .Or (b :: rest) pos) tb) : PE X (.BoolOp .Or (a :: b :: rest) pos) (tOrV ta tb) := ⟨fun _ _ _ _ Q I q => BoolOp_or (h.on I q fun x v z G J r ⟨k, e1, w⟩ => by
  subst e1; cases r
  exact wpAny_truthy_bool (match k, w with
    | false, w => g.run _ z _ G Q J w
    | true, w => ⟨.bl true, G, J, rfl, w⟩))⟩
theorem pe_not (h : PE X a ta) : PE X (.UnaryOp .Not a pos) (tNotV ta) := ⟨fun _ _ _ _ Q I q => UnaryOp_ (h.on I q fun x v z G J r ⟨k, e1, w⟩ => by
  subst e1; cases r
  exact not_of (wpAny_truthy_bool ⟨.bl (!k), G, J, rfl, w⟩))⟩
theorem pe_ifExp (h : PT X c tA) (ha : PE X a ta) (hb : PE X b tb) : PE X (.IfExp c a b pos) (tIf tA ta tb) := ⟨fun _ _ _ _ Q I q => wpAny_IfExp (h.on I q fun k z G J w => match k, w with
  | true, w => ha.run _ z _ G Q J w
  | false, w => hb.run _ z _ G Q J w)⟩
/-! operators -/
theorem bin2 {pins : Pn} {s : Shared} {σ : L2.St} {H : Hp} {R : V → V → Hp → Prop} {α : Type} {Q : α → Shared → Prop} {f : Value → Value → Sem α} (ha : PE X a ta) (hb : PE X b tb) (I : Inv X pins σ H s) (q : ta σ H fun x G => tb σ G fun y K => R x y K)
    (k : ∀ v u z x y G, Inv X pins σ G z → RelV x v → RelV y u → R x y G → wx X (f v u) Q z) : wx X (eval a X.env) (fun v z => wx X (eval b X.env) (fun u z2 => wx X (f v u) Q z2) z) s :=
  ha.on I q fun x v z G J r w => hb.on J w fun y u z2 G2 J2 r2 w2 => k v u z2 x y G2 J2 r r2 w2
theorem pe_op {op : Operator} {r : R2} (ho : OpR X (binaryOp op) r) (ha : PE X a ta) (hb : PE X b tb) : PE X (.BinOp a op b pos) (tOp r ta tb) := ⟨fun _ _ _ _ Q I q => wpAny_BinOp (bin2 ha hb I q fun v u z x y G J r1 r2 w => upE J.tk (ho _ z _ G x y v u Q J.toInv r1 r2 w))⟩
theorem pe_un {op : UnaryOp} {r : V → Hp → VK → Prop} (ho : UnR X (unaryOp op) r) (ha : PE X a ta) : PE X (.UnaryOp op a pos) (tUn r ta) := ⟨fun _ _ _ _ Q I q => UnaryOp_ (ha.on I q fun x v z G J r w => upE J.tk (ho _ z _ G x v Q J.toInv r w))⟩
theorem pe_cmpR {op : CmpOp} {r : R2} (ho : OpR X (compareOp op) r) (ha : PE X a ta) (hb : PE X b tb) (hm : behindInMarks op b = false) : PE X (.Compare a [op] [b] pos) (tOp r ta tb) :=
  ⟨fun _ _ _ _ Q I q => wpAny_Compare1 (bin2 ha hb I q fun v u z x y G J r1 r2 w => upE J.tk (ho _ z _ G x y v u Q J.toInv r1 r2 w)) hm⟩
theorem pt_cmpR {op : CmpOp} {r : R2} (ho : OpR X (compareOp op) r) (ha : PE X a ta) (hb : PE X b tb) (hm : behindInMarks op b = false) : PT X (.Compare a [op] [b] pos) (tTest (tOp r ta tb)) :=
  ⟨fun _ _ _ _ Q I q => wpAny_isTrue_Compare1 (bin2 ha hb I q fun v u z x y G J r1 r2 w => thn (upE J.tk (ho _ z _ G x y v u _ J.toInv r1 r2 w)) fun d z2 ⟨y2, G2, J2, r3, k, e1, w2⟩ => by
    subst e1; cases r3
    exact wpAny_truthy_bool ⟨G2, J2, w2⟩) hm⟩
theorem pe_chain {op op' : CmpOp} {r r' : R2} (ho : OpR X (compareOp op) r) (ho' : OpR X (compareOp op') r') (ha : PE X a ta) (hb : PE X b tb) (hc : PE X c tc) (hm : lastMarks [op, op'] [b, c] = false := by with_unfolding_all rfl) : PE X (.Compare a [op, op'] [b, c] pos) (tChain r r' ta tb tc) := by
  refine ⟨fun _ _ σ _ Q I q => Compare_chain (ha.on I q fun x v z G J r1 w => chain_link (hb.on J w fun y u z2 G2 J2 r2 w2 => thn (upE J2.tk (ho _ z2 σ G2 x y v u _ J2.toInv r1 r2 w2)) fun d z3 ⟨y3, G3, J3, r3, k, e1, w3⟩ => ?_)) hm⟩
  subst e1; cases r3
  refine wpAny_truthy_bool ?_
  cases k with
  | false => exact ite_ff ⟨.bl false, G3, J3, rfl, w3⟩
  | true => exact ite_tt (chain_last (hc.on J3 w3 fun y4 u4 z4 G4 J4 r4 w4 => upE J4.tk (ho' _ z4 σ G4 y y4 u u4 Q J4.toInv r2 r4 w4)))
theorem pt_chain {op op' : CmpOp} {r r' : R2} (ho : OpR X (compareOp op) r) (ho' : OpR X (compareOp op') r') (ha : PE X a ta) (hb : PE X b tb) (hc : PE X c tc) (hm : lastMarks [op, op'] [b, c] = false := by with_unfolding_all rfl) : PT X (.Compare a [op, op'] [b, c] pos) (tTest (tChain r r' ta tb tc)) := by
  refine ⟨fun _ _ σ _ Q I q => isTrue_chain (ha.on I q fun x v z G J r1 w => test_link (hb.on J w fun y u z2 G2 J2 r2 w2 => thn (upE J2.tk (ho _ z2 σ G2 x y v u _ J2.toInv r1 r2 w2)) fun d z3 ⟨y3, G3, J3, r3, k, e1, w3⟩ => ?_)) hm⟩
  subst e1; cases r3
  refine wpAny_truthy_bool ?_
  cases k with
  | false =>
    obtain ⟨k', e', w'⟩ := w3
    cases e'
    exact ite_ff ⟨G3, J3, w'⟩
  | true =>
    refine ite_tt (test_last (hc.on J3 w3 fun y4 u4 z4 G4 J4 r4 w4 => thn (upE J4.tk (ho' _ z4 σ G4 y y4 u u4 _ J4.toInv r2 r4 w4)) fun d' z5 ⟨y5, G5, J5, r5, k2, e2, w5⟩ => ?_))
    subst e2; cases r5
    exact wpAny_truthy_bool ⟨G5, J5, w5⟩
/-! argument lists, displays -/
theorem pa_nil : PA X [] tNil := .of L2.pa_nil
theorem pa_cons {te : TE} {t : TA} {e : Expr} (ha : PE X e te) (hr : PA X es t) (hs : starEach (e :: es) X.env = (false, eval e X.env) :: starEach es X.env := by rfl) : PA X (e :: es) (tCons te t) := by
  refine ⟨fun w _ _ _ _ _ I q => ?_⟩
  rw [hs]
  exact Calls.spliced_cons (ha.on I q fun x u z G J r m => hr.on w J m fun xs us z2 G2 J2 rs m2 => ⟨x :: xs, G2, J2, .cons r rs, m2⟩)
theorem pe_lst {t : TA} (h : PA X es t) : PE X (.List es pos) (tLst t) := by
  refine ⟨fun _ _ _ _ _ I q => wpAny_List_spliced (h.on pos I q fun xs us z G J r ⟨m, w⟩ => ⟨by rw [← r.length]; exact m, ?_⟩)⟩
  have hf : G z.heap.objs.size = none := J.hok.fresh (Nat.le_refl _)
  exact ⟨.ref z.heap.objs.size, upd G z.heap.objs.size (.lst xs), (J.toInv.laid (o := .lst xs) (h' := z.heap.push { cls := .type "list", data := .seq us.toArray 0 }) (t' := z.toks) (fun _ _ e => Heap.get?_push_of_some _ e) (Nat.le_refl _) (by exact ⟨m, us, 0, r, Heap.get?_push_size _ rfl⟩)).on J.tk, rfl, w _ hf⟩
theorem pps_nil : PPs X pos [] [] [] := ⟨fun _ _ _ H _ I q => pairTrees_nil_walk ⟨[], H, I, .nil, q⟩⟩
theorem pps_cons {k v : Expr} {ks : List (Option Expr)} {vs : List Expr} {tk tv : TE} {trs : List (TE × TE)} (hk : PE X k tk) (hv : PE X v tv) (hr : PPs X pos ks vs trs) : PPs X pos (some k :: ks) (v :: vs) ((tk, tv) :: trs) :=
  ⟨fun _ _ _ _ _ I q => pairTrees_cons_walk (hk.on I q fun x u z G J r w => hv.on J w fun y u2 z2 G2 J2 r2 w2 => thn (hr.run _ _ _ _ _ J2 w2) fun us z3 ⟨ps, G3, J3, rel, w3⟩ => ⟨(x, y) :: ps, G3, J3, .cons ⟨r, r2⟩ rel, w3⟩)⟩
theorem pe_dnewK : PE X (.Dict [] [] pos) tDNewK := .of L2.pe_dnewK
theorem pe_disp {keys : List (Option Expr)} {values : List Expr} {trs : List (TE × TE)} (h : PPs X pos keys values trs) (hall : keys.all (·.isSome) = true) (hl : keys.length = values.length) (h0 : keys ≠ []) (h15 : keys.length ≤ 15) : PE X (.Dict keys values pos) (tDisp trs) := by
  refine ⟨fun pins s σ H Q I q => ?_⟩
  have hn := I.hok.fresh (Nat.le_refl s.heap.objs.size)
  have J1 := (I.toInv.laid (a := s.heap.objs.size) (o := .dK []) (h' := s.heap.push { cls := .type "dict", data := .dict #[] }) (t' := s.toks) (fun _ _ e => Heap.get?_push_of_some _ e) (Nat.le_refl _) (dk_empty s.heap I.toInv.big)).on I.tk
  refine wpAny_Dict_walk (knd := mixKind X.prog X.w) hall hl h0 h15 (thn (h.run pins _ σ _ _ J1 (q _ hn)) fun ws z ⟨ps, G, J, rel, e, kvs, ep, lk, w⟩ => ?_)
  subst ep
  obtain ⟨rs, cr, rk⟩ := carries_of (P := X.prog) (w := X.w) rel
  obtain ⟨z1, hd, vs0, r0, dd⟩ := dk_of J.hok e
  cases r0
  refine ⟨rs, cr, dd, fun h' dd' hs => ⟨.ref s.heap.objs.size, _, ?_, rfl, w⟩⟩
  have hz : (mergeK [] kvs).length ≤ sizeLine := by
    have h1 := length_mergeK kvs []
    rw [List.length_nil] at h1
    rw [sizeLine_eq]; omega
  exact (d_write J.toInv (by rw [e]; exact True.intro) hs (let ⟨o, _, _, ho, _⟩ := dd'; ⟨o, ho⟩) (dk_new hz hd (rk.merge .nil) dd')).on (Nat.le_trans J.tk (Nat.le_add_right _ _))
/-! calls of what is built in -/
theorem pe_callB {e : Expr} {t : TA} {id : String} {x : Str} {r : List V → Hp → VK → Prop} (hc : CallR X (.builtin id) r) (hg : Gl X x) (hm : X.mg x = none) (hv : bootBuiltins x = some (.builtin id)) (ha : PA X (e :: es) t) (hn : x ≠ "__name__" := by decide) (hdb : (x == ("__debug__" : Str)) = false := by decide)
    (he : starEach (e :: es) X.env = (false, eval e X.env) :: starEach es X.env := by rfl) (hpl : (backTo pos (starEach es X.env)).any (·.1) = false := by rfl) : PE X (.Call (.Name x p) (e :: es) [] pos) (tCB r t) :=
  ⟨fun _ _ _ _ Q I q => wpAny_Call_Name_kw (ld_blt I.toInv hg hm hv (PyProof.Rows.callWith_builtin1 (ha.on pos I q fun xs us z G J rs w => upE J.tk (hc _ z _ G xs us Q J.toInv rs w)) he hpl) hn hdb)⟩
theorem pe_callTy {e : Expr} {t : TA} {T : String} {x : Str} {r : List V → Hp → VK → Prop} (hc : CallR X (.type T) r) (hg : Gl X x) (hm : X.mg x = none) (hv : bootBuiltins x = some (.type T)) (ha : PA X (e :: es) t) (hn : x ≠ "__name__" := by decide) (hdb : (x == ("__debug__" : Str)) = false := by decide)
    (he : starEach (e :: es) X.env = (false, eval e X.env) :: starEach es X.env := by rfl) (hpl : (backTo pos (starEach es X.env)).any (·.1) = false := by rfl) : PE X (.Call (.Name x p) (e :: es) [] pos) (tCB r t) :=
  ⟨fun _ _ _ _ Q I q => wpAny_Call_Name_kw (ld_blt I.toInv hg hm hv (PyProof.Rows.callWith_type1 (ha.on pos I q fun xs us z G J rs w => upE J.tk (hc _ z _ G xs us Q J.toInv rs w)) he hpl) hn hdb)⟩
/-! subscripts, slices, methods of what is built in -/
theorem pe_ix {r : R2} (hr : IxR X r) (ha : PE X a ta) (hb : PE X b tb) (hs : PlainIx b) : PE X (.Subscript a b pos) (tOp r ta tb) := ⟨fun _ _ _ _ Q I q => Subscript_ (bin2 ha hb I q fun v u z x y G J r1 r2 w => upE J.tk (hr a b _ z _ G x y v u Q J.toInv r1 r2 w (hs _ _)))⟩
theorem po_none : PO X none tNoPart := .of L2.po_none
theorem po_some (h : PE X a ta) : PO X (some a) (tPart ta) := by
  refine ⟨fun _ _ _ _ _ I q => ?_⟩
  rw [evalPart_some]
  refine h.on I q fun x u z G J r ⟨i, e1, w⟩ => ?_
  subst e1
  obtain ⟨t, rfl⟩ := r
  exact ⟨some i, G, J, .int i t, w⟩
theorem pe_slice {lo hi : Option Expr} {tl th : TO} {p2 : Pos} {r : V → Option Int → Option Int → Hp → VK → Prop} (hr : SlR X r) (he : PE X a ta) (hl : PO X lo tl) (hu : PO X hi th) : PE X (.Subscript a (.Slice lo hi none p2) pos) (tSl r ta tl th) := by
  refine ⟨fun pins s σ H Q I q => Subscript_ (he.on I q fun x v z G J r1 w => ?_)⟩
  refine wpAny_Slice (thn (hl.run _ _ _ _ _ J w) fun vl z2 ⟨l, G2, J2, pl, w2⟩ => thn (hu.run _ _ _ _ _ J2 w2) fun vu z3 ⟨u, G3, J3, pu, w3⟩ => ?_)
  rw [evalPart_none]
  refine wpAny_pure ?_
  have J4 := (J3.toInv.kept (h' := z3.heap.push { cls := .type "slice", data := .fields #[vl, vu, .none] }) (t' := z3.toks) fun _ _ e => Heap.get?_push_of_some _ e).on J3.tk
  obtain ⟨T, id, hT, ht, hg⟩ := hr pins { z3 with heap := z3.heap.push { cls := .type "slice", data := .fields #[vl, vu, .none] } } σ G3 x v vl vu l u z3.heap.objs.size Q J4.toInv r1 (Heap.IsSliceOf.new ..) pl pu w3
  exact upE J4.tk (tail_any (ops := [.ref z3.heap.objs.size, v]) ht hT hg (by with_unfolding_all rfl))
theorem pe_bm {o e : Expr} {to : TE} {t : TA} {T id : String} {name : Str} {apos cpos : Pos} {r : V → List V → Hp → VK → Prop} (pa : PlainAttrs T) (slot : Slot T name id) (hty : typeOf (.builtin id) = pure (.type "method_descriptor")) (hm : MtR X id r) (ho : PE X o to) (ha : PA X (e :: es) t)
    (hbase : attributeBase o name X.env (eval o X.env) = eval o X.env := by rfl)
    (hfew : ((backTo cpos (starEach (e :: es) X.env)).all (fun x => !x.1) && (backToKw cpos (keywordEach [] X.env)).all (fun x => x.1.isSome) && decide ((e :: es).length + ([] : List Keyword).length + (if ([] : List Keyword).isEmpty then 0 else 1) < 30)) = true := by rfl)
    (hline : (apos.endLine == cpos.line) = true := by rfl) (hs : starEach (e :: es) X.env = (false, eval e X.env) :: starEach es X.env := by rfl) (hplain : (backTo cpos (starEach es X.env)).any (·.1) = false := by rfl) : PE X (.Call (.Attribute o name apos) (e :: es) [] cpos) (tBM X.K T r to t) := by
  refine ⟨fun pins s σ H Q I q => wpAny_Call_method_late hbase hfew hline rfl (ho.on I q fun x v z G J r1 ⟨ty, w⟩ => ?_)⟩
  obtain ⟨h1, h2⟩ := tyV_is J.toInv r1 ty
  refine ⟨T, id, pa, slot, hty, h1, h2, ?_⟩
  have hA := ha.on cpos J w (R := fun us z2 => wx X (call (.builtin id) (v :: us)) (EP X pins σ Q) z2) fun xs us z2 G2 J2 rs w2 => upE J2.tk (hm pins z2 σ G2 x xs v us Q J2.toInv r1 rs w2)
  rw [hs] at hA ⊢
  exact Calls.callWith_builtin (by show (false || (backTo cpos (starEach es X.env)).any (·.1)) = false; rw [hplain] <;> rfl) (Calls.evalArgs_plain hA)
theorem pe_join {o e : Expr} {to te : TE} {apos : Pos} (ho : PE X o to) (he : PE X e te) (hs : starEach [e] X.env = [(false, eval e X.env)] := by rfl) (hbase : attributeBase o "join" X.env (eval o X.env) = eval o X.env := by rfl) (hline : (apos.endLine == pos.line) = true := by rfl) :
    PE X (.Call (.Attribute o "join" apos) [e] [] pos) (tM1 (fun x xs H Q => ∃ a p, ∃ ys : List Str, x = .str a ∧ xs = [.ref p] ∧ (SqL X.K H p (ys.map V.str) ∨ SqT X.K H p (ys.map V.str)) ∧ (ys.map (·.length)).sum + ys.length * a.length ≤ 16777216 ∧ Q (.str (Txt.join a ys)) H) to te) := by
  refine ⟨fun pins s σ H Q I q => PySem.Call_method1 hbase hs hline (ho.on I q fun x v z G J r1 ⟨⟨u, e1⟩, w⟩ => ?_)⟩
  subst e1
  obtain ⟨t, rfl⟩ := _root_.id r1
  exact ⟨"str", _, F.plainAttrs_str, F.slot_str_join, F.type_str_join, typeIs_str _ _ _, (fun _ e => nomatch e), Calls.callWith_builtin rfl (Calls.evalArgs_plain (Calls.spliced_cons (he.on J w fun y u2 z2 G2 J2 r2 w2 => Calls.spliced_nil (upE J2.tk (mt_join _ z2 _ G2 _ [y] _ [u2] Q J2.toInv r1 (.cons r2 .nil) w2)))))⟩
/-! targets -/
theorem pg_name {i : Nat} {x : Str} (hN : X.N.Nodup) (hi : X.N[i]? = some x) (hx : Loc X.env.scope x) (hf : X.fn x = true ∨ X.env.scope.names.lookup x = some .local := by first | exact .inl rfl | exact .inr rfl | assumption) : PG X (.Name x pos) (gName i) := .of (L2.pg_name hN hi hx hf)
theorem pgs_nil : PGs X [] gNil := ⟨fun _ _ _ H _ _ _ I r ⟨e1, w⟩ => by
  subst e1; cases r
  exact assignInOrder_nil ⟨_, H, I, w⟩⟩
theorem pgs_cons {t : TG} {u : TGs} (h1 : PG X a t) (h2 : PGs X es u) (hs : (assignEach (a :: es) X.env).map (·.2) = assign a X.env :: (assignEach es X.env).map (·.2) := by rfl) : PGs X (a :: es) (gCons t u) := by
  refine ⟨fun _ _ _ _ _ _ Q I r ⟨v, vr, e1, w⟩ => ?_⟩
  subst e1
  cases r with
  | cons r rr =>
    rw [hs]
    exact assignInOrder_cons (thn (h1.run _ _ _ _ _ _ _ I r w) fun _ z ⟨_, _, J, w2⟩ => h2.run _ z _ _ _ _ Q J rr w2)
theorem pg_tup {k : Nat} {t : TGs} {n : Nat} (hc : X.calm = true) (h : PGs X es t) (hn : (assignEach es X.env).length = n := by rfl) (hst : (assignEach es X.env).findIdx? (·.1) = none := by rfl) : PG X (.Tuple es k pos) (gTup X.K n t) := by
  refine ⟨fun _ s _ _ _ _ _ I r ⟨ad, xs, e1, hq, hl, w⟩ => ?_⟩
  subst e1; cases r
  obtain ⟨its, rv, ht, _⟩ := I.toInv.tuple hq
  refine assign_Tuple_tuple (I.ok.hd hc) ht (by simp [hn, ← hl, rv.length]) hst fun h' hx => ?_
  exact h.run _ _ _ _ xs _ _ ((I.toInv.kept (t' := s.toks) fun o _ e => hx o _ (Nat.ne_of_lt (Heap.lt_size e)) e).on I.tk) (by simpa using rv) w
end
end Ev

/-! The hand's rules for the judgements with the bound: statements, loops, comprehensions, try. -/
namespace Ev
open PySem L2 PyProof.Rows
section
variable {X : Cx} {a : Expr} {st : Stmt} {rest body A1 A2 : List Stmt} {ta : TE} {t u tb : TS} {pos p : Pos}
theorem ps_ret (h : PE X a ta) : PS X (.Return (some a) pos) (tRet ta) := ⟨fun _ _ σ _ _ I q => wpAny_Return_some (h.on I q fun x v z G J r w => ⟨x, σ, G, J, r, w⟩)⟩
theorem ps_expr (h : PE X a ta) (hs : swapsWith a none pos.line X.env = pure false := by rfl) : PS X (.Expr a pos) (tDrop ta) := ⟨fun _ _ σ _ _ I q => wpAny_Expr_any (h.on I q fun x v z G J r w => ⟨σ, G, J, w⟩) I.toInv.quiet hs⟩
theorem ps_if {c : Expr} {tc : TT} (h : PT X c tc) (ha : PSs X A1 t) (hb : PSs X A2 u) : PS X (.If c A1 A2 pos) (tIfS tc t u) := ⟨fun _ _ _ _ D I q => wpAny_If (h.on I q fun k z G J w => match k, w with
  | true, w => ha.run _ z _ G D J w
  | false, w => hb.run _ z _ G D J w)⟩
theorem pss_nil : PSs X [] tNext := .of L2.pss_nil
theorem pss_cons (h : PS X st t) (g : PSs X rest u) : PSs X (st :: rest) (tSeq t u) := ⟨fun _ s σ H D I q => wpAny_execs_cons (thn (h.run _ s σ H { D with nx := u D } I q) fun f z w => match f, w with
  | .next, ⟨_, _, J, w⟩ => g.run _ z _ _ D J w
  | .ret _, w => w
  | .brk, w => w
  | .cont, w => w)⟩
theorem pss_one (h : PS X st t) : PSs X [st] t := ⟨fun _ s σ H D I q => wpAny_execs_cons (thn (h.run _ s σ H D I q) fun f z w => match f, w with
  | .next, w => wpAny_execs_nil w
  | .ret _, w => w
  | .brk, w => w
  | .cont, w => w)⟩
theorem ps_asg {tg : Expr} {g : TG} (h : PE X a ta) (hg : PG X tg g) (hs : swapsWithSole [tg] a pos.line X.env = pure false := by rfl) (hw : swappedStores [tg] a X.env = pure none := by rfl) (h1 : (assignEach [tg] X.env).map (·.2) = [assign tg X.env] := by rfl) : PS X (.Assign [tg] a pos) (tAsg ta g) := by
  refine ⟨fun _ _ _ _ D I q => wpAny_Assign_stores (h.on I q fun x v z G J r w => ?_) hs hw⟩
  rw [h1]
  exact hg.run _ z _ G x v D.nx J r w
theorem ps_set {i : Nat} {x : Str} {q1 : Pos} (hN : X.N.Nodup) (hi : X.N[i]? = some x) (hx : Loc X.env.scope x) (h : PE X a ta) (hs : swapsWith a (some (.Name x q1)) pos.line X.env = pure false := by rfl) (hf : X.fn x = true ∨ X.env.scope.names.lookup x = some .local := by first | exact .inl rfl | exact .inr rfl | assumption) :
    PS X (.Assign [.Name x q1] a pos) (tAsg ta (gName i)) := ⟨fun _ _ _ _ D I q => wpAny_Assign_Name (h.on I q fun y v z G J r w => up0 J.tk (store_ok (Q := fun _ z2 => ∃ σ' G', L2.Inv X _ σ' G' z2 ∧ D.nx σ' G') J.toInv hN hi hx r (fun _ K => ⟨_, G, K, w⟩) hf) fun _ z2 k ⟨σ', G', K, w2⟩ => ⟨σ', G', K.on k, w2⟩) hs⟩
theorem pg_sub {o i : Expr} {to ti : TE} {t : TSet} (ho : PE X o to) (hi : PE X i ti) (hs : PSet X t)
    (ha : ∀ v, assign (.Subscript o i pos) X.env v = (do
      let ov ← holding [v] (eval o X.env)
      let iv ← holding [v, ov] (eval i X.env)
      standAt pos
      holding [v, ov, iv] (setItem ov iv v)
      release [v, ov, iv] []) := by intro _; rfl) : PG X (.Subscript o i pos) (gSub to ti t) := by
  refine ⟨fun _ _ σ _ v u Q I r q => ?_⟩
  rw [ha]
  refine wpAny_bind (wpAny_holding (ho.on I q fun x ov z G J r1 w => wpAny_bind (wpAny_holding (hi.on J w fun y iv z2 G2 J2 r2 w2 => ?_))))
  exact wpAny_bind (wpAny_standAt (wpAny_bind (wpAny_holding (thn (up0 J2.tk (hs _ z2 σ G2 x y v ov iv u _ J2.toInv r1 r2 r w2) fun _ z3 k w3 => (⟨k, w3⟩ : lowT ≤ z3.toks ∧ _)) fun _ z3 ⟨k, G3, J3, w3⟩ => wpAny_release ⟨σ, G3, J3.on k, w3⟩))))
theorem ps_dput {o i v : Expr} {td ty tv : TE} {q1 : Pos} (hu : X.A.units + 1 < cLine) (ho : PE X o td) (hi : PE X i ty) (hv : PE X v tv) (hs : swapsWith v (some (.Subscript o i q1)) pos.line X.env = pure false) : PS X (.Assign [.Subscript o i q1] v pos) (sDPut td ty tv) := by
  refine ⟨fun _ _ σ _ D I q => wpAny_Assign_Subscript (hv.on I q fun v1 r z G J rv w => ho.on J w fun x u z2 G2 J2 rx w2 => hi.on J2 w2 fun y iv z3 G3 J3 ry ⟨ad, G4, e1, g, w3⟩ => ?_) hs⟩
  subst e1
  obtain rfl : u = Value.ref ad := rx
  exact up0 J3.tk (d_setItem (Q := fun _ z4 => L2.Inv X _ σ G4 z4) hu J3.toInv g ry rv fun z4 K => K) fun _ z4 k K => ⟨σ, G4, K.on k, w3⟩
theorem ps_while {c : Expr} {tc : TT} (hp : PassesOwn (model X.prog X.w) X.A X.env X.xe) (hc : PT X c tc) (hb : PSs X body tb) : PS X (.While c body [] pos) (tWhile tc tb) := by
  refine ⟨fun pins _ σ H D I ⟨W, ⟨m0, w0⟩, turn⟩ => wpAny_While (codeAny_whileLoop (fun n z => ∃ σ' H', Inv X pins σ' H' z ∧ W n σ' H') ?_ m0 ⟨σ, H, I, w0⟩)⟩
  rintro n s1 ⟨σ1, H1, I1, w1⟩
  refine wpAny_passesOwn hp (hc.on I1 (turn n σ1 H1 w1) fun k z G J w => ?_)
  cases k with
  | false =>
    rw [if_neg Bool.false_ne_true]
    exact wpAny_execs_nil ⟨σ1, G, J, w⟩
  | true =>
    obtain ⟨N, hN, w⟩ := w
    rw [if_pos rfl]
    refine wpAny_passesOwn hp (thn (hb.run _ z σ1 G _ J w) fun f z3 w3 => ?_)
    have go : GP X pins N z3 → ∃ m, m < n ∧ ∃ σ' H', Inv X pins σ' H' z3 ∧ W m σ' H' := fun ⟨σ3, G3, J3, n3⟩ => let ⟨m, hm, w4⟩ := hN σ3 G3 n3; ⟨m, hm, σ3, G3, J3, w4⟩
    cases f with
    | next => exact go w3
    | cont => exact go w3
    | brk => exact w3
    | ret v => exact w3
theorem pi_range1 {tg e : Expr} {t : TA} (hg : Gl X "range") (hm : X.mg "range" = none) (ha : PA X [e] t) (hs : starEach [e] X.env = [(false, eval e X.env)] := by rfl) : PI X tg (.Call (.Name "range" p) [e] [] pos) (iRng1 t) := by
  refine ⟨fun _ _ _ _ R I q => Call_ (ld_blt I.toInv hg hm boot_range (PyProof.Rows.callWith_type1 (ha.on pos I q fun xs us z G J r ⟨j, e1, b1, b2, w⟩ => ?_) hs rfl))⟩
  subst e1
  cases r with
  | cons r rr =>
    cases rr
    obtain ⟨t, rfl⟩ := r
    exact up0 J.tk (call_range_1 (Q := fun v z2 => wpAny (model X.prog X.w) X.A (pyIter v) (L2.PIE X _ _ tg R) X.xe z2) (range_it J.toInv (by omega) (by omega) b1 b2 (by simpa using w))) fun _ z2 k w2 => up0 k w2 fun _ _ k2 w3 => ⟨k2, w3⟩
theorem pi_range2 {tg e f : Expr} {t : TA} (hg : Gl X "range") (hm : X.mg "range" = none) (ha : PA X [e, f] t) (hs : starEach [e, f] X.env = [(false, eval e X.env), (false, eval f X.env)] := by rfl) (hs2 : starEach [f] X.env = [(false, eval f X.env)] := by rfl) : PI X tg (.Call (.Name "range" p) [e, f] [] pos) (iRng2 t) := by
  refine ⟨fun _ _ _ _ R I q => Call_ (ld_blt I.toInv hg hm boot_range (PyProof.Rows.callWith_type1 (ha.on pos I q fun xs us z G J r ⟨i, j, e1, ⟨b1, b2, b3, b4⟩, w⟩ => ?_) (by rw [hs, hs2]) (by rw [hs2]; rfl)))⟩
  subst e1
  cases r with
  | cons r rr =>
    cases rr with
    | cons r2 rr =>
      cases rr
      obtain ⟨t, rfl⟩ := r
      obtain ⟨t2, rfl⟩ := r2
      exact up0 J.tk (call_range_2 (Q := fun v z2 => wpAny (model X.prog X.w) X.A (pyIter v) (L2.PIE X _ _ tg R) X.xe z2) (range_it J.toInv b1 b2 b3 b4 w)) fun _ z2 k w2 => up0 k w2 fun _ _ k2 w3 => ⟨k2, w3⟩
theorem ps_for {tg iter : Expr} {wi : TI} {g : TG} (hp : PassesOwn (model X.prog X.w) X.A X.env X.xe) (hc : X.calm = true) (hi : PI X tg iter wi) (hg : PG X tg g) (hb : PSs X body tb) (hs : ∀ x, foldedSetIterable iter X.env x = pure x := by intro _; rfl) : PS X (.For tg iter body [] pos) (tFor wi g tb) := by
  refine ⟨fun pins _ σ _ D I q => wpAny_For (thn (hi.run _ _ _ _ _ I q) fun v s1 h1 => thn h1 fun itv s2 h2 => ?_) hs⟩
  obtain ⟨k2, it, fp, tn, J, H2, e, I2, T, st2, f2, W, ⟨m0, w0⟩, turn⟩ := h2
  subst e
  have stat : ∀ {H' : Hp}, (∀ b ∈ fp, H' b = none) → ∀ b ∈ fp, FpOk X pins H' b := fun hn b hb => ⟨hn b hb, (f2 b hb).2⟩
  refine codeAny_forLoop_any (fun n z => ∃ i σ' H', Inv X pins σ' H' z ∧ tn i z.heap ∧ (∀ b ∈ fp, H' b = none) ∧ W i n σ' H') ?_ m0 ⟨0, σ, H2, I2.on k2, st2, fun b hb => (f2 b hb).1, w0⟩
  rintro n s3 ⟨i, σ3, H3, I3, st3, fr3, w3⟩
  rcases turn i n σ3 H3 w3 with ⟨stop, qn⟩ | ⟨go, N, hN, step⟩
  · refine wpAny_passesOwn hp (up0 I3.tk (T.done X rfl rfl rfl hc i pins s3 σ3 H3 X.xe I3.toInv (stat fr3) st3 stop) fun r z k ⟨hr, K⟩ => ?_)
    subst hr
    exact wpAny_execs_nil ⟨σ3, H3, K.on k, qn⟩
  · refine wpAny_passesOwn hp (up0 I3.tk (T.item X rfl rfl rfl hc i pins s3 σ3 H3 X.xe I3.toInv (stat fr3) st3 go) fun r z k ⟨u, hr, h4⟩ => ?_)
    subst hr
    refine wpAny_passesOwn hp (up0 k h4 fun _ s5 k5 ⟨x, H5, I5, r5, y5, st5, fr5⟩ => ?_)
    refine wpAny_passesOwn hp (thn (hg.run _ s5 σ3 H5 x u _ ((I5.pinned (stat fr5) (T.obj _ _ st5)).on k5) r5 (step x H5 y5)) fun _ s6 ⟨σ6, H6, I6, q6⟩ => ?_)
    refine wpAny_passesOwn hp (thn (hb.run _ s6 σ6 H6 _ I6 q6) fun f s7 q7 => ?_)
    have again : GP X (pins ++ pinsAt fp s5.heap) N s7 → ∃ m, m < n ∧ ∃ i σ' H', Inv X pins σ' H' s7 ∧ tn i s7.heap ∧ (∀ b ∈ fp, H' b = none) ∧ W i m σ' H' := fun ⟨σ7, H7, I7, n7⟩ => by
      obtain ⟨m', hm, w7⟩ := hN σ7 H7 n7
      have pin : ∀ b ∈ fp, ∀ o, s5.heap.get? b = some o → s7.heap.get? b = some o ∧ H7 b = none := fun b hb o e =>
        let z := I7.pin (b, o) (List.mem_append_right _ (List.mem_append_right _ (mem_pinsAt hb e)))
        ⟨z.1, z.2.1⟩
      refine ⟨m', hm, i + 1, σ7, H7, (I7.toInv.unpinned).on I7.tk, T.keep _ _ _ st5 fun b hb o e => (pin b hb o e).1, fun b hb => ?_, w7⟩
      obtain ⟨o, e, _⟩ := T.obj _ _ st5 b hb
      exact (pin b hb o e).2
    cases f with
    | next => exact again q7
    | cont => exact again q7
    | brk => obtain ⟨σ7, H7, I7, q7⟩ := q7; exact ⟨σ7, H7, I7.toInv.unpinned.on I7.tk, q7⟩
    | ret v => obtain ⟨x7, σ7, H7, I7, r7, q7⟩ := q7; exact ⟨x7, σ7, H7, I7.toInv.unpinned.on I7.tk, r7, q7⟩
end
/-! comprehensions -/
section
variable {X : Cx}
theorem pts_nil : PTs X [] tYes := ⟨fun pins s σ H Q I q => up0 I.tk ((L2.pts_nil (X := X)).run pins s σ H Q I.toInv q) fun _ _ k r => TP.of k r⟩
theorem pts_one {c : Expr} {t : TT} (h : PT X c t) : PTs X [c] t := ⟨fun _ _ _ _ _ I q => wpAny_tests_one (h.run _ _ _ _ _ I q)⟩
end
end Ev

/-! The hand's rules for the judgements with the bound: comprehensions. -/
namespace Ev
open PySem L2 PyProof.Rows
section
variable {X : Cx}
/-- the same for each block -/
abbrev Blks (X : Cx) (scope : Scope) (P : Cx → Prop) : Prop := ∀ (s : Shared) (H : Hp) (C : Addr) (cl : List (Str × Addr)) (fp : List Addr), P (X.blk s H scope (compEnvC scope cl C X.env) fp)
theorem lc_walk {pins : Pn} {s : Shared} {σ : L2.St} {H : Hp} {Q : VK} {elt tg iter : Expr} {ifs : List Expr} {scope : Scope} {own : List (Str × Nat)} {pos pos' : Pos} {wi : TI} {g : TG} {tt : TT} {te : TE} {use : Option (Value → Sem Unit)} {Qf : Value → Shared → Prop}
    (hc : X.calm = true) (hN : X.N.Nodup) (I : Inv X pins σ H s) (hi : PI X tg iter wi) (ok : BlkOk X.N X.env.scope scope own)
    (hg : Blks X scope fun Y => PG Y tg g) (ht : Blks X scope fun Y => PTs Y ifs tt) (he : Blks X scope fun Y => PE Y elt te) (hs : ∀ x, foldedSetIterable iter X.env x = pure x) (h : tLc wi g tt te (own.map (·.2)) σ H Q)
    (fin : ∀ D C z m G, Inv X pins σ G z → Q (.ref D) G → z.heap.Ns C m → FpOk X pins G C → compPost (model X.prog X.w) X.A X.xe use Qf (.ref D) C (.ok .next) z) :
    wx X (comprehension (.ListComp elt [⟨tg, iter, ifs, 0⟩] scope pos) scope X.env pos' (newList []) false (eval iter X.env) use) Qf s := by
  have hfree : ∀ y ∈ scope.names, y.2 = .free → ∃ c, X.env.cells.lookup y.1 = some c := fun y hy e => (ok.free y hy e).elim (fun k => I.ok.has _ (.inl k)) fun k => I.ok.has _ (.inr k)
  refine wpAny_comprehension_free (use := use) rfl hs (closure_ok hfree) ok.kind (fun y hy e => by rw [ok.uniq y hy, e]) (thn (hi.run _ _ _ _ _ I h) fun xv s1 hx => thn hx fun itv s2 h2 => ?_)
  obtain ⟨k2, it, fp, tn, J, H2, e, I2, T, st2, f2, q⟩ := h2
  subst e
  refine wpAny_newObj_type (newEnv_comp ?_) (by show 0 ≤ sizeLine; decide)
  generalize hD : s2.heap.objs.size = D
  have nD : H2 D = none := I2.hok.fresh (Nat.le_of_eq hD)
  obtain ⟨W, ⟨m0, w0⟩, turn⟩ := q D nD
  generalize hz3 : ({ s2 with heap := s2.heap.push { cls := .type "list", data := .seq ([] : List Value).toArray } } : Shared) = z3
  have tk3 : lowT ≤ z3.toks := by rw [← hz3]; exact k2
  have hh : z3.heap = s2.heap.push { cls := .type "list", data := .seq ([] : List Value).toArray } := by rw [← hz3]
  have I3 : L2.Inv X pins σ (upd H2 D (.lst [])) z3 := by
    rw [← hz3]
    refine I2.laid (t' := s2.toks) (fun _ _ e => Heap.get?_push_of_some _ e) (Nat.le_of_eq hD) ⟨Nat.zero_le _, [], 0, .nil, ?_⟩
    rw [← hD]
    exact Heap.get?_push_size _ rfl
  have f3 : ∀ b ∈ fp, FpOk X pins (upd H2 D (.lst [])) b ∧ b < z3.heap.objs.size := fun b hb => by
    obtain ⟨o, e, _⟩ := T.obj _ _ st2 b hb
    have lt := Heap.lt_size e
    refine ⟨⟨?_, (f2 b hb).2⟩, by rw [hh, Heap.size_push]; exact Nat.lt_succ_of_lt lt⟩
    rw [upd_ne (by rw [← hD]; exact Nat.ne_of_lt lt)]
    exact (f2 b hb).1
  have st3 : tn 0 z3.heap := T.keep _ _ _ st2 fun b _ o e => by rw [hh]; exact Heap.get?_push_of_some _ e
  have I4 := block_start I3 ok hN f3
  have pg := hg z3 (upd H2 D (.lst [])) z3.heap.objs.size (cellsFrom (z3.heap.objs.size + 1) scope.names (cloFrom X.env.cells scope.names [])) fp
  have pt := ht z3 (upd H2 D (.lst [])) z3.heap.objs.size (cellsFrom (z3.heap.objs.size + 1) scope.names (cloFrom X.env.cells scope.names [])) fp
  have pe := he z3 (upd H2 D (.lst [])) z3.heap.objs.size (cellsFrom (z3.heap.objs.size + 1) scope.names (cloFrom X.env.cells scope.names [])) fp
  show codeAny _ _ (.compStart (.ListComp elt [⟨tg, iter, ifs, 0⟩] scope pos) 0 (.ref it) (.ref D) (compEnvC scope (cellsFrom (z3.heap.objs.size + 1) scope.names (cloFrom X.env.cells scope.names [])) z3.heap.objs.size X.env)) (compPost (model X.prog X.w) X.A X.xe use Qf (.ref D) z3.heap.objs.size) { z3 with heap := pushCells (z3.heap.push { cls := .type "dict", data := .dict #[] }) scope.names }
  have nfp : ∀ b ∈ fp, (upd H2 D (.lst [])) b = none := fun b hb => (f3 b hb).1.1
  generalize hce : compEnvC scope (cellsFrom (z3.heap.objs.size + 1) scope.names (cloFrom X.env.cells scope.names [])) z3.heap.objs.size X.env = ce at I4 pg pt pe ⊢
  have cL : ce.locals = z3.heap.objs.size := by subst hce; rfl
  generalize upd H2 D (.lst []) = H3 at I3 I4 pg pt pe w0 nfp f3
  generalize hz4 : ({ z3 with heap := pushCells (z3.heap.push { cls := .type "dict", data := .dict #[] }) scope.names } : Shared) = z4 at I4 ⊢
  have tk4 : lowT ≤ z4.toks := by rw [← hz4]; exact tk3
  have st4 : tn 0 z4.heap := T.keep _ _ _ st3 fun b _ o e => by rw [← hz4]; exact pushCells_keeps _ _ _ _ (Heap.get?_push_of_some _ e)
  generalize hY : X.blk z3 H3 scope ce fp = Y at I4 pg pt pe
  have y1 : Y.prog = X.prog := by rw [← hY]
  have stat : ∀ {σ' : L2.St} {G : Hp} {z : Shared}, L2.Inv Y [] σ' G z → (∀ b ∈ fp, G b = none) → ∀ b ∈ fp, FpOk Y [] G b := fun {σ' G z} K hn b hb => by
    subst hY
    exact ⟨hn b hb, (K.ok.exf b hb).1, K.ok.exfs b hb, .inl hb, fun x c e => (K.ok.exf b hb).2 x c e, fun p hp => absurd (show p ∈ ([] : Pn) ++ [] from hp) (by simp)⟩
  have loop : codeAny (model X.prog X.w) X.A (.compLoop (.ListComp elt [⟨tg, iter, ifs, 0⟩] scope pos) 0 (.ref it) (.ref D) ce) (compPost (model X.prog X.w) X.A X.xe use Qf (.ref D) z3.heap.objs.size) z4 := by
    refine compLoop_any (fun n z => ∃ i G, Inv Y [] (L2.wipe σ (own.map (·.2))) G z ∧ tn i z.heap ∧ (∀ b ∈ fp, G b = none) ∧ W i n G) ?_ m0 ⟨0, H3, I4.on tk4, st4, nfp, w0⟩
    rintro n z5 ⟨i, H5, I5, st5, n5, w5⟩
    subst hY
    have low : ∀ {α : Type} {t : Sem α} {R R' : α → Shared → Prop} {E : Value → Shared → Prop} {z : Shared}, lowT ≤ z.toks → wpAny (model X.prog X.w) X.A t R (fun _ _ => False) z → (∀ a z', lowT ≤ z'.toks → R a z' → R' a z') → wpAny (model X.prog X.w) X.A t R' E z :=
      fun hz hw hk => wpAny_mono (wpAny_toks_of hz hw) (fun a z' r => hk a z' r.1 r.2) fun _ _ r => r.2.elim
    rcases turn i n H5 w5 with ⟨stop, qq⟩ | ⟨go, Nx, hNx, step⟩
    · refine low I5.tk (T.done (X.blk z3 H3 scope ce fp) rfl rfl rfl hc i [] z5 _ H5 (fun _ _ => False) I5.toInv (stat I5.toInv n5) st5 stop) fun r z6 k6 ⟨hr, I6⟩ => ?_
      subst hr
      have I7 : L2.Inv X pins σ H5 z6 := I3.call' (ch := fp) I6.os I6.base I6.hok I6.bare fun b hb => ⟨(f3 b hb).1.2.2.2.1, (f3 b hb).1.2.1, (f3 b hb).1.2.2.2.2.1, (f3 b hb).1.2.2.2.2.2⟩
      have nC : H5 z3.heap.objs.size = none := by
        have z : H5 ce.locals = none := I6.free
        rwa [cL] at z
      obtain ⟨m, hn, _⟩ := I6.loc
      have hn : z6.heap.Ns ce.locals m := hn
      rw [cL] at hn
      exact fin D z3.heap.objs.size z6 m H5 (I7.on k6) qq hn (I3.fpOk (Nat.le_refl _) nC)
    · refine low I5.tk (T.item (X.blk z3 H3 scope ce fp) rfl rfl rfl hc i [] z5 _ H5 (fun _ _ => False) I5.toInv (stat I5.toInv n5) st5 go) fun r z6 k6 ⟨u, hr, h6⟩ => ?_
      subst hr
      refine low k6 h6 fun _ z7 k7 ⟨x, H7, I7, r7, y7, st7, n7⟩ => ?_
      have P7 := (I7.pinned (stat I7 n7) (T.obj _ _ st7)).on k7
      refine low k7 (pg.run _ z7 _ H7 x u _ P7 r7 (step x H7 y7)) fun _ z8 _ ⟨σ8, H8, I8, hw8, q8⟩ => ?_
      refine low I8.tk (pt.run _ z8 σ8 H8 _ I8 q8) fun b z9 _ ⟨H9, I9, q9⟩ => ?_
      have next : ∀ {z : Shared} {G : Hp}, Inv (X.blk z3 H3 scope ce fp) ([] ++ pinsAt fp z7.heap) σ8 G z → Nx G → ∃ m, m < n ∧ ∃ i G, Inv (X.blk z3 H3 scope ce fp) [] (L2.wipe σ (own.map (·.2))) G z ∧ tn i z.heap ∧ (∀ b ∈ fp, G b = none) ∧ W i m G := fun {z G} K nx => by
        obtain ⟨m', hm, w'⟩ := hNx G nx
        have pin : ∀ b ∈ fp, ∀ o, z7.heap.get? b = some o → z.heap.get? b = some o ∧ G b = none := fun b hb o e =>
          let w := K.pin (b, o) (List.mem_append_right _ (List.mem_append_right _ (mem_pinsAt hb e)))
          ⟨w.1, w.2.1⟩
        refine ⟨m', hm, i + 1, G, ((K.toInv.unpinned (pins := [])).weak (by rw [← hw8, wipe_length]) fun j v e => ?_).on K.tk, T.keep _ _ _ st7 fun b hb o e => (pin b hb o e).1, fun b hb => ?_, w'⟩
        · rw [← hw8] at e
          exact (wipe_some e).1
        · obtain ⟨o, e, _⟩ := T.obj _ _ st7 b hb
          exact (pin b hb o e).2
      cases b with
      | false =>
        simp only [Bool.false_eq_true, if_false] at q9 ⊢
        exact next I9 q9
      | true =>
        simp only [if_true] at q9 ⊢
        refine low I9.tk (pe.run _ z9 σ8 H9 _ I9 q9) fun v z10 _ ⟨yv, H10, I10, r10, acc, hD10, hz10, nx⟩ => ?_
        exact up0 I10.tk (app_ok (X := X.blk z3 H3 scope ce fp) (Q := fun _ z => L2.Inv (X.blk z3 H3 scope ce fp) ([] ++ pinsAt fp z7.heap) σ8 (upd H10 D (.lst (acc ++ [yv]))) z) I10.toInv hD10 hz10 r10 fun z11 K => K) fun _ z11 k11 K => next (K.on k11) nx
  exact codeAny_compStart_list loop (T.self X.A 0 _ _ _ st4 loop)
theorem pe_lc {elt tg iter : Expr} {ifs : List Expr} {scope : Scope} {own : List (Str × Nat)} {pos : Pos} {wi : TI} {g : TG} {tt : TT} {te : TE} (hc : X.calm = true) (hN : X.N.Nodup) (hi : PI X tg iter wi) (ok : BlkOk X.N X.env.scope scope own)
    (hg : Blks X scope fun Y => PG Y tg g) (ht : Blks X scope fun Y => PTs Y ifs tt) (he : Blks X scope fun Y => PE Y elt te) (hs : ∀ x, foldedSetIterable iter X.env x = pure x := by intro _; rfl) : PE X (.ListComp elt [⟨tg, iter, ifs, 0⟩] scope pos) (tLc wi g tt te (own.map (·.2))) := by
  refine ⟨fun pins s σ H Q I h => ?_⟩
  rw [eval_ListComp]
  refine lc_walk hc hN I hi ok hg ht he hs h fun D C z m G K q hn f => ⟨m, hn, fun h'' sb => ?_⟩
  obtain ⟨f0, f1, f2, f3, f4, f5⟩ := f
  exact ⟨.ref D, G, (K.toInv.turned (t' := z.toks) (fun b o hb e => (sb.2 b hb).trans e) f0 f1 f3 f4 f5).on K.tk, rfl, q⟩
theorem ps_setLc {i : Nat} {y : Str} {py : Pos} {elt tg iter : Expr} {ifs : List Expr} {scope : Scope} {own : List (Str × Nat)} {pos spos : Pos} {wi : TI} {g : TG} {tt : TT} {te : TE} (hc : X.calm = true) (hN : X.N.Nodup) (hy : X.N[i]? = some y) (hyl : X.env.scope.names.lookup y = some .local)
    (hsw : swapsWith (.ListComp elt [⟨tg, iter, ifs, 0⟩] scope pos) (some (.Name y py)) spos.line X.env = pure true) (hi : PI X tg iter wi) (ok : BlkOk X.N X.env.scope scope own)
    (hg : Blks X scope fun Y => PG Y tg g) (ht : Blks X scope fun Y => PTs Y ifs tt) (he : Blks X scope fun Y => PE Y elt te) (hs : ∀ x, foldedSetIterable iter X.env x = pure x := by intro _; rfl) :
    PS X (.Assign [.Name y py] (.ListComp elt [⟨tg, iter, ifs, 0⟩] scope pos) spos) (tAsg (tLc wi g tt te (own.map (·.2))) (gName i)) := by
  refine ⟨fun pins s σ H D I h => ?_⟩
  rw [exec_Assign_Name_used _ _ _ _ hsw]
  refine wpAny_bind (wpAny_standAt (wpAny_bind ?_))
  show wpAny _ X.A (do let _ ← comprehension (.ListComp elt [⟨tg, iter, ifs, 0⟩] scope pos) scope X.env (firstIterPos [⟨tg, iter, ifs, 0⟩] pos) (newList []) false (eval iter X.env) (some (assign (.Name y py) X.env))) _ _ s
  have h : tLc wi g tt te (own.map (·.2)) σ H (fun x H1 => gName i x σ H1 D.nx) := h
  refine wpAny_bind (thn (lc_walk (Qf := fun _ z => SP X pins D .next z) hc hN I hi ok hg ht he hs h fun L C z m G K q hn f => ?_) fun _ z hq => wpAny_pure (wpAny_pure hq))
  refine wpAny_assign_Name (up0 K.tk (store_ok2 (Q := fun _ z2 => L2.Inv X pins (σ.set i (some (V.ref L))) G z2 ∧ ∃ a, Heap.SameBut a z.heap z2.heap ∧ (a = X.env.locals ∨ X.env.cells.lookup y = some a)) (v := V.ref L) K.toInv hN hy (.inl hyl) rfl (fun s2 I2 w => ⟨I2, w⟩) (.inr hyl)) fun _ s2 k2 ⟨I2, a, sb, ha⟩ => ?_)
  obtain ⟨f0, f1, f2, f3, f4, f5⟩ := f
  have haC : C ≠ a := by
    rcases ha with w | w
    · rw [w]; exact f1
    · exact fun e => f4 y a w e.symm
  exact ⟨m, hn.sameBut sb haC, fun h3 sb3 => ⟨_, G, (I2.turned (t' := s2.toks) (fun b o hb e => (sb3.2 b hb).trans e) f0 f1 f3 f4 f5).on k2, q⟩⟩
end
end Ev

/-! Defs, calls and try with the bound. -/
namespace Ev
open PySem PySem.Spec L2 PyProof.Rows L2H
structure FnOk (P : Program) (w : World) (K : PySem.W.Frag) (mg : Str → Option Value) (base : Heap) (CX : CXT) (k : Nat) (f : Addr) (fd : FuncData) (ps : List Str) (sp : Sp) : Prop where
  len : ∀ vs H Q E, sp vs H Q E → vs.length = ps.length
  run : ∀ (A : Around) (outer : List PySem.Env) (s : Shared) (H : Hp) (args : Args) (us : List Value) (vs : List V) (Q : VK) (E : XK), lowT ≤ s.toks → Room k A → Env0 P w K mg base A outer s H → BindsTo s fd args (ps.zip us) → Vals vs us → sp vs H Q E →
    codeAny (model P w) A (.call (.ref f) args) (CR CX outer P w H s Q E) s
theorem fn_own {CX : CXT} {P : Program} {w : World} {K : PySem.W.Frag} {mg : Str → Option Value} {base : Heap} {k : Nat} {x qual : Str} {params : Arguments} {body : List Stmt} {scope : Scope} {f : Addr} {fd : FuncData} {N ps : List Str} {sp : Sp}
    (F : FunD K x qual params body scope [] [] f fd) (S : FnScope N ps scope) (len : ∀ vs H Q E, sp vs H Q E → vs.length = ps.length)
    (hbody : ∀ (cdv : Value) (A : Around) (outer : List PySem.Env) (s : Shared) (H : Hp) (vs : List V) (Q : VK) (E : XK), Room k (A.deeper (envOfC qual scope s.heap.objs.size f cdv)) → sp vs H Q E →
      ∃ t, PSs (cxOf CX P w K mg base N qual scope f cdv A outer s H E) body t ∧ t { nx := fun _ H' => Q .non H', rt := Q } (L2.start N vs) H) : FnOk P w K mg base CX (k + 1) f fd ps sp := by
  obtain ⟨oc, od, dV, kV, doc, pm, an, cdv, ct, osl, e0, lk, hcd, _, _⟩ := F.ex
  subst e0
  refine ⟨len, fun A outer s H args us vs Q E low hr en hb r hsp => ?_⟩
  have hlen := len _ _ _ _ hsp
  have inK : K.In s.heap := en.mod.kin.keeps fun b o e => (en.bs b o e).1
  have nolim : s.heap.NoLimit := en.mod.nolimit.keeps fun b o e => (en.bs b o e).1
  have kinds : ∀ y ∈ ps.zip us, scope.names.lookup y.1 = some .local ∨
      (scope.names.lookup y.1 = some .cell ∧ ((cellsFrom (s.heap.objs.size + 1) scope.names []).lookup y.1).isSome = true) := by
    rintro ⟨n, v⟩ hy
    rcases S.par n (List.of_mem_zip hy).1 with z | z
    · exact .inl z
    · exact .inr ⟨z, PySem.W.cellsFrom_some _ _ _ (.inl z)⟩
  refine codeAny_call_function hr.depth (inK _ _ lk) rfl S.co S.gen rfl (PySem.W.codeRec_of inK hcd) (hb _ _ _ _ ?_)
  refine wpAny_with_toks low (wpAny_newFunctionEnv_cells S.kind kinds fun env henv s1 ic low1 => ?_)
  subst henv
  refine ⟨nolim.keeps ic.toInCall.keep, codeAny_func ?_⟩
  obtain ⟨t, ht, hq⟩ := hbody cdv A outer s H vs Q E (hr.deeper _) hsp
  have J := (inv_start (CX := CX) (P := P) (w := w) (K := K) (mg := mg) (base := base) (E := E) S hr.hd en hlen r ic).on low1
  refine wpAny_mono (ht.run [] s1 (L2.start N vs) H _ J hq) (fun fl s' hs => ?_) fun e s' hs => hs
  cases fl with
  | ret u =>
    obtain ⟨v, σ', H', J', rv, q⟩ := hs
    exact ⟨v, H', J'.os, J'.bare, J'.base, J'.hok, rv, q⟩
  | next =>
    obtain ⟨σ', H', J', q⟩ := hs
    exact ⟨V.non, H', J'.os, J'.bare, J'.base, J'.hok, rfl, q⟩
  | brk => obtain ⟨_, _, _, q⟩ := hs; exact False.elim q
  | cont => obtain ⟨_, _, _, q⟩ := hs; exact False.elim q
section
variable {X : Cx} {CX : CXT} {k : Nat} {f : Addr} {fd : FuncData} {ps : List Str} {sp : Sp} {E : L2.St → XK}
theorem run_fnS {pins : Pn} {σ : L2.St} {H : Hp} {s : Shared} {Q : VK} {us : List Value} {vs : List V} (F : FnOk X.prog X.w X.K X.mg X.base CX k f fd ps sp) (hr : Room k X.A) (hb : Binds X.K fd ps []) (hx : PassesAt CX X σ (E σ)) (I : Inv X pins σ H s) (r : Vals vs us) (h : sp vs H Q (E σ)) :
    wx X (call (.ref f) us) (EP X pins σ Q) s := by
  have b := hb s us I.toInv.kIn (by rw [List.append_nil, ← r.length]; exact F.len _ _ _ _ h)
  rw [List.append_nil] at b
  refine wpAny_call (codeAny_mono (codeAny_toks_of I.tk (F.run X.A X.stack s H ⟨us, []⟩ us vs Q (E σ) I.tk hr I.toInv.env0 b r h)) fun r z ⟨low, hq⟩ => ?_)
  cases r with
  | error e => exact hx pins H s e z I.toInv hq
  | ok fl =>
    cases fl with
    | ret u => exact EP.of low (I.toInv.after hq)
    | next => exact False.elim hq
    | brk => exact False.elim hq
    | cont => exact False.elim hq
theorem pe_callS {x : Str} {e : Expr} {es : List Expr} {t : TA} {p pos : Pos} (F : FnOk X.prog X.w X.K X.mg X.base CX k f fd ps sp) (hr : Room k X.A) (hg : Gl X x) (hm : X.mg x = some (.ref f)) (hk : PySem.W.keepIn X.K (.ref f) = true) (hb : Binds X.K fd ps []) (hx : ∀ σ, PassesAt CX X σ (E σ))
    (ha : PA X (e :: es) t) (hdb : (x == ("__debug__" : Str)) = false := by decide) (he : starEach (e :: es) X.env = (false, eval e X.env) :: starEach es X.env := by rfl) (hpl : (backTo pos (starEach es X.env)).any (·.1) = false := by rfl) :
    PE X (.Call (.Name x p) (e :: es) [] pos) (tCallS sp E t) :=
  ⟨fun _ _ σ _ Q I q => wpAny_Call_Name_kw (ld_glob I.toInv hg hm (PySem.W.callWith_K (h₀ := X.base) I.ok.mod.kin hk (ha.on pos I q fun vs us z G J r w => ⟨J.toInv.kIn, run_fnS F hr hb (hx σ) J r w⟩) he hpl) hdb)⟩
end
/-! try: return E; except C as n: return E2 -/
section
variable {X : Cx} {x n : Str} {c : Value} {i : Nat} {e e2 : Expr} {np p1 q4 pos pos' : Pos} {te : WX → TE} {t2 : Addr → Value → Option Addr → TE} {Wout : WX}
theorem ps_tryR (hs : X.stack = X.env :: X.outer) (hf : X.env.frame = some X.env.locals) (hN : X.N.Nodup) (hi : X.N[i]? = some n) (hln : X.env.kindOf n = some .local) (hc : Names X x c) (tk : L2N.Takes X Wout)
    (hb : ∀ (W : WX) (pn : Pn) (xe : Value → Shared → Prop), L2N.Takes (X.tr pn xe) W → PE (X.tr pn xe) e (te W))
    (hsu : ∀ (a : Addr) (oe : Obj) (cls : Value) (d : Option Addr) (pn : Pn), L2N.Zn cls d oe → (∃ vs, oe.data = .fields vs) → PE (X.suite a ((a, oe) :: pn)) e2 (t2 a cls d)) :
    PS X (.Try [.Return (some e) p1] [.ExceptHandler (some (.Name x np)) (some n) [.Return (some e2) q4] pos'] [] [] pos) (fun D σ H => tRet (te (L2.wAs X.K c i (fun a cls d => tRet (t2 a cls d)) Wout D)) D σ H) := by
  refine ⟨fun pins s σ H D I h => ?_⟩
  have ok := I.ok
  have hfr : X.A.frames = some (X.env :: X.outer) := by rw [ok.frames, hs]
  -- what is wanted where an exception comes
  generalize hKK : (fun (u : Value) (z : Shared) => wpAny (model X.prog X.w) X.A (noteFrame u X.env) (fun _ z2 => wpAny (model X.prog X.w) X.A (setFlight u none) (fun _ z3 => wpAny (model X.prog X.w) X.A (handleBy u X.env [.ExceptHandler (some (.Name x np)) (some n) [.Return (some e2) q4] pos']) (SP X pins D) X.xe z3) X.xe z2) X.xe z) = KK
  have body : wpAny (model X.prog X.w) X.A (execs [.Return (some e) p1] X.env) (SP X pins D) KK s := by
    have pb := pss_one (ps_ret (pos := p1) (hb (L2.wAs X.K c i (fun a cls d => tRet (t2 a cls d)) Wout D) (X.pn ++ pins) (fun u z => lowT ≤ z.toks → KK u z) fun u z xx low => ?_))
    · refine wpAny_mono (wpAny_toks_of I.tk (pb.run [] s σ H D ((I.toInv.toTry _).on I.tk) h)) (fun f z ⟨low, w⟩ => ?_) fun u z ⟨low, w⟩ => w low
      have back : ∀ {Q : L2.St → Hp → Prop}, GP (X.tr (X.pn ++ pins) fun u z => lowT ≤ z.toks → KK u z) [] Q z → GP X pins Q z := fun ⟨σ', G, J, q⟩ => ⟨σ', G, (J.toInv.ofTry ok).on J.tk, q⟩
      cases f with
      | next => exact back w
      | brk => exact back w
      | cont => exact back w
      | ret u =>
        obtain ⟨v, σ', G, J, r, q⟩ := w
        exact ⟨v, σ', G, (J.toInv.ofTry ok).on J.tk, r, q⟩
    · -- caught
      obtain ⟨a, B, sI, pins', σ', G, cls, d, rfl, J', nb, up, sky, na, os, ag, b, hb1, hyes, hno⟩ := xx
      rw [← hKK]
      have J : L2.Inv X pins σ' G sI := J'.ofTry ok
      have sky' : Sky B (X.env :: X.outer) a (L2N.Zn cls d) X.env.locals z.heap := by rw [← hs]; exact sky
      refine L2N.Sky.land L2N.Zn.steady hfr hf sky' fun h3 fl3 up3 => ?_
      obtain ⟨oe3, vs3, he3, hz3, hd3⟩ := fl3.there
      have nfr : a ∉ frs (X.env :: X.outer) := fun hm => by
        obtain ⟨_, o', e', hnf⟩ := (show Heap.FunFrames h3 B (X.env :: X.outer) from fl3.2.2.1).mem hm
        rw [he3] at e'; cases e'
        exact hnf _ hd3
      have nL : a ≠ X.env.locals := fun w => nfr (List.mem_filterMap.mpr ⟨X.env, List.mem_cons_self, by rw [hf, w]⟩)
      have nF : a ∉ X.fs := fun hm => by
        obtain ⟨v, hv, q⟩ := List.mem_filterMap.mp hm
        exact nfr (List.mem_filterMap.mpr ⟨v, List.mem_cons_of_mem _ hv, q⟩)
      have J3 : L2.Inv X pins σ' G { z with heap := h3 } := J.landed nb fl3.1 (up.trans up3) os ag
      have S3 := J3.suite he3 hd3 na nL nF
      refine wpAny_handleBy_cons (codeAny_handlers_test ?_) (by intro q; cases q)
      have LT : PySem.W.Looks (model X.prog X.w) h3 (typeOf (.ref a)) cls := fun A Q E s k q => wpAny_typeOf_ref (k _ _ he3) (by rw [hz3.1]; exact q)
      have LM := PySem.W.exm_one (M := model X.prog X.w) (J3.kIn) LT hb1
      have named : ∀ {Q : Value → Shared → Prop} {E : Value → Shared → Prop}, Q c { z with heap := h3 } → wpAny (model X.prog X.w) (X.A.mark (some (.ref a))) (eval (.Name x np) X.env) Q E { z with heap := h3 } := fun {Q E} q => by
        obtain ⟨hg, hdbg, hm | ⟨hm, hv, hnn⟩⟩ := hc
        · exact ld_glob (X := X.suite a ((a, oe3) :: (X.pn ++ pins))) S3 hg hm q hdbg
        · exact ld_blt (X := X.suite a ((a, oe3) :: (X.pn ++ pins))) S3 hg hm hv q hnn hdbg
      refine named (LM.here ?_)
      cases b with
      | true =>
        refine codeAny_handlers_suite_as (HandSPX.lands_againZ fl3 fun h4 fl4 up4 => ?_)
        have J4 : L2.Inv X pins σ' G { z with heap := h4 } := J.landed nb fl4.1 ((up.trans up3).trans up4) os ag
        obtain ⟨oe4, vs4, he4, hz4, hd4⟩ := fl4.there
        refine up0 low (store_ok (X := X.suite a ((a, oe4) :: (X.pn ++ pins))) (Q := fun _ z5 => L2.Inv (X.suite a ((a, oe4) :: (X.pn ++ pins))) [] (σ'.set i (some (.ref a))) G z5) (v := .ref a) (J4.suite he4 hd4 na nL nF) hN hi (.inl hln) rfl (fun s5 S5 => S5) (.inr hln)) fun _ s5 low5 S5 => ?_
        refine wpAny_mono ((pss_one (ps_ret (pos := q4) (hsu a oe4 cls d (X.pn ++ pins) hz4 ⟨_, hd4⟩))).run [] s5 _ G _ (S5.on low5) (hyes rfl a na)) (fun f s6 hsp => ?_) (fun _ _ w => False.elim w)
        have end_ : ∀ {σ6 : L2.St} {H6 : Hp} {R : Shared → Prop}, Inv (X.suite a ((a, oe4) :: (X.pn ++ pins))) [] σ6 H6 s6 → (∀ s7, Inv X pins (σ6.set i none) H6 s7 → R s7) →
            wpAny (model X.prog X.w) X.A (do bindName X.env n .none; unbindBehindTheSuite X.env n pos') (fun _ s7 => R s7) X.xe s6 := fun {σ6 H6 R} S6 hq =>
          up0 S6.tk (gone_ok (Q := fun _ z7 => L2.Inv X pins (σ6.set i none) H6 z7) (S6.toInv.unsuite ok) hN hi hln fun s7 K => K) fun _ s7 low7 K => hq s7 (K.on low7)
        cases f with
        | next =>
          obtain ⟨σ6, H6, S6, q6⟩ := hsp
          exact end_ S6 fun s7 J7 => ⟨_, _, J7, q6⟩
        | brk =>
          obtain ⟨σ6, H6, S6, q6⟩ := hsp
          exact end_ S6 fun s7 J7 => ⟨_, _, J7, q6⟩
        | cont =>
          obtain ⟨σ6, H6, S6, q6⟩ := hsp
          exact end_ S6 fun s7 J7 => ⟨_, _, J7, q6⟩
        | ret u =>
          obtain ⟨v6, σ6, H6, S6, r6, q6⟩ := hsp
          exact end_ S6 fun s7 J7 => ⟨_, _, _, J7, r6, q6⟩
      | false =>
        refine wpAny_handleBy_nil ?_
        obtain ⟨k1, k2, k3, oe, vs, T, oT, ts', he, hz, hd, h1, hr⟩ := id fl3
        unfold PySem.passOn
        refine wpAny_bind (wpAny_field he hd h1 ?_)
        rw [if_neg (show ¬ ((Value.ref T == Value.none) = true) from by simp)]
        have gone : wpAny (model X.prog X.w) X.A (setFlight (.ref a) X.env.frame) (fun _ s4 => wpAny (model X.prog X.w) X.A (throw (.ref a) : Sem Flow) (SP X pins D) X.xe s4) X.xe { z with heap := h3 } := by
          rw [hf]
          refine HandSPX.setFlight_upZ fl3 fun h4 hh4 up4 => wpAny_throw (tk _ _ ?_)
          exact ⟨a, B, sI, pins, σ', G, cls, d, rfl, J, nb, (up.trans up3).trans up4, .inr (.inr (by rw [hs]; exact hh4)), na, os, ag, hno rfl⟩
        first
          | exact wpAny_bind (wpAny_pure (wpAny_bind gone))
          | exact wpAny_bind gone
  refine wpAny_Try_except (wpAny_mono body (fun f s1 hsp => ?_) fun u s1 w => by rw [← hKK] at w; exact w)
  cases f with
  | next =>
    obtain ⟨σ', G, J, q⟩ := hsp
    exact wpAny_execs_nil ⟨σ', G, J, q⟩
  | brk => exact hsp
  | cont => exact hsp
  | ret u => exact hsp
end
/-! raise E -/
def PMk (X : Cx) (e : Expr) (t : L2.St → Hp → XK → Prop) : Prop := ∀ (pins : Pn) (s : Shared) (σ : L2.St) (H : Hp) (Q : XK), Inv X pins σ H s → t σ H Q → wx X (eval e X.env) (L2N.MkP X pins σ Q) s
theorem PMk.of {X : Cx} {e : Expr} {t : L2.St → Hp → XK → Prop} (h : L2N.PMk X e t) : PMk X e t := fun pins s σ H Q I q => h pins s σ H Q I.toInv q
theorem ps_raise {X : Cx} {W : WX} {e : Expr} {t : L2.St → Hp → XK → Prop} {pos : Pos} (hc : X.calm = true) (tk : L2N.Takes X W) (he : PMk X e t) : PS X (.Raise (some e) none pos) (fun _ σ H => t σ H fun cls d H' => W cls d σ H') := by
  refine ⟨fun pins s σ H D I h => ?_⟩
  show wpAny _ _ (do standAt pos; raiseStmt X.env (some (do let v ← eval e X.env; standAt pos; pure v)) none) _ _ _
  refine wpAny_bind (wpAny_standAt (raise_made (I.ok.hd hc) (wpAny_bind (thn (he pins s σ H _ I h) fun u z hu => wpAny_bind (wpAny_standAt (wpAny_pure ?_))))))
  obtain ⟨a, oe, vs, sI, G, cls, d, rfl, J, k, hne, ha, hz, hd, h1, na, os, ag, r, q⟩ := hu
  obtain ⟨r1, r2⟩ := r (model X.prog X.w) z.heap (J.kIn.keeps k)
  exact ⟨a, oe, vs, cls, rfl, ha, hz.1, hd, h1, r1, r2, tk _ _ (L2N.XE.new J k hne ha hz hd h1 na os ag q)⟩
end Ev

/-! New tuples, told as they are: no dict of their own. -/
namespace Ev
open PySem PySem.Spec L2 PyProof.Rows RZ
/-- a tuple that is told as it is -/
def XTup (o : Obj) : Prop := o.cls = .type "tuple" ∧ o.dict = none ∧ ∃ its n, o.data = .seq its n
abbrev NewT (H : Hp) (Q : VK) (vs : List V) : Prop := ∀ p o, H p = none → XTup o → Q (.ref p) (upd H p (.frz o (.tup vs)))
section
variable {X : Cx}
theorem layX {pins : List (Addr × Obj)} {σ : L2.St} {H : Hp} {s : Shared} {us : List Value} {vs : List V} {Q : VK} (I : L2.Inv X pins σ H s) (r : Vals vs us) (hz : vs.length ≤ sizeLine) (q : NewT H Q vs) :
    L2.EP X pins σ Q (.ref s.heap.objs.size) { s with heap := s.heap.push { cls := .type "tuple", data := .seq us.toArray } } := by
  refine ⟨.ref s.heap.objs.size, upd H s.heap.objs.size (.frz { cls := .type "tuple", data := .seq us.toArray } (.tup vs)), ?_, rfl, q _ _ (I.hok.fresh (Nat.le_refl _)) ⟨rfl, rfl, _, _, rfl⟩⟩
  exact I.laid (t' := s.toks) (fun c ob e => Heap.get?_push_of_some _ e) (Nat.le_refl _) (show ObjOk X.prog X.w _ _ _ (.frz _ (.tup vs)) from ⟨Heap.get?_push_size _ rfl, hz, us, r, IsTup.new _ _⟩)
def tTupX (ta : TA) : TE := fun σ H Q => ta σ H fun vs H1 => vs.length ≤ sizeLine ∧ NewT H1 Q vs
theorem pe_tupX {es : List Expr} {ta : TA} {k : Nat} {pos : Pos} (h : PA X es ta) : PE X (.Tuple es k pos) (tTupX ta) :=
  ⟨fun pins s σ H Q I hq => wpAny_Tuple_spliced (thn (h.run pos pins s σ H _ I hq) fun us s1 ⟨vs, H1, I1, r, z, q⟩ => ⟨by rw [← r.length]; exact z, EP.of I1.tk (layX I1.toInv r z q)⟩)⟩
/-- t + u -/
def rCatX (K : PySem.W.Frag) : R2 := fun x y H Q => ∃ a b xs ys, x = .ref a ∧ y = .ref b ∧ SqT K H a xs ∧ SqT K H b ys ∧ xs.length + ys.length ≤ sizeLine ∧
  (xs = [] → Q (.ref b) H) ∧ (xs ≠ [] → ys = [] → Q (.ref a) H) ∧ (xs ≠ [] → ys ≠ [] → NewT H Q (xs ++ ys))
theorem op_catX : OpR X (binaryOp .Add) (rCatX X.K) := by
  intro pins s σ H x y v u Q I rx ry ⟨a, b, xs, ys, ex, ey, ha, hb, hz, q0, q1, q2⟩
  subst ex ey
  cases rx; cases ry
  obtain ⟨us, r1, p1, _⟩ := I.tuple ha
  obtain ⟨ws, r2, p2, _⟩ := I.tuple hb
  by_cases hx : xs = []
  · subst hx
    cases r1
    exact cat_tup0 p1 p2 ⟨.ref b, H, I, rfl, q0 rfl⟩
  · refine HT.cat_tup p1 p2 (fun z => hx (r1.nil_iff.mp z)) (fun z => ⟨.ref a, H, I, rfl, q1 hx (r2.nil_iff.mp z)⟩) (fun z => ?_) (by rw [← r1.length, ← r2.length]; exact hz)
    have := layX I (r1.append r2) (by rw [List.length_append]; exact hz) (q2 hx fun w => z (r2.nil_iff.mpr w))
    simpa using this
/-- t * k -/
def rRepX (K : PySem.W.Frag) : R2 := fun x y H Q => ∃ l k xs, x = .ref l ∧ y = .int k ∧ SqT K H l xs ∧ xs ≠ [] ∧ 2 ≤ k ∧ k ≤ 1000 ∧ xs.length ≤ 1000 ∧ NewT H Q (List.replicate k.toNat xs).flatten
theorem op_repX : OpR X (binaryOp .Mult) (rRepX X.K) := by
  intro pins s σ H x y v u Q I rx ry ⟨l, k, xs, ex, ey, hT, hne, h1, h2, hz, q⟩
  subst ex ey
  cases rx
  obtain ⟨t, rfl⟩ := ry
  obtain ⟨us, r, ⟨⟨cl, dd, dat, sl⟩, ho, g1, n, g2⟩, hs⟩ := I.tuple hT
  simp only at g1 g2
  subst g1 g2
  have hle : us.length = xs.length := r.length.symm
  have hi : us.toArray.isEmpty = false := by
    cases us with
    | nil => exact absurd (List.eq_nil_of_length_eq_zero hle.symm) hne
    | cons a b => rfl
  have hsz : us.toArray.size = xs.length := by rw [List.size_toArray, hle]
  have hm : ((us.toArray.size : Nat) : Int) * k ≤ 1000000 := by
    have w1 : ((xs.length : Nat) : Int) * k ≤ 1000 * k := Int.mul_le_mul_of_nonneg_right (by omega) (by omega)
    rw [hsz]; omega
  have hml : k.toNat * xs.length ≤ 1000 * 1000 := Nat.mul_le_mul (by omega) hz
  have flen : (List.replicate k.toNat us).flatten.length ≤ sizeLine := by rw [PyProof.Rows.lm_len_rep_flat, hle, sizeLine_eq]; omega
  have f0 : (decide (k < -(2 ^ 63)) || decide (k ≥ 2 ^ 63)) = false := by rw [decide_eq_false (by omega), decide_eq_false (by omega)] <;> rfl
  have f1 : (us.toArray.isEmpty || k == 1) = false := by rw [hi, Bool.false_or]; exact beq_eq_false_iff_ne.mpr (by omega)
  have f2 : (decide (k ≤ 0) || us.toArray.isEmpty) = false := by rw [hi, Bool.or_false]; exact decide_eq_false (by omega)
  have f4 : Builtin.Tuple.tupleTooMany (((us.toArray.size : Nat) : Int) * k) = false := by unfold Builtin.Tuple.tupleTooMany; rw [sizeLine_eq]; exact decide_eq_false (by omega)
  refine wpAny_binaryOp_repeat_ref (T := "tuple") (U := "int") (by decide) ⟨_, ho, rfl⟩ (fun s' => typeIs_int s' k t) noFill_tuple_mul F.fills_int_mul F.slot_int_rmul repeat_tuple F.slot_int_index.lookup (call_meets F.slot_int_rmul (typeIs_int s k t) F.entry_int_rmul (F.args_int_rmul_2 _ _) (int_rmul_tuple k t l us.toArray n dd sl)
      ⟨ho, rfl, ⟨_, ho, rfl⟩, call_meets F.slot_tuple_mul ⟨_, ho, rfl⟩ F.entry_tuple_mul (F.args_tuple_mul_2 _ _) (tuple_mulW l us.toArray n dd sl k t f0 f1 f2 (by omega) f4 (by rw [size_rep, List.size_toArray]; exact flen)) ⟨ho, ?_⟩⟩)
  rw [size_rep]
  exact layX I (r.rep k.toNat) (by rw [PyProof.Rows.lm_len_rep_flat, sizeLine_eq]; omega) q
/-- t[lo:hi]: the whole of it is t itself -/
def rSlX (K : PySem.W.Frag) : V → Option Int → Option Int → Hp → VK → Prop := fun x lo hi H Q => ∃ a xs, x = .ref a ∧ SqT K H a xs ∧
  (HT.sIx xs.length 0 lo = 0 ∧ HT.sIx xs.length xs.length hi = xs.length → Q (.ref a) H) ∧ (¬ (HT.sIx xs.length 0 lo = 0 ∧ HT.sIx xs.length xs.length hi = xs.length) → NewT H Q (cutV xs lo hi))
theorem sl_tupX : SlR X (rSlX X.K) := by
  intro pins s σ H x v vl vu lo hi sl Q I rx hs pl pu ⟨a, xs, ex, hx, q1, q2⟩
  subst ex
  cases rx
  obtain ⟨us, r, ht, hz⟩ := I.tuple hx
  have hlen : us.toArray.size = xs.length := by rw [List.size_toArray]; exact r.length.symm
  refine ⟨"tuple", _, PyProof.Rows.slot_tuple_getitem.lookup, ht.typeIs, ?_⟩
  by_cases hw : HT.sIx xs.length 0 lo = 0 ∧ HT.sIx xs.length xs.length hi = xs.length
  · exact getItem_tuple_whole ht hs pl pu (by rw [hlen]; exact hw) ⟨.ref a, H, I, rfl, q1 hw⟩
  · refine HT.getItem_tuple_cut ht hs pl pu (by rw [hlen]; exact hw) ?_ (by rw [hlen]; exact hz)
    rw [hlen]
    exact layX I ((r.drop (HT.sIx xs.length 0 lo)).take (HT.sIx xs.length xs.length hi - HT.sIx xs.length 0 lo)) (Nat.le_trans (cutV_length xs lo hi) hz) (q2 hw)
theorem call_tupleX : CallR X (.type "tuple") (fun xs H Q => ∃ p ys, xs = [.ref p] ∧ ((SqL X.K H p ys ∧ NewT H Q ys) ∨ (SqT X.K H p ys ∧ Q (.ref p) H))) := by
  intro pins s σ H xs us Q I r ⟨p, ys, ex, h⟩
  subst ex
  obtain ⟨u, rfl, rx⟩ := vals1 r
  cases rx
  rcases h with ⟨hq, q⟩ | ⟨hq, q⟩
  · obtain ⟨ws, r', pl, hz⟩ := I.list hq
    have hlen := r'.length
    refine call_tuple_list pl.isList (fun h' kp => ?_) (by simp only [List.size_toArray] <;> omega)
    exact layX (I.kept (t' := s.toks) kp : L2.Inv X pins σ H { s with heap := h' }) r' hz q
  · obtain ⟨ws, r', pl, hz⟩ := I.tuple hq
    exact call_tuple_same pl ⟨.ref p, H, I, rfl, q⟩
end
end Ev

/-! What stands in the machine for plain data. -/
namespace Ev
open PySem L2

@[simp] theorem tx_list (l : List Nat) : (tx l).cps.toList = l := rfl
@[simp] theorem tx_len (l : List Nat) : (tx l).length = l.length := by simp [tx, Str.length]
theorem tx_inj {a b : List Nat} : tx a = tx b ↔ a = b := by
  constructor
  · intro h
    have := congrArg (fun z : Str => z.cps.toList) h
    simpa using this
  · intro h; rw [h]
theorem tx_app (a b : List Nat) : tx a ++ tx b = tx (a ++ b) := by
  show Str.append _ _ = _
  simp [Str.append, tx]
theorem okc_app {a b : List Nat} (h : okc a = true) (g : okc b = true) : okc (a ++ b) = true := by
  unfold okc at *; rw [List.all_append, h, g]; rfl
theorem okc_sub {a b : List Nat} (h : okc a = true) (g : ∀ c ∈ b, c ∈ a) : okc b = true := by
  unfold okc at *
  rw [List.all_eq_true] at *
  exact fun c hc => h c (g c hc)

def kyK : Ky → Key
  | .i n => .inl n
  | .s l => .inr (tx l)
theorem kyK_inj {a b : Ky} (h : kyK a = kyK b) : a = b := by
  cases a <;> cases b <;> simp [kyK] at h
  · rw [h]
  · have := tx_inj.mp (by simpa [tx] using h); rw [this]

/-- a tuple, told as it is -/
def SqX (K : PySem.W.Frag) (F : Hp) (a : Addr) (vs : List V) : Prop :=
  (∃ o, F a = some (.frz o (.tup vs)) ∧ XTup o) ∨ (SqT K F a vs ∧ ∃ o, K.lookup a = some o ∧ XTup o)
mutual
/-- v stands for d, in the part F of the heap that does not change -/
def Rep (K : PySem.W.Frag) (w : World) (F : Hp) : D → V → Prop
  | .non, v => v = .non
  | .bl b, v => v = .bl b
  | .int i, v => v = .int i
  | .str l, v => v = .str (tx l) ∧ okc l = true
  | .tup ds, v => ∃ a vs, v = .ref a ∧ SqX K F a vs ∧ Reps K w F ds vs
  | .lst ds, v => ∃ a vs, v = .ref a ∧ F a = some (.lst vs) ∧ Reps K w F ds vs
  | .dic ks ds, v => ∃ a kvs, v = .ref a ∧ F a = some (.dK kvs) ∧ kvs.map (·.1) = ks.map kyK ∧ ks.Nodup ∧ Reps K w F ds (kvs.map (·.2))
  | .scr ns, v => ∃ a, v = .ref a ∧ SqL K F a (ns.map V.int)
  | .adr a, v => v = .ref a
  | .gdc ks ds, v => ∃ a es n vs, v = .ref a ∧ KDict K w a es n ∧ Reps K w F ds vs ∧ ks.length = vs.length ∧
      (∀ l, l ∉ ks → PySem.W.nsIn K a (tx l) = some none) ∧
      ∀ (i : Nat) (l : List Nat) (x : V), ks[i]? = some l → vs[i]? = some x → ∃ u, PySem.W.nsIn K a (tx l) = some (some u) ∧ RelV x u
def Reps (K : PySem.W.Frag) (w : World) (F : Hp) : List D → List V → Prop
  | [], vs => vs = []
  | d :: ds, vs => ∃ v r, vs = v :: r ∧ Rep K w F d v ∧ Reps K w F ds r
end

section
variable {K : PySem.W.Frag} {w : World} {F F' H H' : Hp}
theorem Same.tupT {a : Addr} {xs : List V} (e : Same F F') (h : SqT K F a xs) : SqT K F' a xs := by
  rcases h with (h | ⟨o, h⟩) | h
  · exact .inl (.inl (e _ _ h))
  · exact .inl (.inr ⟨o, e _ _ h⟩)
  · exact .inr h
theorem SqX.t {a : Addr} {xs : List V} (h : SqX K F a xs) : SqT K F a xs := by
  rcases h with ⟨o, h, _⟩ | ⟨h, _⟩
  · exact .inl (.inr ⟨o, h⟩)
  · exact h
theorem Same.tupX {a : Addr} {xs : List V} (e : Same F F') (h : SqX K F a xs) : SqX K F' a xs := by
  rcases h with ⟨o, h, x⟩ | ⟨h, x⟩
  · exact .inl ⟨o, e _ _ h, x⟩
  · exact .inr ⟨Same.tupT e h, x⟩
theorem Same.tup {a : Addr} {xs : List V} (e : Same F F') (h : SqX K F a xs) : SqT K F' a xs := Same.tupT e h.t
theorem SqX.of {a : Addr} {xs : List V} {o : Obj} (h : F a = some (.frz o (.tup xs))) (x : XTup o) : SqX K F a xs := .inl ⟨o, h, x⟩
mutual
theorem Rep.mono (e : Same F F') : ∀ (d : D) (v : V), Rep K w F d v → Rep K w F' d v
  | .non, _, h => h
  | .bl _, _, h => h
  | .int _, _, h => h
  | .str _, _, h => h
  | .tup ds, v, ⟨a, vs, h1, h2, h3⟩ => ⟨a, vs, h1, Same.tupX e h2, Reps.mono e ds vs h3⟩
  | .lst ds, v, ⟨a, vs, h1, h2, h3⟩ => ⟨a, vs, h1, e _ _ h2, Reps.mono e ds vs h3⟩
  | .dic ks ds, v, ⟨a, kvs, h1, h2, h3, h4, h5⟩ => ⟨a, kvs, h1, e _ _ h2, h3, h4, Reps.mono e ds _ h5⟩
  | .scr ns, v, ⟨a, h1, h2⟩ => ⟨a, h1, e.seq h2⟩
  | .adr _, _, h => h
  | .gdc ks ds, v, ⟨a, es, n, vs, h1, h2, h3, h4, h5, h6⟩ => ⟨a, es, n, vs, h1, h2, Reps.mono e ds vs h3, h4, h5, h6⟩
theorem Reps.mono (e : Same F F') : ∀ (ds : List D) (vs : List V), Reps K w F ds vs → Reps K w F' ds vs
  | [], _, h => h
  | d :: ds, vs, ⟨v, r, h1, h2, h3⟩ => ⟨v, r, h1, Rep.mono e d v h2, Reps.mono e ds r h3⟩
end
theorem Reps.length : ∀ {ds : List D} {vs : List V}, Reps K w F ds vs → ds.length = vs.length
  | [], _, h => by rw [show _ = [] from h]; rfl
  | d :: ds, vs, ⟨v, r, h1, h2, h3⟩ => by rw [h1, List.length_cons, List.length_cons, Reps.length h3]
theorem Reps.get : ∀ {ds : List D} {vs : List V} {i : Nat} {d : D}, Reps K w F ds vs → ds[i]? = some d → ∃ v, vs[i]? = some v ∧ Rep K w F d v
  | [], _, i, _, _, e => by simp at e
  | d :: ds, vs, 0, d', ⟨v, r, h1, h2, h3⟩, e => by
    simp only [List.getElem?_cons_zero, Option.some.injEq] at e
    subst e
    exact ⟨v, by rw [h1]; rfl, h2⟩
  | d :: ds, vs, i + 1, d', ⟨v, r, h1, h2, h3⟩, e => by
    rw [List.getElem?_cons_succ] at e
    obtain ⟨x, q1, q2⟩ := Reps.get h3 e
    exact ⟨x, by rw [h1, List.getElem?_cons_succ]; exact q1, q2⟩
theorem Reps.get' : ∀ {ds : List D} {vs : List V} {i : Nat} {v : V}, Reps K w F ds vs → vs[i]? = some v → ∃ d, ds[i]? = some d ∧ Rep K w F d v
  | [], vs, i, _, h, e => by rw [show vs = [] from h] at e; simp at e
  | d :: ds, vs, 0, x, ⟨v, r, h1, h2, h3⟩, e => by
    rw [h1] at e
    simp only [List.getElem?_cons_zero, Option.some.injEq] at e
    subst e
    exact ⟨d, rfl, h2⟩
  | d :: ds, vs, i + 1, x, ⟨v, r, h1, h2, h3⟩, e => by
    rw [h1, List.getElem?_cons_succ] at e
    obtain ⟨y, q1, q2⟩ := Reps.get' h3 e
    exact ⟨y, by rw [List.getElem?_cons_succ]; exact q1, q2⟩
theorem Reps.append : ∀ {ds es : List D} {vs us : List V}, Reps K w F ds vs → Reps K w F es us → Reps K w F (ds ++ es) (vs ++ us)
  | [], es, vs, us, h, g => by rw [show vs = [] from h]; exact g
  | d :: ds, es, vs, us, ⟨v, r, h1, h2, h3⟩, g => ⟨v, r ++ us, by rw [h1]; rfl, h2, Reps.append h3 g⟩
theorem Reps.take : ∀ {ds : List D} {vs : List V} (n : Nat), Reps K w F ds vs → Reps K w F (ds.take n) (vs.take n)
  | [], vs, n, h => by rw [show vs = [] from h]; simp [Reps]
  | d :: ds, vs, 0, h => by simp [Reps]
  | d :: ds, vs, n + 1, ⟨v, r, h1, h2, h3⟩ => ⟨v, r.take n, by rw [h1]; rfl, h2, Reps.take n h3⟩
theorem Reps.drop : ∀ {ds : List D} {vs : List V} (n : Nat), Reps K w F ds vs → Reps K w F (ds.drop n) (vs.drop n)
  | [], vs, n, h => by rw [show vs = [] from h]; simp [Reps]
  | d :: ds, vs, 0, h => h
  | d :: ds, vs, n + 1, ⟨v, r, h1, h2, h3⟩ => by rw [h1]; exact Reps.drop n h3
theorem Reps.reverse : ∀ {ds : List D} {vs : List V}, Reps K w F ds vs → Reps K w F ds.reverse vs.reverse
  | [], vs, h => by rw [show vs = [] from h]; simp [Reps]
  | d :: ds, vs, ⟨v, r, h1, h2, h3⟩ => by
    rw [h1, List.reverse_cons, List.reverse_cons]
    exact Reps.append (Reps.reverse h3) ⟨v, [], rfl, h2, rfl⟩
theorem Reps.one {d : D} {v : V} (h : Rep K w F d v) : Reps K w F [d] [v] := ⟨v, [], rfl, h, rfl⟩
theorem Reps.rep {ds : List D} {vs : List V} (h : Reps K w F ds vs) : ∀ n, Reps K w F (Ev.rep n ds) (Ev.rep n vs)
  | 0 => by simp [Ev.rep, Reps]
  | n + 1 => by
    have e1 : Ev.rep (n + 1) ds = ds ++ Ev.rep n ds := by simp [Ev.rep, List.replicate_succ]
    have e2 : Ev.rep (n + 1) vs = vs ++ Ev.rep n vs := by simp [Ev.rep, List.replicate_succ]
    rw [e1, e2]
    exact Reps.append h (Reps.rep h n)
/-- scalars need no heap -/
theorem Rep.flat {d : D} {v : V} (h : Rep K w F d v) (hf : flat d = true) (F' : Hp) : Rep K w F' d v := by
  cases d <;> first | exact h | cases hf

/-! ### the parts grow -/
structure Ext (F H F' H' : Hp) : Prop where
  sub : Same F F'
  inH : Same F' H'
  same : Same H H'
  new : ∀ a, H a ≠ none → F a = none → F' a = none
theorem Ext.refl (h : Same F H) : Ext F H F H := ⟨Same.refl _, h, Same.refl _, fun _ _ e => e⟩
theorem Ext.trans {F1 H1 F2 H2 : Hp} (a : Ext F H F1 H1) (b : Ext F1 H1 F2 H2) : Ext F H F2 H2 :=
  ⟨a.sub.trans b.sub, b.inH, a.same.trans b.same, fun x hx hf => b.new x (fun z => by
    cases q : H x with
    | none => exact hx q
    | some o => rw [a.same x o q] at z; cases z) (a.new x hx hf)⟩
theorem same_upd {p : Addr} {o : HO} (h : H p = none) : Same H (upd H p o) := fun b u q => by
  rw [upd_ne (ne_of_none q h)]; exact q
theorem same_upd2 {p : Addr} {o : HO} (h : Same F H) : Same (upd F p o) (upd H p o) := fun b u q => by
  unfold upd at *
  split
  · rename_i e; rw [if_pos e] at q; exact q
  · rename_i e; rw [if_neg e] at q; exact h b u q
theorem Ext.new1 {p : Addr} (o : HO) (h : Same F H) (hp : H p = none) : Ext F H (upd F p o) (upd H p o) :=
  ⟨same_upd (h.free hp), same_upd2 h, same_upd hp, fun a ha hf => by rw [upd_ne (fun e => ha (by rw [e]; exact hp))]; exact hf⟩
/-- a new object beside the part -/
theorem Ext.own {p : Addr} (o : HO) (h : Same F H) (hp : H p = none) : Ext F H F (upd H p o) :=
  ⟨Same.refl _, fun b u q => same_upd hp b u (h b u q), same_upd hp, fun _ _ e => e⟩

/-- what is wanted behind a value -/
def fin (K : PySem.W.Frag) (w : World) (r : R D) (F H : Hp) (Q : VK) (X : Nat → Hp → Prop) : Prop :=
  match r with
  | .ok d => ∀ v F' H', Ext F H F' H' → Rep K w F' d v → Q v H'
  | .ex c => ∀ H', Same H H' → X c H'
  | .no => False
abbrev fin0 (K : PySem.W.Frag) (w : World) (r : R D) (F H : Hp) (Q : VK) : Prop := fin K w r F H Q fun _ _ => False
theorem fin_ok {d : D} {v : V} {Q : VK} {Xc : Nat → Hp → Prop} (h : fin K w (.ok d) F H Q Xc) (hs : Same F H) (r : Rep K w F d v) : Q v H := h v F H (Ext.refl hs) r
theorem fin_tup {ds : List D} {vs : List V} {Q : VK} {Xc : Nat → Hp → Prop} (h : fin K w (.ok (.tup ds)) F H Q Xc) (hs : Same F H) (r : Reps K w F ds vs) : NewT H Q vs := fun p o hp x =>
  h (.ref p) _ _ (Ext.new1 (.frz o (.tup vs)) hs hp) ⟨p, vs, rfl, SqX.of upd_same x, Reps.mono (same_upd (hs.free hp)) ds vs r⟩
/-- a pair that is only taken apart -/
def RepW (K : PySem.W.Frag) (w : World) (F : Hp) (d : D) (v : V) : Prop := Rep K w F d v ∨ ∃ ds a vs, d = .tup ds ∧ v = .ref a ∧ SqT K F a vs ∧ Reps K w F ds vs
theorem RepW.mono {d : D} {v : V} (e : Same F F') (h : RepW K w F d v) : RepW K w F' d v := by
  rcases h with h | ⟨ds, a, vs, h1, h2, h3, h4⟩
  · exact .inl (Rep.mono e d v h)
  · exact .inr ⟨ds, a, vs, h1, h2, Same.tupT e h3, Reps.mono e ds vs h4⟩
/-- by the target -/
def RepT (K : PySem.W.Frag) (w : World) (F : Hp) : T → D → V → Prop
  | .one _, d, v => Rep K w F d v
  | .many _, d, v => RepW K w F d v
theorem RepT.of {t : T} {d : D} {v : V} (h : Rep K w F d v) : RepT K w F t d v := by cases t with
  | one _ => exact h
  | many _ => exact .inl h
theorem fin_lst {ds : List D} {vs : List V} {Q : VK} {Xc : Nat → Hp → Prop} (h : fin K w (.ok (.lst ds)) F H Q Xc) (hs : Same F H) (r : Reps K w F ds vs) (p : Addr) (hp : H p = none) : Q (.ref p) (upd H p (.lst vs)) :=
  h (.ref p) _ _ (Ext.new1 (.lst vs) hs hp) ⟨p, vs, rfl, upd_same, Reps.mono (same_upd (hs.free hp)) ds vs r⟩
end
end Ev

/-! The operators, by plain data. -/
namespace Ev
open PySem L2

theorem lim_eq : lim = sizeLine := by rw [sizeLine_eq]; rfl

/-! ### plain data as the library has it -/
mutual
def toPy : D → PyData
  | .bl b => .bool b
  | .int i => .int i
  | .str l => .str (tx l)
  | .tup xs => .tuple (toPys xs)
  | .lst xs => .list (toPys xs)
  | .non => .none
  | .dic _ _ => .none
  | .scr _ => .none
  | .gdc _ _ => .none
  | .adr _ => .none
def toPys : List D → List PyData
  | [] => []
  | x :: xs => toPy x :: toPys xs
end

theorem strOk_of {l : List Nat} (h : okc l = true) : PyData.strOk (tx l) = true := by
  unfold PyData.strOk
  unfold okc at h
  simpa using h

section
variable {K : PySem.W.Frag} {w : World} {F H : Hp}
mutual
theorem dp_of (hs : Same F H) : ∀ (n : Nat) (d : D) (v : V), okd n d = true → Rep K w F d v → Dp K H v (toPy d) ∧ (toPy d).canLay0 = true ∧ (toPy d).depth ≤ n
  | n, .non, v, _, r => by
    obtain rfl : v = .non := r
    exact ⟨.non, rfl, Nat.zero_le _⟩
  | n, .bl b, v, _, r => by
    obtain rfl : v = .bl b := r
    exact ⟨.bl b, rfl, Nat.zero_le _⟩
  | n, .int i, v, _, r => by
    obtain rfl : v = .int i := r
    exact ⟨.int i, rfl, Nat.zero_le _⟩
  | n, .str l, v, _, r => by
    obtain ⟨rfl, ho⟩ := r
    refine ⟨.str _, ?_, Nat.zero_le _⟩
    show PyData.canLay0 (.str (tx l)) = true
    rw [PyData.canLay0]
    exact strOk_of ho
  | n + 1, .tup xs, v, h, ⟨a, vs, hv, hq, hr⟩ => by
    obtain ⟨p, q, r⟩ := dps_of hs n xs vs h hr
    subst hv
    refine ⟨.tup (Same.tup hs hq) p, ?_, ?_⟩
    · show PyData.canLay0 (.tuple (toPys xs)) = true
      rw [PyData.canLay0]; exact q
    · show PyData.depth (.tuple (toPys xs)) ≤ n + 1
      rw [PyData.depth]; omega
  | n + 1, .lst xs, v, h, ⟨a, vs, hv, hq, hr⟩ => by
    obtain ⟨p, q, r⟩ := dps_of hs n xs vs h hr
    subst hv
    refine ⟨.lst (SqL.of (hs _ _ hq)) p, ?_, ?_⟩
    · show PyData.canLay0 (.list (toPys xs)) = true
      rw [PyData.canLay0]; exact q
    · show PyData.depth (.list (toPys xs)) ≤ n + 1
      rw [PyData.depth]; omega
  | 0, .tup _, _, h, _ => by cases h
  | 0, .lst _, _, h, _ => by cases h
  | 0, .dic _ _, _, h, _ => by cases h
  | _ + 1, .dic _ _, _, h, _ => by cases h
  | 0, .scr _, _, h, _ => by cases h
  | _ + 1, .scr _, _, h, _ => by cases h
  | 0, .gdc _ _, _, h, _ => by cases h
  | _ + 1, .gdc _ _, _, h, _ => by cases h
  | 0, .adr _, _, h, _ => by cases h
  | _ + 1, .adr _, _, h, _ => by cases h
theorem dps_of (hs : Same F H) : ∀ (n : Nat) (ds : List D) (vs : List V), okds n ds = true → Reps K w F ds vs → DpAll K H vs (toPys ds) ∧ PyData.canLayAll0 (toPys ds) = true ∧ PyData.depthAll (toPys ds) ≤ n
  | n, [], vs, _, r => by
    obtain rfl : vs = [] := r
    exact ⟨.nil, rfl, Nat.zero_le _⟩
  | n, d :: ds, vs, h, ⟨v, r, hv, h1, h2⟩ => by
    have h' : okd n d = true ∧ okds n ds = true := by simpa [okds] using h
    obtain ⟨a1, a2, a3⟩ := dp_of hs n d v h'.1 h1
    obtain ⟨b1, b2, b3⟩ := dps_of hs n ds r h'.2 h2
    subst hv
    refine ⟨.cons a1 b1, ?_, ?_⟩
    · show PyData.canLayAll0 (toPy d :: toPys ds) = true
      rw [PyData.canLayAll0, a2, b2]; rfl
    · show PyData.depthAll (toPy d :: toPys ds) ≤ n
      rw [PyData.depthAll]; exact Nat.max_le.mpr ⟨a3, b3⟩
end
theorem shaped_of {d : D} (h1 : (toPy d).canLay0 = true) (h2 : (toPy d).depth ≤ 60) : SeqAt.shaped (toPy d) = true := by
  unfold SeqAt.shaped
  rw [h1]
  exact decide_eq_true (Nat.le_trans h2 (by decide))
mutual
theorem eqv_deq : ∀ (n m : Nat) (a b : D), okd n a = true → okd m b = true → PyData.eqv (toPy a) (toPy b) = deq a b
  | n, m, .non, b, ha, hb => by cases b <;> first | rfl | (cases m <;> cases hb)
  | n, m, .bl _, b, ha, hb => by cases b <;> first | rfl | (cases m <;> cases hb)
  | n, m, .int _, b, ha, hb => by cases b <;> first | rfl | (cases m <;> cases hb)
  | n, m, .str x, b, ha, hb => by
    cases b with
    | str y =>
      show (tx x == tx y) = (x == y)
      by_cases e : x = y
      · subst e; simp
      · have : ¬ tx x = tx y := fun h => e (tx_inj.mp h)
        rw [beq_eq_false_iff_ne.mpr this, beq_eq_false_iff_ne.mpr e]
    | dic _ _ => cases m <;> cases hb
    | scr _ => cases m <;> cases hb
    | gdc _ _ => cases m <;> cases hb
    | adr _ => cases m <;> cases hb
    | _ => rfl
  | 0, m, .tup _, b, ha, hb => by cases ha
  | 0, m, .lst _, b, ha, hb => by cases ha
  | n + 1, m, .tup xs, b, ha, hb => by
    cases b with
    | tup ys =>
      cases m with
      | zero => cases hb
      | succ m =>
        show PyData.eqvAll (toPys xs) (toPys ys) = deqs xs ys
        exact eqvs_deqs n m xs ys ha hb
    | dic _ _ => cases m <;> cases hb
    | scr _ => cases m <;> cases hb
    | gdc _ _ => cases m <;> cases hb
    | adr _ => cases m <;> cases hb
    | _ => rfl
  | n + 1, m, .lst xs, b, ha, hb => by
    cases b with
    | lst ys =>
      cases m with
      | zero => cases hb
      | succ m =>
        show PyData.eqvAll (toPys xs) (toPys ys) = deqs xs ys
        exact eqvs_deqs n m xs ys ha hb
    | dic _ _ => cases m <;> cases hb
    | scr _ => cases m <;> cases hb
    | gdc _ _ => cases m <;> cases hb
    | adr _ => cases m <;> cases hb
    | _ => rfl
  | 0, m, .dic _ _, _, h, _ => by cases h
  | _ + 1, m, .dic _ _, _, h, _ => by cases h
  | 0, m, .scr _, _, h, _ => by cases h
  | _ + 1, m, .scr _, _, h, _ => by cases h
  | 0, m, .gdc _ _, _, h, _ => by cases h
  | _ + 1, m, .gdc _ _, _, h, _ => by cases h
  | 0, m, .adr _, _, h, _ => by cases h
  | _ + 1, m, .adr _, _, h, _ => by cases h
theorem eqvs_deqs : ∀ (n m : Nat) (a b : List D), okds n a = true → okds m b = true → PyData.eqvAll (toPys a) (toPys b) = deqs a b
  | n, m, [], [], _, _ => rfl
  | n, m, [], _ :: _, _, _ => rfl
  | n, m, _ :: _, [], _, _ => rfl
  | n, m, x :: xs, y :: ys, ha, hb => by
    have h1 : okd n x = true ∧ okds n xs = true := by simpa [okds] using ha
    have h2 : okd m y = true ∧ okds m ys = true := by simpa [okds] using hb
    show (PyData.eqv (toPy x) (toPy y) && PyData.eqvAll (toPys xs) (toPys ys)) = (deq x y && deqs xs ys)
    rw [eqv_deq n m x y h1.1 h2.1, eqvs_deqs n m xs ys h1.2 h2.2]
end
end

/-! ### two-place operators -/
def rd2 (K : PySem.W.Frag) (w : World) (f : D → D → R D) : R2 := fun x y H Q => ∃ F d e, Same F H ∧ Rep K w F d x ∧ Rep K w F e y ∧ fin0 K w (f d e) F H Q
def opOf : B2 → Operator
  | .add => .Add
  | .sub => .Sub
  | .mul => .Mult
  | .fdiv => .FloorDiv
  | .mod => .Mod
section
variable {X : Cx}
theorem fit_fin {K : PySem.W.Frag} {w : World} {n : Nat} {d : D} {F H : Hp} {Q : VK} {Xc : Nat → Hp → Prop} (h : fin K w (fit n d) F H Q Xc) : n ≤ lim ∧ fin K w (.ok d) F H Q Xc := by
  unfold fit at h
  split at h
  · exact ⟨by assumption, h⟩
  · exact False.elim h
theorem ite_fin {K : PySem.W.Frag} {w : World} {c : Prop} [Decidable c] {r : R D} {F H : Hp} {Q : VK} {Xc : Nat → Hp → Prop} (h : fin K w (if c then r else .no) F H Q Xc) : c ∧ fin K w r F H Q Xc := by
  split at h
  · exact ⟨by assumption, h⟩
  · exact False.elim h
theorem ref_tup {K : PySem.W.Frag} {w : World} {F : Hp} {a : Addr} {vs : List V} {ds : List D} (h1 : SqX K F a vs) (h2 : Reps K w F ds vs) : Rep K w F (.tup ds) (.ref a) := ⟨a, vs, rfl, h1, h2⟩
theorem op_mul_str01 : OpR X (binaryOp .Mult) (fun x y H Q => ∃ (a : Str) (k : Int), x = .str a ∧ y = .int k ∧ ((k = 0 ∧ Q (.str Str.empty) H) ∨ (k = 1 ∧ Q (.str a) H))) := by
  intro pins s σ H x y v u Q I rx ry h
  obtain ⟨a, k, rfl, rfl, q⟩ := h
  obtain ⟨t, rfl⟩ := rx
  obtain ⟨t2, rfl⟩ := ry
  rcases q with ⟨rfl, q⟩ | ⟨rfl, q⟩
  · refine PySem.SB.mul ⟨by decide, fun z => absurd (by decide) z, fun z => absurd (by decide) z⟩ fun t' tk => ?_
    exact ⟨.str Str.empty, H, I.tok _, ⟨t', rfl⟩, q⟩
  · refine PySem.SB.mul ⟨by decide, fun _ z => by simp at z, fun _ z => by simp at z⟩ fun t' tk => ?_
    have e : Txt.mul a 1 = a := by
      unfold Txt.mul
      rw [if_neg (by decide), if_pos (by simp)]
    rw [e]
    exact ⟨.str a, H, I.tok _, ⟨t', rfl⟩, q⟩
set_option maxHeartbeats 1000000 in
theorem op_bop (o : B2) : OpR X (binaryOp (opOf o)) (rd2 X.K X.w (bop o)) := by
  intro pins s σ H x y v u Q I rx ry h
  obtain ⟨F, d, e, hs, hd, he, q⟩ := h
  cases o with
  | add =>
    cases d with
    | int a =>
      cases e with
      | int b =>
        obtain rfl : x = .int a := hd
        obtain rfl : y = .int b := he
        exact op_add pins s σ H _ _ v u Q I rx ry ⟨a, b, rfl, rfl, fin_ok q hs rfl⟩
      | _ => exact False.elim q
    | str a =>
      cases e with
      | str b =>
        obtain ⟨rfl, oa⟩ := hd
        obtain ⟨rfl, ob⟩ := he
        obtain ⟨hn, q⟩ := fit_fin (show fin _ _ (fit _ _) F H Q _ from q)
        refine op_add_str pins s σ H _ _ v u Q I rx ry ⟨_, _, rfl, rfl, by rw [tx_len, tx_len, ← lim_eq]; exact hn, ?_⟩
        rw [tx_app]
        exact fin_ok q hs ⟨rfl, okc_app oa ob⟩
      | _ => exact False.elim q
    | tup a =>
      cases e with
      | tup b =>
        obtain ⟨a1, vs, rfl, h1, h2⟩ := hd
        obtain ⟨a2, us, rfl, h3, h4⟩ := he
        obtain ⟨hn, q⟩ := fit_fin (show fin _ _ (fit _ _) F H Q _ from q)
        refine op_catX pins s σ H _ _ v u Q I rx ry ⟨a1, a2, vs, us, rfl, rfl, Same.tup hs h1, Same.tup hs h3, by rw [← h2.length, ← h4.length, ← lim_eq]; exact hn, fun e => ?_, fun _ e => ?_, fun _ _ => ?_⟩
        · subst e
          have : a = [] := List.length_eq_zero_iff.mp h2.length
          subst this
          exact fin_ok q hs (ref_tup h3 h4)
        · subst e
          have : b = [] := List.length_eq_zero_iff.mp h4.length
          subst this
          exact fin_ok q hs (by rw [List.append_nil]; exact ref_tup h1 h2)
        · exact fin_tup q hs (h2.append h4)
      | _ => exact False.elim q
    | lst a =>
      cases e with
      | lst b =>
        obtain ⟨a1, vs, rfl, h1, h2⟩ := hd
        obtain ⟨a2, us, rfl, h3, h4⟩ := he
        obtain ⟨hn, q⟩ := fit_fin (show fin _ _ (fit _ _) F H Q _ from q)
        exact op_cat pins s σ H _ _ v u Q I rx ry ⟨a1, a2, vs, us, rfl, rfl, hs _ _ h1, hs _ _ h3, by rw [← h2.length, ← h4.length, ← lim_eq]; exact hn, fun p hp => fin_lst q hs (h2.append h4) p hp⟩
      | _ => exact False.elim q
    | _ => cases e <;> exact False.elim q
  | sub =>
    cases d with
    | int a =>
      cases e with
      | int b =>
        obtain rfl : x = .int a := hd
        obtain rfl : y = .int b := he
        exact op_sub pins s σ H _ _ v u Q I rx ry ⟨a, b, rfl, rfl, fin_ok q hs rfl⟩
      | _ => exact False.elim q
    | _ => cases e <;> exact False.elim q
  | mul =>
    cases d with
    | str a =>
      cases e with
      | int k =>
        obtain ⟨rfl, oa⟩ := hd
        obtain rfl : y = .int k := he
        have q' : fin _ _ (if k = 0 then R.ok (D.str []) else if k = 1 then R.ok (.str a) else .no) F H Q _ := q
        by_cases h0 : k = 0
        · rw [if_pos h0] at q'
          exact op_mul_str01 pins s σ H _ _ v u Q I rx ry ⟨_, k, rfl, rfl, .inl ⟨h0, fin_ok q' hs ⟨rfl, rfl⟩⟩⟩
        · rw [if_neg h0] at q'
          obtain ⟨h1, q'⟩ := ite_fin q'
          exact op_mul_str01 pins s σ H _ _ v u Q I rx ry ⟨_, k, rfl, rfl, .inr ⟨h1, fin_ok q' hs ⟨rfl, oa⟩⟩⟩
      | _ => exact False.elim q
    | int a =>
      cases e with
      | int b =>
        obtain rfl : x = .int a := hd
        obtain rfl : y = .int b := he
        obtain ⟨c, q⟩ := ite_fin (show fin _ _ (if _ then _ else _) F H Q _ from q)
        refine op_mul pins s σ H _ _ v u Q I rx ry ⟨a, b, rfl, rfl, ?_, fin_ok q hs rfl⟩
        simp only [Bool.or_eq_true, decide_eq_true_eq] at c
        rcases c with c | c
        · exact .inl ⟨by omega, by omega⟩
        · exact .inr ⟨by omega, by omega⟩
      | _ => exact False.elim q
    | tup a =>
      cases e with
      | int k =>
        obtain ⟨a1, vs, rfl, h1, h2⟩ := hd
        obtain rfl : y = .int k := he
        obtain ⟨c, q⟩ := ite_fin (show fin _ _ (if _ then _ else _) F H Q _ from q)
        simp only [Bool.and_eq_true, decide_eq_true_eq, Bool.not_eq_true', List.isEmpty_eq_false_iff] at c
        obtain ⟨⟨⟨c1, c2⟩, c3⟩, c4⟩ := c
        have hl := h2.length
        refine op_repX pins s σ H _ _ v u Q I rx ry ⟨a1, k, vs, rfl, rfl, Same.tup hs h1, ?_, c2, c3, by omega, fin_tup q hs (h2.rep k.toNat)⟩
        intro e
        subst e
        exact c4 (List.length_eq_zero_iff.mp hl)
      | _ => exact False.elim q
    | lst a =>
      cases e with
      | int k =>
        obtain ⟨a1, vs, rfl, h1, h2⟩ := hd
        obtain rfl : y = .int k := he
        obtain ⟨c, q⟩ := ite_fin (show fin _ _ (if _ then _ else _) F H Q _ from q)
        simp only [Bool.and_eq_true, decide_eq_true_eq] at c
        obtain ⟨hn, q⟩ := fit_fin q
        exact op_rep pins s σ H _ _ v u Q I rx ry ⟨a1, k, vs, rfl, rfl, hs _ _ h1, by omega, by omega, by rw [← h2.length, ← lim_eq]; exact hn, fun p hp => fin_lst q hs (h2.rep k.toNat) p hp⟩
      | _ => exact False.elim q
    | _ => cases e <;> exact False.elim q
  | fdiv =>
    cases d with
    | int a =>
      cases e with
      | int b =>
        obtain rfl : x = .int a := hd
        obtain rfl : y = .int b := he
        obtain ⟨c, q⟩ := ite_fin (show fin _ _ (if _ then _ else _) F H Q _ from q)
        simp only [Bool.and_eq_true, decide_eq_true_eq] at c
        exact op_fdiv pins s σ H _ _ v u Q I rx ry ⟨a, b, rfl, rfl, c, fin_ok q hs rfl⟩
      | _ => exact False.elim q
    | _ => cases e <;> exact False.elim q
  | mod =>
    cases d with
    | int a =>
      cases e with
      | int b =>
        obtain rfl : x = .int a := hd
        obtain rfl : y = .int b := he
        obtain ⟨c, q⟩ := ite_fin (show fin _ _ (if _ then _ else _) F H Q _ from q)
        exact op_mod pins s σ H _ _ v u Q I rx ry ⟨a, b, rfl, rfl, c, fin_ok q hs rfl⟩
      | _ => exact False.elim q
    | _ => cases e <;> exact False.elim q
end
end Ev

/-! Comparisons, by plain data. -/
namespace Ev
open PySem L2

theorem R.bind_eq_ok {A B : Type} {x : R A} {f : A → R B} {b : B} (h : R.bind x f = .ok b) : ∃ a, x = .ok a ∧ f a = .ok b := by
  cases x with
  | ok a => exact ⟨a, rfl, h⟩
  | ex c => cases h
  | no => cases h

/-! ### dicts -/
theorem toPys_map : ∀ ds : List D, toPys ds = ds.map toPy
  | [] => rfl
  | d :: ds => by rw [toPys, toPys_map ds]; rfl
section
variable {K : PySem.W.Frag} {w : World} {F H : Hp}
theorem mem_kyK {k : Ky} {ks : List Ky} : kyK k ∈ ks.map kyK ↔ k ∈ ks := by
  constructor
  · intro h
    obtain ⟨x, hx, e⟩ := List.mem_map.mp h
    rw [← kyK_inj e]; exact hx
  · exact List.mem_map_of_mem
theorem valV_some_iff {k : Key} : ∀ {kvs : List (Key × V)}, (valV kvs k).isSome = true ↔ k ∈ kvs.map (Prod.fst : Key × V → Key)
  | [] => by simp [valV]
  | p :: r => by
    by_cases e : p.1 = k
    · rw [valV_pos e, List.map_cons]; simp [e]
    · rw [valV_neg e, valV_some_iff, List.map_cons, List.mem_cons]
      exact ⟨.inr, fun h => h.resolve_left fun z => e z.symm⟩
theorem kyAt_val : ∀ {ks : List Ky} {kvs : List (Key × V)} {k : Ky}, kvs.map (·.1) = ks.map kyK → valV kvs (kyK k) = (kyAt k ks).bind fun i => (kvs.map (·.2))[i]?
  | [], [], _, _ => rfl
  | [], _ :: _, _, h => by simp at h
  | _ :: _, [], _, h => by simp at h
  | x :: ks, p :: kvs, k, h => by
    simp only [List.map_cons, List.cons.injEq] at h
    by_cases e : x = k
    · subst e
      rw [valV_pos h.1, kyAt, if_pos rfl]; rfl
    · have ne : ¬ p.1 = kyK k := fun z => e (kyK_inj (h.1.symm.trans z))
      rw [valV_neg ne, kyAt, if_neg e, kyAt_val h.2]
      cases kyAt k ks <;> rfl
/-- the key that a value is -/
theorem ky_of {d : D} {v : V} {k : Ky} (h : kyOf d = some k) (r : Rep K w F d v) : v = kV (kyK k) := by
  cases d with
  | int i => cases h; exact r
  | str l => cases h; exact r.1
  | _ => cases h
theorem txAt_some : ∀ {ks : List (List Nat)} {l : List Nat} {i : Nat}, txAt l ks = some i → ks[i]? = some l
  | [], _, _, h => by cases h
  | x :: ks, l, i, h => by
    unfold txAt at h
    split at h
    · rename_i e; cases h; rw [e]; rfl
    · obtain ⟨j, hj, rfl⟩ := Option.map_eq_some_iff.mp h
      rw [List.getElem?_cons_succ]; exact txAt_some hj
theorem any_toPy (n m : Nat) {d : D} (hd : okd n d = true) : ∀ {xs : List D}, okds m xs = true → (xs.map toPy).any (fun z => PyData.eqv z (toPy d)) = xs.any fun z => deq z d
  | [], _ => rfl
  | x :: xs, h => by
    have h' : okd m x = true ∧ okds m xs = true := by simpa [okds] using h
    rw [List.map_cons, List.any_cons, List.any_cons, eqv_deq m n x d h'.1 hd, any_toPy n m hd h'.2]
end

theorem ints_dp {K : PySem.W.Frag} {H : Hp} : ∀ ns : List Int, DpAll K H (ns.map V.int) (ns.map PyData.int)
  | [] => .nil
  | n :: r => .cons (.int n) (ints_dp r)
theorem ints_lay : ∀ ns : List Int, PyData.canLayAll0 (ns.map PyData.int) = true
  | [] => rfl
  | n :: r => by rw [List.map_cons, PyData.canLayAll0, ints_lay r]; rfl
theorem ints_depth : ∀ ns : List Int, PyData.depthAll (ns.map PyData.int) = 0
  | [] => rfl
  | n :: r => by rw [List.map_cons, PyData.depthAll, ints_depth r]; rfl
theorem ints_shaped (ns : List Int) : SeqAt.shaped (.list (ns.map PyData.int)) = true := by
  unfold SeqAt.shaped
  rw [PyData.canLay0, ints_lay, PyData.depth, ints_depth]; rfl

/-! ### the rule -/
def rdc (K : PySem.W.Frag) (w : World) (f : D → D → R Bool) : R2 := fun x y H Q => ∃ F d e, Same F H ∧ Rep K w F d x ∧ Rep K w F e y ∧ ∃ b, f d e = .ok b ∧ Q (.bl b) H
def cOf : C2 → CmpOp
  | .eq => .Eq
  | .ne => .NotEq
  | .lt => .Lt
  | .le => .LtE
  | .gt => .Gt
  | .ge => .GtE
  | .isin => .In
  | .notin => .NotIn
  | .is_ => .Is
  | .isnot => .IsNot
section
variable {X : Cx} {pins : List (Addr × Obj)} {σ : L2.St} {H : Hp} {s : Shared}

/-- == of data, one Bool behind it -/
theorem eq_core (hu : X.A.units + 65 < cLine) {F : Hp} {d e : D} {x y : V} {v u : Value} {b : Bool} {Q : VK} (I : L2.Inv X pins σ H s) (rx : RelV x v) (ry : RelV y u) (hs : Same F H) (hd : Rep X.K X.w F d x) (he : Rep X.K X.w F e y)
    (h : deqR d e = .ok b) : (Q (.bl b) H → wpAny (model X.prog X.w) X.A (compareOp .Eq v u) (L2.EP X pins σ Q) X.xe s) ∧ (Q (.bl (!b)) H → wpAny (model X.prog X.w) X.A (compareOp .NotEq v u) (L2.EP X pins σ Q) X.xe s) := by
  have plain : (if okd deep d && okd deep e then R.ok (deq d e) else R.no) = .ok b → (Q (.bl b) H → wpAny (model X.prog X.w) X.A (compareOp .Eq v u) (L2.EP X pins σ Q) X.xe s) ∧ (Q (.bl (!b)) H → wpAny (model X.prog X.w) X.A (compareOp .NotEq v u) (L2.EP X pins σ Q) X.xe s) := fun h => by
    split at h
    · rename_i c
      cases h
      rw [Bool.and_eq_true] at c
      obtain ⟨a1, a2, a3⟩ := dp_of hs deep d x c.1 hd
      obtain ⟨b1, b2, b3⟩ := dp_of hs deep e y c.2 he
      have ee := eqv_deq deep deep d e c.1 c.2
      exact ⟨fun q => op_eqD (by omega) pins s σ H x y v u Q I rx ry ⟨_, _, a1, b1, shaped_of a2 a3, shaped_of b2 b3, by rw [ee]; exact q⟩,
        fun q => op_neD (by omega) pins s σ H x y v u Q I rx ry ⟨_, _, a1, b1, shaped_of a2 a3, shaped_of b2 b3, by rw [ee]; exact q⟩⟩
    · cases h
  have scr : ∀ (ns : List Int), d = .scr ns → e = .lst [] → b = ns.isEmpty → (Q (.bl b) H → wpAny (model X.prog X.w) X.A (compareOp .Eq v u) (L2.EP X pins σ Q) X.xe s) ∧ (Q (.bl (!b)) H → wpAny (model X.prog X.w) X.A (compareOp .NotEq v u) (L2.EP X pins σ Q) X.xe s) := fun ns h1 h2 h3 => by
    subst h1 h2
    obtain ⟨a, rfl, hq⟩ := hd
    obtain ⟨a2, vs, rfl, hq2, hr⟩ := he
    obtain rfl : vs = [] := hr
    have p1 : Dp X.K H (.ref a) (.list (ns.map PyData.int)) := .lst (hs.seq hq) (ints_dp ns)
    have p2 : Dp X.K H (.ref a2) (.list []) := .lst (SqL.of (hs _ _ hq2)) .nil
    have s1 : SeqAt.shaped (.list (ns.map PyData.int)) = true := ints_shaped ns
    have ee : PyData.eqv (.list (ns.map PyData.int)) (.list []) = b := by
      rw [h3]; cases ns <;> rfl
    exact ⟨fun q => op_eqD (by omega) pins s σ H _ _ v u Q I rx ry ⟨_, _, p1, p2, s1, rfl, by rw [ee]; exact q⟩,
      fun q => op_neD (by omega) pins s σ H _ _ v u Q I rx ry ⟨_, _, p1, p2, s1, rfl, by rw [ee]; exact q⟩⟩
  unfold deqR at h
  split at h
  · cases h; exact scr _ rfl rfl rfl
  · cases h
  · cases h
  · exact plain h
/-- in -/
theorem in_core (hu : X.A.units + 65 < cLine) {F : Hp} {d e : D} {x y : V} {v u : Value} {b : Bool} {Q : VK} (I : L2.Inv X pins σ H s) (rx : RelV x v) (ry : RelV y u) (hs : Same F H) (hd : Rep X.K X.w F d x) (he : Rep X.K X.w F e y)
    (h : isIn d e = .ok b) : (Q (.bl b) H → wpAny (model X.prog X.w) X.A (compareOp .In v u) (L2.EP X pins σ Q) X.xe s) ∧ (Q (.bl (!b)) H → wpAny (model X.prog X.w) X.A (compareOp .NotIn v u) (L2.EP X pins σ Q) X.xe s) := by
  unfold isIn at h
  split at h
  · rename_i xs
    unfold anyR at h
    split at h
    · rename_i c
      cases h
      rw [Bool.and_eq_true] at c
      obtain ⟨a1, a2, a3⟩ := dp_of hs deep _ x c.1 hd
      obtain ⟨b1, b2, b3⟩ := dp_of hs (deep + 1) (.lst xs) y c.2 he
      have ee := any_toPy deep deep c.1 c.2
      obtain ⟨as, r1⟩ := Dp.reads I _ x v a1 rx
      obtain ⟨bs, r2⟩ := Dp.reads I _ y u b1 ry
      have b2' : PyData.canLayAll0 (toPys xs) = true := by
        have : PyData.canLay0 (.list (toPys xs)) = true := b2
        rwa [PyData.canLay0] at this
      have rm : X.A.units + 1 + min (PyData.depthAll (toPys xs)) (PyData.depth (toPy d)) < cLine := by
        have := Nat.min_le_right (PyData.depthAll (toPys xs)) (PyData.depth (toPy d))
        have a3' : PyData.depth (toPy d) ≤ 60 := a3
        omega
      rw [← toPys_map] at ee
      exact ⟨fun q => SeqAt.in_list_reads (show Reads s.heap u (.list (toPys xs)) bs from r2) r1 b2' a2 rm ⟨.bl _, H, I, rfl, by rw [ee]; exact q⟩,
        fun q => SeqAt.notIn_list_reads (show Reads s.heap u (.list (toPys xs)) bs from r2) r1 b2' a2 rm ⟨.bl _, H, I, rfl, by rw [ee]; exact q⟩⟩
    · cases h
  · rename_i xs
    unfold anyR at h
    split at h
    · rename_i c
      cases h
      rw [Bool.and_eq_true] at c
      obtain ⟨a1, a2, a3⟩ := dp_of hs deep _ x c.1 hd
      obtain ⟨b1, b2, b3⟩ := dp_of hs (deep + 1) (.tup xs) y c.2 he
      have ee := any_toPy deep deep c.1 c.2
      obtain ⟨as, r1⟩ := Dp.reads I _ x v a1 rx
      obtain ⟨bs, r2⟩ := Dp.reads I _ y u b1 ry
      have b2' : PyData.canLayAll0 (toPys xs) = true := by
        have : PyData.canLay0 (.tuple (toPys xs)) = true := b2
        rwa [PyData.canLay0] at this
      have rm : X.A.units + 1 + min (PyData.depthAll (toPys xs)) (PyData.depth (toPy d)) < cLine := by
        have := Nat.min_le_right (PyData.depthAll (toPys xs)) (PyData.depth (toPy d))
        have a3' : PyData.depth (toPy d) ≤ 60 := a3
        omega
      rw [← toPys_map] at ee
      exact ⟨fun q => SeqAt.in_tuple_reads (show Reads s.heap u (.tuple (toPys xs)) bs from r2) r1 b2' a2 rm ⟨.bl _, H, I, rfl, by rw [ee]; exact q⟩,
        fun q => SeqAt.notIn_tuple_reads (show Reads s.heap u (.tuple (toPys xs)) bs from r2) r1 b2' a2 rm ⟨.bl _, H, I, rfl, by rw [ee]; exact q⟩⟩
    · cases h
  · rename_i c l
    cases h
    obtain ⟨rfl, _⟩ := hd
    obtain ⟨rfl, _⟩ := he
    exact ⟨fun q => op_in_sign pins s σ H _ _ v u Q I rx ry ⟨c, tx l, rfl, rfl, q⟩, fun q => op_notIn_sign pins s σ H _ _ v u Q I rx ry ⟨c, tx l, rfl, rfl, q⟩⟩
  · rename_i ks vs
    split at h
    · rename_i k hk
      cases h
      obtain ⟨a, kvs, rfl, hF, hkk, hnd, hr⟩ := he
      obtain rfl := ky_of hk hd
      cases ry
      have g : DGet H a (kV (kyK k)) (valV kvs (kyK k)) := DGet.k (hs _ _ hF)
      have ee : (valV kvs (kyK k)).isSome = decide (k ∈ ks) := by
        rw [Bool.eq_iff_iff, decide_eq_true_iff]
        refine valV_some_iff.trans ?_
        rw [show kvs.map (Prod.fst : Key × V → Key) = ks.map kyK from hkk]
        exact mem_kyK
      exact ⟨fun q => d_in (by omega) I g rx fun s3 I3 => ⟨.bl _, H, I3, rfl, by rw [ee]; exact q⟩, fun q => d_notIn (by omega) I g rx fun s3 I3 => ⟨.bl _, H, I3, rfl, by rw [ee]; exact q⟩⟩
    · cases h
  · rename_i l ks vs
    cases h
    obtain ⟨rfl, _⟩ := hd
    obtain ⟨a, es, n, us, rfl, hk, hr, hl, hno, hyes⟩ := he
    by_cases hm : l ∈ ks
    · obtain ⟨i, hi, e⟩ := List.mem_iff_getElem.mp hm
      obtain ⟨z, hz⟩ : ∃ z, us[i]? = some z := ⟨us[i]'(by omega), List.getElem?_eq_getElem (by omega)⟩
      obtain ⟨u0, h1, h2⟩ := hyes i l z (by rw [List.getElem?_eq_getElem hi, e]) hz
      rw [decide_eq_true hm]
      exact ⟨fun q => op_in_kd hk pins s σ H _ _ v u Q I rx ry ⟨_, _, rfl, rfl, h1, q⟩, fun q => op_notIn_kd hk pins s σ H _ _ v u Q I rx ry ⟨_, _, rfl, rfl, h1, q⟩⟩
    · rw [decide_eq_false hm]
      exact ⟨fun q => op_in_kd hk pins s σ H _ _ v u Q I rx ry ⟨_, _, rfl, rfl, hno l hm, q⟩, fun q => op_notIn_kd hk pins s σ H _ _ v u Q I rx ry ⟨_, _, rfl, rfl, hno l hm, q⟩⟩
  · cases h
end
section
variable {X : Cx}
theorem not_non {K : PySem.W.Frag} {w : World} {F : Hp} {d : D} {x : V} (r : Rep K w F d x) (h : d ≠ .non) : x ≠ .non := by
  intro e
  subst e
  cases d with
  | non => exact h rfl
  | bl b => cases (show V.non = .bl b from r)
  | int i => cases (show V.non = .int i from r)
  | str l => cases r.1
  | tup ds => obtain ⟨a, _, e, _⟩ := r; cases e
  | lst ds => obtain ⟨a, _, e, _⟩ := r; cases e
  | dic ks ds => obtain ⟨a, _, e, _⟩ := r; cases e
  | scr ns => obtain ⟨a, e, _⟩ := r; cases e
  | gdc ks ds => obtain ⟨a, _, _, _, e, _⟩ := r; cases e
  | adr a => cases r
set_option maxHeartbeats 1000000 in
theorem op_cop (o : C2) (hu : X.A.units + 65 < cLine) : OpR X (compareOp (cOf o)) (rdc X.K X.w (cop o)) := by
  intro pins s σ H x y v u Q I rx ry h
  obtain ⟨F, d, e, hs, hd, he, b, hb, q⟩ := h
  cases o with
  | eq => exact (eq_core hu I rx ry hs hd he hb).1 q
  | ne =>
    obtain ⟨z, h1, h2⟩ := R.bind_eq_ok (show R.bind (deqR d e) _ = .ok b from hb)
    cases h2
    exact (eq_core hu I rx ry hs hd he h1).2 q
  | isin => exact (in_core hu I rx ry hs hd he hb).1 q
  | notin =>
    obtain ⟨z, h1, h2⟩ := R.bind_eq_ok (show R.bind (isIn d e) _ = .ok b from hb)
    cases h2
    exact (in_core hu I rx ry hs hd he h1).2 q
  | lt =>
    cases d <;> cases e <;> first | cases hb | skip
    · obtain rfl := hd; obtain rfl := he
      exact op_lt pins s σ H _ _ v u Q I rx ry ⟨_, _, rfl, rfl, q⟩
    · obtain ⟨rfl, _⟩ := hd; obtain ⟨rfl, _⟩ := he
      exact op_lt_str pins s σ H _ _ v u Q I rx ry ⟨_, _, rfl, rfl, q⟩
  | le =>
    cases d <;> cases e <;> first | cases hb | skip
    · obtain rfl := hd; obtain rfl := he
      exact op_le pins s σ H _ _ v u Q I rx ry ⟨_, _, rfl, rfl, q⟩
    · obtain ⟨rfl, _⟩ := hd; obtain ⟨rfl, _⟩ := he
      exact op_le_str pins s σ H _ _ v u Q I rx ry ⟨_, _, rfl, rfl, q⟩
  | gt =>
    cases d <;> cases e <;> first | cases hb | skip
    · obtain rfl := hd; obtain rfl := he
      exact op_gt pins s σ H _ _ v u Q I rx ry ⟨_, _, rfl, rfl, q⟩
    · obtain ⟨rfl, _⟩ := hd; obtain ⟨rfl, _⟩ := he
      exact op_gt_str pins s σ H _ _ v u Q I rx ry ⟨_, _, rfl, rfl, q⟩
  | ge =>
    cases d <;> cases e <;> first | cases hb | skip
    · obtain rfl := hd; obtain rfl := he
      exact op_ge pins s σ H _ _ v u Q I rx ry ⟨_, _, rfl, rfl, q⟩
    · obtain ⟨rfl, _⟩ := hd; obtain ⟨rfl, _⟩ := he
      exact op_ge_str pins s σ H _ _ v u Q I rx ry ⟨_, _, rfl, rfl, q⟩
  | is_ =>
    cases e with
    | non =>
      obtain rfl : y = .non := he
      by_cases hn : d = .non
      · subst hn
        obtain rfl : x = .non := hd
        cases hb
        exact op_isN pins s σ H _ _ v u Q I rx ry ⟨rfl, q⟩
      · have hx := not_non hd hn
        have : b = false := by
          cases d <;> first | exact absurd rfl hn | (cases hb; rfl)
        subst this
        exact op_isN pins s σ H _ _ v u Q I rx ry ⟨rfl, by rw [decide_eq_false hx]; exact q⟩
    | bl k =>
      obtain rfl : y = .bl k := he
      cases d with
      | non =>
        obtain rfl : x = .non := hd
        cases hb
        cases rx
        cases ry
        exact wpAny_is_other rfl (fun z => nomatch z) ⟨.bl false, H, I, rfl, q⟩
      | bl a =>
        obtain rfl : x = .bl a := hd
        cases hb
        refine op_isBl pins s σ H _ _ v u Q I rx ry ⟨a, k, rfl, rfl, ?_⟩
        have e : decide (a = k) = (a == k) := by cases a <;> cases k <;> rfl
        rw [e]
        exact q
      | _ => cases hb
    | _ => cases d <;> cases hb
  | isnot =>
    cases e with
    | non =>
      obtain rfl : y = .non := he
      by_cases hn : d = .non
      · subst hn
        obtain rfl : x = .non := hd
        cases hb
        exact op_notN pins s σ H _ _ v u Q I rx ry ⟨rfl, q⟩
      · have hx := not_non hd hn
        have : b = true := by
          cases d <;> first | exact absurd rfl hn | (cases hb; rfl)
        subst this
        exact op_notN pins s σ H _ _ v u Q I rx ry ⟨rfl, by rw [decide_eq_false hx]; exact q⟩
    | bl k =>
      obtain rfl : y = .bl k := he
      cases d with
      | int i =>
        obtain rfl : x = .int i := hd
        cases hb
        obtain ⟨t, rfl⟩ := rx
        cases ry
        exact wpAny_isNot_other rfl (fun z => nomatch z) ⟨.bl true, H, I, rfl, q⟩
      | bl a =>
        obtain rfl : x = .bl a := hd
        cases hb
        refine op_notBl pins s σ H _ _ v u Q I rx ry ⟨a, k, rfl, rfl, ?_⟩
        have e : decide (a = k) = (a == k) := by cases a <;> cases k <;> rfl
        rw [e]
        exact q
      | _ => cases hb
    | _ => cases d <;> cases hb
end
end Ev

/-! Subscripts, slices, built-in functions, by plain data. -/
namespace Ev
open PySem L2 PyProof.Rows

theorem place_ixN (n : Nat) (i : Int) : place n i = ixN n i := rfl
theorem sIx_ht (n d : Nat) (o : Option Int) : sIx n d o = HT.sIx n d o := by cases o <;> rfl

section
variable {K : PySem.W.Frag} {w : World} {F H : Hp}
theorem okc_one {l : List Nat} {c : Nat} {j : Nat} (h : okc l = true) (e : l[j]? = some c) : okc [c] = true := okc_sub h fun x hx => by
  rw [List.mem_singleton] at hx; rw [hx]; exact List.mem_of_getElem? e
theorem okc_cut {l : List Nat} {lo hi : Option Int} (h : okc l = true) : okc (cut l lo hi) = true := okc_sub h fun x hx => by
  unfold cut at hx
  exact List.mem_of_mem_drop (List.mem_of_mem_take hx)
theorem Reps.cut {ds : List D} {vs : List V} (lo hi : Option Int) (h : Reps K w F ds vs) : Reps K w F (cut ds lo hi) (cutV vs lo hi) := by
  unfold Ev.cut cutV
  rw [← h.length]
  simp only [sIx_ht]
  exact (h.drop _).take _
end

section
variable {X : Cx}
/-- o[i] -/
theorem ix_idx (hu : X.A.units + 65 < cLine) : IxR X (rd2 X.K X.w idx) := by
  intro value slice pins s σ H x y v u Q I rx ry h hsl
  obtain ⟨F, d, e, hs, hd, he, q⟩ := h
  unfold idx at q
  split at q
  · rename_i xs i
    split at q
    · rename_i d' hd'
      obtain ⟨a, vs, rfl, h1, h2⟩ := hd
      obtain rfl : y = .int i := he
      obtain ⟨j, hj, hx⟩ := Option.bind_eq_some_iff.mp hd'
      obtain ⟨z, hz, rz⟩ := h2.get hx
      exact ix_tup value slice pins s σ H _ _ v u Q I rx ry ⟨a, vs, i, z, rfl, rfl, Same.tup hs h1, by unfold atI; rw [← h2.length, ← place_ixN, hj]; exact hz, fin_ok q hs rz⟩ hsl
    · exact False.elim q
  · rename_i xs i
    split at q
    · rename_i d' hd'
      obtain ⟨a, vs, rfl, h1, h2⟩ := hd
      obtain rfl : y = .int i := he
      obtain ⟨j, hj, hx⟩ := Option.bind_eq_some_iff.mp hd'
      obtain ⟨z, hz, rz⟩ := h2.get hx
      exact ix_list value slice pins s σ H _ _ v u Q I rx ry ⟨a, vs, i, z, rfl, rfl, SqL.of (hs _ _ h1), by unfold atI; rw [← h2.length, ← place_ixN, hj]; exact hz, fin_ok q hs rz⟩ hsl
    · exact False.elim q
  · rename_i l i
    obtain ⟨hn, q⟩ := ite_fin q
    split at q
    · rename_i c hc
      obtain ⟨rfl, ho⟩ := hd
      obtain rfl : y = .int i := he
      obtain ⟨j, hj, hx⟩ := Option.bind_eq_some_iff.mp hc
      refine ix_str value slice pins s σ H _ _ v u Q I rx ry ⟨tx l, i, c, rfl, rfl, by rw [tx_len, ← lim_eq]; exact hn, ?_, fin_ok q hs ⟨rfl, okc_one ho hx⟩⟩ hsl
      show atI l i = some c
      unfold atI; rw [← place_ixN, hj]; exact hx
    · exact False.elim q
  · rename_i ns i
    split at q
    · rename_i n hn
      obtain ⟨a, rfl, h1⟩ := hd
      obtain rfl : y = .int i := he
      obtain ⟨j, hj, hx⟩ := Option.bind_eq_some_iff.mp hn
      refine ix_list value slice pins s σ H _ _ v u Q I rx ry ⟨a, _, i, .int n, rfl, rfl, hs.seq h1, ?_, fin_ok q hs rfl⟩ hsl
      unfold atI
      rw [List.length_map, ← place_ixN, hj]
      show (ns.map V.int)[j]? = _
      rw [List.getElem?_map, hx]; rfl
    · exact False.elim q
  · rename_i ks ds l
    split at q
    · rename_i d' hd'
      obtain ⟨a, es, n, us, rfl, hk, hr, hl, hno, hyes⟩ := hd
      obtain ⟨rfl, ho⟩ := he
      obtain ⟨j, hj, hx⟩ := Option.bind_eq_some_iff.mp hd'
      obtain ⟨z, hz, rz⟩ := hr.get hx
      obtain ⟨u0, h1, h2⟩ := hyes j l z (txAt_some hj) hz
      exact ix_kdict value slice pins s σ H _ _ v u Q I rx ry ⟨a, tx l, z, rfl, rfl, ⟨es, n, u0, hk.at_, hk.lit, h1, h2⟩, fin_ok q hs rz⟩ hsl
    · exact False.elim q
  · rename_i ks ds dk
    split at q
    · rename_i d' hd'
      obtain ⟨a, kvs, rfl, hF, hkk, hnd, hr⟩ := hd
      obtain ⟨k, hk, h2⟩ := Option.bind_eq_some_iff.mp hd'
      obtain ⟨j, hj, hx⟩ := Option.bind_eq_some_iff.mp h2
      obtain ⟨z, hz, rz⟩ := hr.get hx
      obtain rfl := ky_of hk he
      have g : DGet H a (kV (kyK k)) (some z) := by
        have := DGet.k (k := kyK k) (hs _ _ hF)
        rw [kyAt_val hkk, hj] at this
        rw [← hz]; exact this
      cases rx
      exact tail_any (dict_typeIs I g) slot_dict_getitem.lookup (d_getItem (by omega) I g ry fun w' s' I' r' => ⟨z, H, I', r', fin_ok q hs rz⟩) hsl
    · exact False.elim q
  · exact False.elim q

/-- o[a:b] -/
def rdsl (K : PySem.W.Frag) (w : World) : V → Option Int → Option Int → Hp → VK → Prop := fun x lo hi H Q => ∃ F d, Same F H ∧ Rep K w F d x ∧ fin0 K w (slc d lo hi) F H Q
theorem sl_slc : SlR X (rdsl X.K X.w) := by
  intro pins s σ H x v vl vu lo hi sl Q I rx hsl pl pu h
  obtain ⟨F, d, hs, hd, q⟩ := h
  unfold slc at q
  split at q
  · rename_i xs
    obtain ⟨a, vs, rfl, h1, h2⟩ := hd
    refine sl_tupX pins s σ H _ v vl vu lo hi sl Q I rx hsl pl pu ⟨a, vs, rfl, Same.tup hs h1, fun c => ?_, fun c => fin_tup q hs (h2.cut lo hi)⟩
    have e : cut xs lo hi = xs := by
      unfold cut
      rw [sIx_ht, sIx_ht, h2.length, c.1, c.2, Nat.sub_zero, List.drop_zero, ← h2.length, List.take_length]
    exact fin_ok q hs (by rw [e]; exact ref_tup h1 h2)
  · rename_i xs
    obtain ⟨a, vs, rfl, h1, h2⟩ := hd
    exact sl_list pins s σ H _ v vl vu lo hi sl Q I rx hsl pl pu ⟨a, vs, rfl, SqL.of (hs _ _ h1), fun p hp => fin_lst q hs (h2.cut lo hi) p hp⟩
  · rename_i l
    obtain ⟨hn, q⟩ := ite_fin q
    obtain ⟨rfl, ho⟩ := hd
    refine sl_str pins s σ H _ v vl vu lo hi sl Q I rx hsl pl pu ⟨tx l, rfl, by rw [tx_len, ← lim_eq]; exact hn, ?_⟩
    have e : cutS (tx l) lo hi = tx (cut l lo hi) := by
      unfold cutS cut
      rw [tx_len, sIx_ht, sIx_ht]
    rw [e]
    exact fin_ok q hs ⟨rfl, okc_cut ho⟩
  · exact False.elim q

/-! ### calls -/
def rd1 (K : PySem.W.Frag) (w : World) (f : D → R D) : List V → Hp → VK → Prop := fun xs H Q => ∃ F d v, xs = [v] ∧ Same F H ∧ Rep K w F d v ∧ fin0 K w (f d) F H Q

theorem cr_len : CallR X (.builtin "len") (rd1 X.K X.w dLen) := by
  intro pins s σ H xs us Q I r h
  obtain ⟨F, d, v, rfl, hs, hd, q⟩ := h
  unfold dLen at q
  split at q <;> first | exact False.elim q | skip
  · obtain ⟨a, vs, rfl, h1, h2⟩ := hd
    exact call_len_seq pins s σ H _ us Q I r ⟨a, vs, rfl, .inr (Same.tup hs h1), fin_ok q hs (by rw [h2.length]; rfl)⟩
  · obtain ⟨a, vs, rfl, h1, h2⟩ := hd
    exact call_len_seq pins s σ H _ us Q I r ⟨a, vs, rfl, .inl (SqL.of (hs _ _ h1)), fin_ok q hs (by rw [h2.length]; rfl)⟩
  · obtain ⟨hn, q⟩ := ite_fin q
    obtain ⟨rfl, ho⟩ := hd
    exact call_len pins s σ H _ us Q I r ⟨_, _, rfl, ⟨by rw [tx_len, ← lim_eq]; exact hn, rfl⟩, fin_ok q hs (by rw [tx_len]; rfl)⟩
  · obtain ⟨a, kvs, rfl, hF, hkk, hnd, hr⟩ := hd
    rename_i ks vs'
    have e : ks.length = kvs.length := by
      have := congrArg List.length hkk
      simpa using this.symm
    exact call_lenD pins s σ H _ us Q I r ⟨a, kvs, rfl, hs _ _ hF, fin_ok q hs (by rw [e]; rfl)⟩
  · obtain ⟨a, rfl, h1⟩ := hd
    exact call_len_seq pins s σ H _ us Q I r ⟨a, _, rfl, .inl (hs.seq h1), fin_ok q hs (by rw [List.length_map]; rfl)⟩
theorem bools_of {K : PySem.W.Frag} {w : World} {F : Hp} : ∀ {xs : List D} {bs : List Bool} {vs : List V}, boolsOf xs = some bs → Reps K w F xs vs → vs = bs.map V.bl
  | [], bs, vs, h, r => by cases h; exact r
  | .bl b :: xs, bs, vs, h, ⟨v, r, h1, h2, h3⟩ => by
    obtain ⟨cs, hc, rfl⟩ := Option.map_eq_some_iff.mp (show (boolsOf xs).map _ = some bs from h)
    rw [h1, bools_of hc h3, show v = .bl b from h2]; rfl
  | .non :: _, _, _, h, _ => by cases h
  | .int _ :: _, _, _, h, _ => by cases h
  | .str _ :: _, _, _, h, _ => by cases h
  | .tup _ :: _, _, _, h, _ => by cases h
  | .lst _ :: _, _, _, h, _ => by cases h
  | .dic _ _ :: _, _, _, h, _ => by cases h
  | .scr _ :: _, _, _, h, _ => by cases h
  | .gdc _ _ :: _, _, _, h, _ => by cases h
  | .adr _ :: _, _, _, h, _ => by cases h
theorem ints_of {K : PySem.W.Frag} {w : World} {F : Hp} : ∀ {xs : List D} {bs : List Int} {vs : List V}, intsOf xs = some bs → Reps K w F xs vs → vs = bs.map V.int
  | [], bs, vs, h, r => by cases h; exact r
  | .int b :: xs, bs, vs, h, ⟨v, r, h1, h2, h3⟩ => by
    obtain ⟨cs, hc, rfl⟩ := Option.map_eq_some_iff.mp (show (intsOf xs).map _ = some bs from h)
    rw [h1, ints_of hc h3, show v = .int b from h2]; rfl
  | .non :: _, _, _, h, _ => by cases h
  | .bl _ :: _, _, _, h, _ => by cases h
  | .str _ :: _, _, _, h, _ => by cases h
  | .tup _ :: _, _, _, h, _ => by cases h
  | .lst _ :: _, _, _, h, _ => by cases h
  | .dic _ _ :: _, _, _, h, _ => by cases h
  | .scr _ :: _, _, _, h, _ => by cases h
  | .gdc _ _ :: _, _, _, h, _ => by cases h
  | .adr _ :: _, _, _, h, _ => by cases h
theorem strs_of {K : PySem.W.Frag} {w : World} {F : Hp} : ∀ {xs : List D} {bs : List (List Nat)} {vs : List V}, strsOf xs = some bs → Reps K w F xs vs → vs = (bs.map tx).map V.str ∧ ∀ b ∈ bs, okc b = true
  | [], bs, vs, h, r => by cases h; exact ⟨r, fun b hb => nomatch hb⟩
  | .str b :: xs, bs, vs, h, ⟨v, r, h1, h2, h3⟩ => by
    obtain ⟨cs, hc, rfl⟩ := Option.map_eq_some_iff.mp (show (strsOf xs).map _ = some bs from h)
    obtain ⟨e1, e2⟩ := strs_of hc h3
    refine ⟨by rw [h1, e1, h2.1]; rfl, fun c hc => ?_⟩
    rcases List.mem_cons.mp hc with rfl | hc
    · exact h2.2
    · exact e2 c hc
  | .non :: _, _, _, h, _ => by cases h
  | .bl _ :: _, _, _, h, _ => by cases h
  | .int _ :: _, _, _, h, _ => by cases h
  | .tup _ :: _, _, _, h, _ => by cases h
  | .lst _ :: _, _, _, h, _ => by cases h
  | .dic _ _ :: _, _, _, h, _ => by cases h
  | .scr _ :: _, _, _, h, _ => by cases h
  | .gdc _ _ :: _, _, _, h, _ => by cases h
  | .adr _ :: _, _, _, h, _ => by cases h
theorem cr_all' (hc : X.calm = true) : CallR X (.builtin "all") (rd1 X.K X.w dAll) := by
  intro pins s σ H xs us Q I r h
  obtain ⟨F, d, v, rfl, hs, hd, q⟩ := h
  unfold dAll at q
  split at q <;> first | exact False.elim q | skip
  split at q
  · rename_i bs hb
    obtain ⟨a, vs, rfl, h1, h2⟩ := hd
    obtain rfl := bools_of hb h2
    exact cr_all hc pins s σ H _ us Q I r ⟨a, bs, rfl, SqL.of (hs _ _ h1), fin_ok q hs rfl⟩
  · exact False.elim q
theorem cr_sum' (hc : X.calm = true) : CallR X (.builtin "sum") (rd1 X.K X.w dSum) := by
  intro pins s σ H xs us Q I r h
  obtain ⟨F, d, v, rfl, hs, hd, q⟩ := h
  unfold dSum at q
  split at q <;> first | exact False.elim q | skip
  split at q
  · rename_i bs hb
    obtain ⟨a, vs, rfl, h1, h2⟩ := hd
    obtain rfl := ints_of hb h2
    exact cr_sum hc pins s σ H _ us Q I r ⟨a, bs, rfl, SqL.of (hs _ _ h1), fin_ok q hs rfl⟩
  · exact False.elim q
theorem toDigits_small (b : Nat) : ∀ (n : Nat), ∀ c ∈ Nat.toDigits 10 n, c.toNat < 1114112 := fun n c _ => by
  have := c.valid
  have h : c.toNat = c.val.toNat := rfl
  rcases this with h' | ⟨h1, h2⟩
  · have : c.val.toNat < 0xd800 := h'
    omega
  · have : c.val.toNat < 0x110000 := h2
    omega
theorem said_str (i : Int) : (Str.ofString (toString i) : Str) = tx (said i) ∧ okc (said i) = true := by
  have hn : ∀ n : Nat, (toString n : String).toList = Nat.toDigits 10 n := fun n => by simp [toString, Nat.repr]
  have hk : ∀ n : Nat, okc (figs n) = true := fun n => by
    unfold figs
    show ((Nat.toDigits 10 n).map Char.toNat).all (· < 1114112) = true
    rw [List.all_map, List.all_eq_true]
    intro c hc
    simpa using toDigits_small 10 n c hc
  rw [Str.ofString_eq_toList]
  unfold said
  by_cases h : i < 0
  · have e : (toString i : String) = "-" ++ toString i.natAbs := by
      cases i with
      | ofNat n => simp at h; omega
      | negSucc n => rfl
    rw [if_pos h, e, String.toList_append, hn]
    refine ⟨rfl, ?_⟩
    show (decide (45 < 1114112) && okc (figs i.natAbs)) = true
    rw [hk]; rfl
  · have e : (toString i : String) = toString i.natAbs := by
      cases i with
      | ofNat n => rfl
      | negSucc n => omega
    rw [if_neg h, e, hn]
    exact ⟨rfl, hk _⟩
theorem cr_str : CallR X (.type "str") (rd1 X.K X.w dStr) := by
  intro pins s σ H xs us Q I r h
  obtain ⟨F, d, v, rfl, hs, hd, q⟩ := h
  unfold dStr at q
  split at q <;> first | exact False.elim q | skip
  rename_i i
  split at q <;> first | exact False.elim q | skip
  rename_i hl
  obtain rfl := hd
  have hlog : i.natAbs.log2 < 1920 := by
    have : i.natAbs < 2 ^ 1920 := Nat.lt_trans hl (by decide +kernel)
    by_cases h0 : i.natAbs = 0
    · rw [h0]; decide
    · exact (Nat.log2_lt h0).mpr this
  refine call_str_int pins s σ H _ us Q I r ⟨i, rfl, hlog, ?_⟩
  obtain ⟨e1, e2⟩ := said_str i
  rw [show ((toString i : String) : Str) = tx (said i) from e1]
  exact fin_ok q hs ⟨rfl, e2⟩
theorem cr_abs : CallR X (.builtin "abs") (rd1 X.K X.w dAbs) := by
  intro pins s σ H xs us Q I r h
  obtain ⟨F, d, v, rfl, hs, hd, q⟩ := h
  unfold dAbs at q
  split at q <;> first | exact False.elim q | skip
  obtain rfl := hd
  exact call_abs pins s σ H _ us Q I r ⟨_, rfl, fin_ok q hs rfl⟩
theorem cr_tuple : CallR X (.type "tuple") (rd1 X.K X.w dTuple) := by
  intro pins s σ H xs us Q I r h
  obtain ⟨F, d, v, rfl, hs, hd, q⟩ := h
  unfold dTuple at q
  split at q <;> first | exact False.elim q | skip
  · obtain ⟨a, vs, rfl, h1, h2⟩ := hd
    exact call_tupleX pins s σ H _ us Q I r ⟨a, vs, rfl, .inl ⟨SqL.of (hs _ _ h1), fin_tup q hs h2⟩⟩
  · obtain ⟨a, vs, rfl, h1, h2⟩ := hd
    exact call_tupleX pins s σ H _ us Q I r ⟨a, vs, rfl, .inr ⟨Same.tup hs h1, fin_ok q hs (ref_tup h1 h2)⟩⟩
/-- a new list, whatever becomes of it -/
def fnew (K : PySem.W.Frag) (w : World) (r : R D) (F H : Hp) (Q : VK) : Prop :=
  match r with
  | .ok (.lst ds) => ∀ p vs, H p = none → Reps K w F ds vs → Q (.ref p) (upd H p (.lst vs))
  | .ok (.dic ks ds) => ∀ p kvs, H p = none → kvs.map (·.1) = ks.map kyK → ks.Nodup → Reps K w F ds (kvs.map (·.2)) → Q (.ref p) (upd H p (.dK kvs))
  | _ => False
def rdn1 (K : PySem.W.Frag) (w : World) (f : D → R D) : List V → Hp → VK → Prop := fun xs H Q => ∃ F d v, xs = [v] ∧ Same F H ∧ Rep K w F d v ∧ fnew K w (f d) F H Q
theorem cr_list : CallR X (.type "list") (rdn1 X.K X.w dList) := by
  intro pins s σ H xs us Q I r h
  obtain ⟨F, d, v, rfl, hs, hd, q⟩ := h
  unfold dList at q
  split at q <;> first | exact False.elim q | skip
  · obtain ⟨a, vs, rfl, h1, h2⟩ := hd
    exact call_list_of pins s σ H _ us Q I r ⟨a, vs, rfl, .inl (SqL.of (hs _ _ h1)), fun p hp => q p vs hp h2⟩
  · obtain ⟨a, vs, rfl, h1, h2⟩ := hd
    exact call_list_of pins s σ H _ us Q I r ⟨a, vs, rfl, .inr (Same.tup hs h1), fun p hp => q p vs hp h2⟩
end
end Ev

/-! Readings of expressions, and the rules for each form. -/
namespace Ev
open PySem L2

/-- names of constants, defs (with how many parameters), exception classes -/
structure Nm where
  g : Nat → Option Str
  f : Nat → Option (Str × Nat)
  c : Nat → Option Str
/-- what is fixed while one def runs -/
structure Ct where
  K : PySem.W.Frag
  w : World
  glob : Nat → R D
  fn : Nat → List D → R D
  ca : Nat → Addr
  W : WX

def EnvR (K : PySem.W.Frag) (w : World) (F : Hp) (σ : L2.St) (env : Env) : Prop := σ.length = env.length ∧ ∀ i d, look env i = .ok d → ∃ v, σ[i]? = some (some v) ∧ Rep K w F d v
theorem EnvR.mono {K : PySem.W.Frag} {w : World} {F F' : Hp} {σ : L2.St} {env : Env} (h : EnvR K w F σ env) (e : Same F F') : EnvR K w F' σ env :=
  ⟨h.1, fun i d hd => let ⟨v, h1, h2⟩ := h.2 i d hd; ⟨v, h1, Rep.mono e d v h2⟩⟩

section
variable {K : PySem.W.Frag} {w : World} {F H F' H' : Hp} {Q : VK} {Xc : Nat → Hp → Prop}
theorem fin_mono {r : R D} (e : Ext F H F' H') (h : fin K w r F H Q Xc) : fin K w r F' H' Q Xc := by
  cases r with
  | ok d => exact fun v F2 H2 e2 r2 => h v F2 H2 (e.trans e2) r2
  | ex c => exact fun H2 s => h H2 (e.same.trans s)
  | no => exact h
theorem fin_bind {r : R D} {f : D → R D} {P : VK} (h : fin K w (r.bind f) F H Q Xc) (k : ∀ d v F' H', r = .ok d → Ext F H F' H' → Rep K w F' d v → fin K w (f d) F' H' Q Xc → P v H') : fin K w r F H P Xc := by
  cases r with
  | ok d => exact fun v F' H' e rv => k d v F' H' rfl e rv (fin_mono e h)
  | ex c => exact h
  | no => exact h
theorem fin_no0 {r : R D} (h : fin K w r F H Q Xc) (hn : ∀ c, r ≠ .ex c) : fin0 K w r F H Q := by
  cases r with
  | ok d => exact h
  | ex c => exact absurd rfl (hn c)
  | no => exact h
/-- lists of values -/
def finL (K : PySem.W.Frag) (w : World) (r : R (List D)) (F H : Hp) (Q : List V → Hp → Prop) (X : Nat → Hp → Prop) : Prop :=
  match r with
  | .ok ds => ∀ vs F' H', Ext F H F' H' → Reps K w F' ds vs → Q vs H'
  | .ex c => ∀ H', Same H H' → X c H'
  | .no => False
theorem finL_mono {r : R (List D)} {Q : List V → Hp → Prop} (e : Ext F H F' H') (h : finL K w r F H Q Xc) : finL K w r F' H' Q Xc := by
  cases r with
  | ok d => exact fun v F2 H2 e2 r2 => h v F2 H2 (e.trans e2) r2
  | ex c => exact fun H2 s => h H2 (e.same.trans s)
  | no => exact h
end

def Ct.rd (C : Ct) (t : E) : TE := fun σ H Q => ∃ env F, EnvR C.K C.w F σ env ∧ Same F H ∧ fin C.K C.w (ev C.glob C.fn t env) F H Q fun c H' => C.W (.ref (C.ca c)) none σ H'
def Ct.rds (C : Ct) (ts : List E) : TA := fun σ H Q => ∃ env F, EnvR C.K C.w F σ env ∧ Same F H ∧ finL C.K C.w (evs C.glob C.fn ts env) F H Q fun c H' => C.W (.ref (C.ca c)) none σ H'
/-- what a def promises -/
def Ct.sp (C : Ct) (f n : Nat) : Sp := fun vs H Q E => vs.length = n ∧ ∃ F ds, Same F H ∧ Reps C.K C.w F ds vs ∧ fin C.K C.w (C.fn f ds) F H Q fun c H' => E (.ref (C.ca c)) none H'

/-- what holds in any suite -/
structure Gd0 (X : Cx) (C : Ct) : Prop where
  hK : X.K = C.K
  hw : X.w = C.w
  nd : X.N.Nodup
  hu : X.A.units + 65 < cLine
structure Gd (nm : Nm) (X : Cx) (C : Ct) : Prop extends Gd0 X C where
  calm : X.calm = true
  takes : L2N.Takes X C.W
  blt : ∀ b ∈ bnames, X.mg b = none
  glo : ∀ g x d, nm.g g = some x → C.glob g = .ok d → ∃ u v, X.mg x = some u ∧ RelV v u ∧ ∀ F, Rep C.K C.w F d v
  gno : ∀ g c, C.glob g ≠ .ex c
  fns : ∀ f x n, nm.f f = some (x, n) → ∃ fa fd ps k, FnOk X.prog X.w X.K X.mg X.base (L2N.CX X.prog X.w) k fa fd ps (C.sp f n) ∧ Room k X.A ∧ X.mg x = some (.ref fa) ∧ PySem.W.keepIn X.K (.ref fa) = true ∧ Binds X.K fd ps []

/-! ### names -/
def locB (sc : Scope) (x : Str) : Bool := match sc.names.lookup x with
  | some .local => true
  | some .cell => true
  | some .free => true
  | _ => false
theorem locB_vis {sc : Scope} {x : Str} (h : locB sc x = true) : Vis sc x := by
  unfold locB at h
  split at h
  · exact .inl (by assumption)
  · exact .inr (.inl (by assumption))
  · exact .inr (.inr (by assumption))
  · cases h
def glB (sc : Scope) (x : Str) : Bool := match sc.names.lookup x with
  | some .globalImplicit => true
  | _ => false
theorem glB_gl {X : Cx} {x : Str} (h : glB X.env.scope x = true) : Gl X x := by
  unfold glB at h
  split at h
  · assumption
  · cases h
def plainName (x : Str) : Bool := !(x == ("__debug__" : Str)) && (!(x == ("__classdict__" : Str)) && !(x == ("__name__" : Str)))
theorem plain1 {x : Str} (h : plainName x = true) : (x == ("__debug__" : Str)) = false ∧ (x == ("__classdict__" : Str)) = false ∧ x ≠ ("__name__" : Str) := by
  unfold plainName at h
  simp only [Bool.and_eq_true, Bool.not_eq_true'] at h
  exact ⟨h.1, h.2.1, fun e => by rw [e] at h; simp at h⟩

theorem PE.weak {X : Cx} {e : Expr} {t t' : TE} (h : PE X e t) (k : ∀ σ H Q, t' σ H Q → t σ H Q) : PE X e t' := ⟨fun pins s σ H Q I q => h.run pins s σ H Q I (k σ H Q q)⟩
theorem PT.weak {X : Cx} {e : Expr} {t t' : TT} (h : PT X e t) (k : ∀ σ H Q, t' σ H Q → t σ H Q) : PT X e t' := ⟨fun pins s σ H Q I q => h.run pins s σ H Q I (k σ H Q q)⟩
theorem PW.weak {X : Cx} {e : Expr} {t t' : TT} (h : PW X e t) (k : ∀ σ H Q, t' σ H Q → t σ H Q) : PW X e t' := ⟨fun wh pins s σ H Q I q => h.run wh pins s σ H Q I (k σ H Q q)⟩
theorem PA.weak {X : Cx} {es : List Expr} {t t' : TA} (h : PA X es t) (k : ∀ σ H Q, t' σ H Q → t σ H Q) : PA X es t' := ⟨fun pos pins s σ H Q I q => h.run pos pins s σ H Q I (k σ H Q q)⟩

section
variable {nm : Nm} {X : Cx} {C : Ct} {a b c : Expr} {ta tb tc : E} {pos : Pos}
theorem s_var {i : Nat} {x : Str} (hN : X.N[i]? = some x) (hv : Vis X.env.scope x) (hp : plainName x = true) : PE X (.Name x pos) (C.rd (.var i)) :=
  PE.weak (pe_var hN hv (plain1 hp).1 (plain1 hp).2.1) fun σ H Q ⟨env, F, he, hs, q⟩ => by
    have q' : fin C.K C.w (look env i) F H Q _ := q
    cases e : look env i with
    | ok d =>
      rw [e] at q'
      obtain ⟨v, h1, h2⟩ := he.2 i d e
      exact ⟨v, h1, fin_ok q' hs h2⟩
    | ex c =>
      unfold look at e
      split at e
      · rename_i s _; cases s <;> cases e
      · cases e
    | no =>
      rw [e] at q'
      exact False.elim q'
def litB : D → Const → Bool
  | .int i, .int j => decide (i = j)
  | .bl i, .bool j => i == j
  | .non, .none => true
  | .str l, .str x => decide (x = tx l) && okc l
  | _, _ => false
theorem s_lit {d : D} {k : Const} {j : Nat} (h : litB d k = true) : PE X (.Constant k j pos) (C.rd (.lit d)) := by
  have key : ∀ v, PE X (.Constant k j pos) (tC v) → (∀ F, Rep C.K C.w F d v) → PE X (.Constant k j pos) (C.rd (.lit d)) := fun v hp hr =>
    PE.weak hp fun σ H Q ⟨env, F, he, hs, q⟩ => fin_ok (show fin C.K C.w (.ok d) F H Q _ from q) hs (hr F)
  cases d <;> cases k <;> first | cases h | skip
  · exact key _ pe_non fun _ => rfl
  · exact key _ pe_bl fun _ => by rw [eq_of_beq (show (_ == _) = true from h)]; rfl
  · exact key _ pe_int fun _ => by rw [of_decide_eq_true (show decide _ = true from h)]; rfl
  · rename_i l x
    have h' : decide (x = tx l) = true ∧ okc l = true := Bool.and_eq_true_iff.mp h
    exact key _ pe_str fun _ => ⟨by rw [of_decide_eq_true h'.1], h'.2⟩
theorem s_glo (G : Gd nm X C) {g : Nat} {x : Str} (hn : nm.g g = some x) (hg : Gl X x) (hp : plainName x = true) : PE X (.Name x pos) (C.rd (.glo g)) := by
  cases e : C.glob g with
  | ok d =>
    obtain ⟨u, v, h1, h2, h3⟩ := G.glo g x d hn e
    exact PE.weak (pe_glob hg h1 h2 (plain1 hp).1) fun σ H Q ⟨env, F, he, hs, q⟩ => by
      have q' : fin C.K C.w (C.glob g) F H Q _ := q
      rw [e] at q'
      exact fin_ok q' hs (h3 F)
  | ex k => exact absurd e (G.gno g k)
  | no => exact ⟨fun pins s σ H Q I ⟨env, F, he, hs, q⟩ => by
      have q' : fin C.K C.w (C.glob g) F H Q _ := q
      rw [e] at q'
      exact False.elim q'⟩

/-! ### rows of expressions -/
theorem s_nil : PA X [] (C.rds []) := PA.weak pa_nil fun σ H Q ⟨env, F, he, hs, q⟩ => (show finL C.K C.w (.ok []) F H Q _ from q) [] F H (Ext.refl hs) rfl
theorem s_cons {e : Expr} {es : List Expr} {t : E} {ts : List E} (h : PE X e (C.rd t)) (hr : PA X es (C.rds ts)) (hst : starEach (e :: es) X.env = (false, eval e X.env) :: starEach es X.env) : PA X (e :: es) (C.rds (t :: ts)) :=
  PA.weak (pa_cons h hr hst) fun σ H Q ⟨env, F, he, hs, q⟩ => by
    have q' : finL C.K C.w ((ev C.glob C.fn t env).bind fun d => (evs C.glob C.fn ts env).bind fun ds => .ok (d :: ds)) F H Q _ := q
    refine ⟨env, F, he, hs, ?_⟩
    cases e1 : ev C.glob C.fn t env with
    | no => rw [e1] at q'; exact q'
    | ex k => rw [e1] at q'; exact q'
    | ok d =>
      rw [e1] at q'
      intro v F1 H1 x1 r1
      refine ⟨env, F1, he.mono x1.sub, x1.inH, ?_⟩
      have q2 := finL_mono x1 q'
      cases e2 : evs C.glob C.fn ts env with
      | no => rw [e2] at q2; exact q2
      | ex k => rw [e2] at q2; exact q2
      | ok ds =>
        rw [e2] at q2
        intro vs F2 H2 x2 r2
        exact q2 (v :: vs) F2 H2 x2 ⟨v, vs, rfl, Rep.mono x2.sub d v r1, r2⟩
theorem s_tup {es : List Expr} {ts : List E} {k : Nat} (h : PA X es (C.rds ts)) : PE X (.Tuple es k pos) (C.rd (.tup ts)) :=
  PE.weak (pe_tupX h) fun σ H Q ⟨env, F, he, hs, q⟩ => by
    have q' : fin C.K C.w ((evs C.glob C.fn ts env).bind fun ds => fit ds.length (.tup ds)) F H Q _ := q
    refine ⟨env, F, he, hs, ?_⟩
    cases e2 : evs C.glob C.fn ts env with
    | no => rw [e2] at q'; exact q'
    | ex k => rw [e2] at q'; exact q'
    | ok ds =>
      rw [e2] at q'
      intro vs F2 H2 x2 r2
      obtain ⟨hn, q3⟩ := fit_fin (show fin C.K C.w (fit _ _) F H Q _ from q')
      exact ⟨by rw [← r2.length, ← lim_eq]; exact hn, fin_tup (fin_mono x2 q3) x2.inH r2⟩
/-- a new list or dict, whatever becomes of it -/
def Ct.rn (C : Ct) (t : E) : TE := fun σ H Q => ∃ env F, EnvR C.K C.w F σ env ∧ Same F H ∧ (match ev C.glob C.fn t env with
  | .ok (.lst ds) => ∀ p vs F' H', Ext F H F' H' → H' p = none → Reps C.K C.w F' ds vs → Q (.ref p) (upd H' p (.lst vs))
  | .ok (.dic ks ds) => ∀ p kvs F' H', Ext F H F' H' → H' p = none → kvs.map (·.1) = ks.map kyK → ks.Nodup → Reps C.K C.w F' ds (kvs.map (·.2)) → Q (.ref p) (upd H' p (.dK kvs))
  | .ok _ => False
  | .ex c => ∀ H', Same H H' → C.W (.ref (C.ca c)) none σ H'
  | .no => False)
/-- kept as it is -/
theorem rn_rd {t : E} {e : Expr} (h : PE X e (C.rn t)) (hf : ∀ env d, ev C.glob C.fn t env = .ok d → (∃ ds, d = .lst ds) ∨ ∃ ks ds, d = .dic ks ds) : PE X e (C.rd t) :=
  PE.weak h fun σ H Q ⟨env, F, he, hs, q⟩ => by
    refine ⟨env, F, he, hs, ?_⟩
    cases e1 : ev C.glob C.fn t env with
    | no => rw [e1] at q; exact q
    | ex k => rw [e1] at q; exact q
    | ok d =>
      rw [e1] at q
      rcases hf env d e1 with ⟨ds, rfl⟩ | ⟨ks, ds, rfl⟩
      · exact fun p vs F' H' x hp r => fin_lst (fin_mono x q) x.inH r p hp
      · exact fun p kvs F' H' x hp h1 h2 h3 => q (.ref p) _ _ (x.trans (Ext.new1 (.dK kvs) x.inH hp)) ⟨p, kvs, rfl, upd_same, h1, h2, Reps.mono (same_upd (x.inH.free hp)) ds _ h3⟩
theorem s_lst {es : List Expr} {ts : List E} (h : PA X es (C.rds ts)) : PE X (.List es pos) (C.rn (.lst ts)) :=
  PE.weak (pe_lst h) fun σ H Q ⟨env, F, he, hs, q⟩ => by
    refine ⟨env, F, he, hs, ?_⟩
    have ee : ev C.glob C.fn (.lst ts) env = (evs C.glob C.fn ts env).bind fun ds => fit ds.length (.lst ds) := rfl
    rw [ee] at q
    cases e2 : evs C.glob C.fn ts env with
    | no => rw [e2] at q; exact q
    | ex k => rw [e2] at q; exact q
    | ok ds =>
      rw [e2] at q
      intro vs F2 H2 x2 r2
      by_cases hn : ds.length ≤ lim
      · have e3 : R.bind (.ok ds) (fun ds => fit ds.length (.lst ds)) = .ok (.lst ds) := by
          show fit ds.length (.lst ds) = _
          unfold fit; rw [if_pos hn]
        rw [e3] at q
        exact ⟨by rw [← r2.length, ← lim_eq]; exact hn, fun p hp => q p vs F2 H2 x2 hp r2⟩
      · have e3 : R.bind (.ok ds) (fun ds => fit ds.length (.lst ds)) = .no := by
          show fit ds.length (.lst ds) = _
          unfold fit; rw [if_neg hn]
        rw [e3] at q
        exact False.elim q

/-! ### operators -/
theorem fit_ne (n : Nat) (d : D) (k : Nat) : fit n d ≠ .ex k := by unfold fit; split <;> simp
theorem bop_ne (o : B2) (d e : D) (k : Nat) : bop o d e ≠ .ex k := by
  unfold bop
  split <;> first | exact fit_ne _ _ _ | (simp; done) | (split <;> first | exact fit_ne _ _ _ | (simp; done) | (split <;> simp))
theorem s_bin (G : Gd0 X C) (o : B2) (ha : PE X a (C.rd ta)) (hb : PE X b (C.rd tb)) : PE X (.BinOp a (opOf o) b pos) (C.rd (.bin o ta tb)) :=
  PE.weak (pe_op (op_bop o) ha hb) fun σ H Q ⟨env, F, he, hs, q⟩ => by
    have q' : fin C.K C.w ((ev C.glob C.fn ta env).bind fun x => (ev C.glob C.fn tb env).bind fun y => bop o x y) F H Q _ := q
    refine ⟨env, F, he, hs, fin_bind q' fun d v F1 H1 e1 x1 r1 q1 => ⟨env, F1, he.mono x1.sub, x1.inH, fin_bind q1 fun d2 v2 F2 H2 e2 x2 r2 q2 => ?_⟩⟩
    rw [G.hK, G.hw]
    exact ⟨F2, d, d2, x2.inH, Rep.mono x2.sub d v r1, r2, fin_no0 q2 (bop_ne o d d2)⟩
theorem s_neg (ha : PE X a (C.rd ta)) : PE X (.UnaryOp .USub a pos) (C.rd (.neg ta)) :=
  PE.weak (pe_un un_neg ha) fun σ H Q ⟨env, F, he, hs, q⟩ => by
    refine ⟨env, F, he, hs, fin_bind (show fin C.K C.w ((ev C.glob C.fn ta env).bind _) F H Q _ from q) fun d v F1 H1 e1 x1 r1 q1 => ?_⟩
    cases d with
    | int i =>
      obtain rfl : v = .int i := r1
      exact ⟨i, rfl, fin_ok (show fin C.K C.w (.ok (.int (-i))) F1 H1 Q _ from q1) x1.inH rfl⟩
    | _ => exact False.elim q1
theorem deqR_ne (d e : D) (k : Nat) : deqR d e ≠ .ex k := by
  unfold deqR
  split <;> first | (intro h; cases h; done) | (split <;> (intro h; cases h))
theorem anyR_ne (d : D) (xs : List D) (k : Nat) : anyR d xs ≠ .ex k := by
  unfold anyR
  split <;> (intro h; cases h)
theorem isIn_ne (d e : D) (k : Nat) : isIn d e ≠ .ex k := by
  unfold isIn
  split <;> first | exact anyR_ne _ _ _ | (intro h; cases h; done) | (split <;> (intro h; cases h))
theorem bind_ne {A B : Type} {r : R A} {f : A → B} {k : Nat} (hn : ∀ k, r ≠ .ex k) : (r.bind fun z => R.ok (f z)) ≠ .ex k := by
  cases r with
  | ok a => intro h; cases h
  | ex c => exact absurd rfl (hn c)
  | no => intro h; cases h
theorem cop_ne (o : C2) (d e : D) (k : Nat) : cop o d e ≠ .ex k := by
  unfold cop
  split <;> first
    | exact deqR_ne _ _ _
    | exact isIn_ne _ _ _
    | exact bind_ne (deqR_ne _ _)
    | exact bind_ne (isIn_ne _ _)
    | (intro h; cases h)
/-- a comparison's Bool -/
theorem fin_bool {K : PySem.W.Frag} {w : World} {F H : Hp} {Q : VK} {Xc : Nat → Hp → Prop} {r : R Bool} (h : fin K w (r.bind fun z => .ok (.bl z)) F H Q Xc) (hn : ∀ c, r ≠ .ex c) (hs : Same F H) : ∃ z, r = .ok z ∧ Q (.bl z) H := by
  cases r with
  | ok z => exact ⟨z, rfl, fin_ok (show fin K w (.ok (.bl z)) F H Q Xc from h) hs rfl⟩
  | ex c => exact absurd rfl (hn c)
  | no => exact False.elim h
theorem cmp_core (G : Gd0 X C) (o : C2) {σ : L2.St} {H : Hp} {Q : VK} (h : C.rd (.cmp o ta tb) σ H Q) : tOp (rdc X.K X.w (cop o)) (C.rd ta) (C.rd tb) σ H Q := by
  obtain ⟨env, F, he, hs, q⟩ := h
  refine ⟨env, F, he, hs, fin_bind (show fin C.K C.w ((ev C.glob C.fn ta env).bind _) F H Q _ from q) fun d v F1 H1 e1 x1 r1 q1 => ⟨env, F1, he.mono x1.sub, x1.inH, fin_bind q1 fun d2 v2 F2 H2 e2 x2 r2 q2 => ?_⟩⟩
  obtain ⟨z, hz, qz⟩ := fin_bool q2 (cop_ne o d d2) x2.inH
  rw [G.hK, G.hw]
  exact ⟨F2, d, d2, x2.inH, Rep.mono x2.sub d v r1, r2, z, hz, qz⟩
theorem s_cmp (G : Gd0 X C) (o : C2) (ha : PE X a (C.rd ta)) (hb : PE X b (C.rd tb)) (hm : behindInMarks (cOf o) b = false) : PE X (.Compare a [cOf o] [b] pos) (C.rd (.cmp o ta tb)) :=
  PE.weak (pe_cmpR (op_cop o G.hu) ha hb hm) fun σ H Q h => cmp_core G o h
theorem st_cmp (G : Gd0 X C) (o : C2) (ha : PE X a (C.rd ta)) (hb : PE X b (C.rd tb)) (hm : behindInMarks (cOf o) b = false) : PT X (.Compare a [cOf o] [b] pos) (tB (C.rd (.cmp o ta tb))) :=
  PT.weak (pt_cmpR (op_cop o G.hu) ha hb hm) fun σ H Q h => cmp_core G o h
theorem cmp2_core (G : Gd0 X C) (o p : C2) {σ : L2.St} {H : Hp} {Q : VK} (h : C.rd (.cmp2 o p ta tb tc) σ H Q) : tChain (rdc X.K X.w (cop o)) (rdc X.K X.w (cop p)) (C.rd ta) (C.rd tb) (C.rd tc) σ H Q := by
  obtain ⟨env, F, he, hs, q⟩ := h
  refine ⟨env, F, he, hs, fin_bind (show fin C.K C.w ((ev C.glob C.fn ta env).bind _) F H Q _ from q) fun d v F1 H1 e1 x1 r1 q1 => ⟨env, F1, he.mono x1.sub, x1.inH, fin_bind q1 fun d2 v2 F2 H2 e2 x2 r2 q2 => ?_⟩⟩
  cases hz : cop o d d2 with
  | no => rw [hz] at q2; exact False.elim q2
  | ex k => exact absurd hz (cop_ne o d d2 k)
  | ok z =>
    rw [hz] at q2
    rw [G.hK, G.hw]
    refine ⟨F2, d, d2, x2.inH, Rep.mono x2.sub d v r1, r2, z, hz, z, rfl, ?_⟩
    cases z with
    | false =>
      rw [if_neg Bool.false_ne_true]
      exact fin_ok (show fin C.K C.w (.ok (.bl false)) F2 H2 Q _ from q2) x2.inH rfl
    | true =>
      rw [if_pos rfl]
      have q3 : fin C.K C.w ((ev C.glob C.fn tc env).bind fun w' => (cop p d2 w').bind fun u => .ok (.bl u)) F2 H2 Q _ := q2
      refine ⟨env, F2, he.mono (x1.sub.trans x2.sub), x2.inH, fin_bind q3 fun d3 v3 F3 H3 e3 x3 r3 q4 => ?_⟩
      obtain ⟨u, hu, qu⟩ := fin_bool q4 (cop_ne p d2 d3) x3.inH
      exact ⟨F3, d2, d3, x3.inH, Rep.mono x3.sub d2 v2 r2, r3, u, hu, qu⟩
theorem s_cmp2 (G : Gd0 X C) (o p : C2) (ha : PE X a (C.rd ta)) (hb : PE X b (C.rd tb)) (hc : PE X c (C.rd tc)) (hm : lastMarks [cOf o, cOf p] [b, c] = false) : PE X (.Compare a [cOf o, cOf p] [b, c] pos) (C.rd (.cmp2 o p ta tb tc)) :=
  PE.weak (pe_chain (op_cop o G.hu) (op_cop p G.hu) ha hb hc hm) fun σ H Q h => cmp2_core G o p h
theorem st_cmp2 (G : Gd0 X C) (o p : C2) (ha : PE X a (C.rd ta)) (hb : PE X b (C.rd tb)) (hc : PE X c (C.rd tc)) (hm : lastMarks [cOf o, cOf p] [b, c] = false) : PT X (.Compare a [cOf o, cOf p] [b, c] pos) (tB (C.rd (.cmp2 o p ta tb tc))) :=
  PT.weak (pt_chain (op_cop o G.hu) (op_cop p G.hu) ha hb hc hm) fun σ H Q h => cmp2_core G o p h

/-! ### and, or, not, if -/
theorem as_bool {d : D} {v : V} {K : PySem.W.Frag} {w : World} {F H : Hp} {Q : VK} {Xc : Nat → Hp → Prop} {f : Bool → R D} (r : Rep K w F d v) (h : fin K w ((asBool d).bind f) F H Q Xc) : ∃ z, d = .bl z ∧ v = .bl z ∧ fin K w (f z) F H Q Xc := by
  cases d with
  | bl z => exact ⟨z, rfl, r, h⟩
  | _ => exact False.elim h
theorem s_and (ha : PE X a (C.rd ta)) {rest : List Expr} (hb : PE X (.BoolOp .And (b :: rest) pos) (C.rd tb)) : PE X (.BoolOp .And (a :: b :: rest) pos) (C.rd (.and_ ta tb)) :=
  PE.weak (pe_and ha hb) fun σ H Q ⟨env, F, he, hs, q⟩ => by
    refine ⟨env, F, he, hs, fin_bind (show fin C.K C.w ((ev C.glob C.fn ta env).bind _) F H Q _ from q) fun d v F1 H1 e1 x1 r1 q1 => ?_⟩
    obtain ⟨z, rfl, rfl, q2⟩ := as_bool r1 q1
    refine ⟨z, rfl, ?_⟩
    cases z with
    | true => rw [if_pos rfl]; exact ⟨env, F1, he.mono x1.sub, x1.inH, q2⟩
    | false => rw [if_neg Bool.false_ne_true]; exact fin_ok (show fin C.K C.w (.ok (.bl false)) F1 H1 Q _ from q2) x1.inH rfl
theorem s_or (ha : PE X a (C.rd ta)) {rest : List Expr} (hb : PE X (.BoolOp .Or (b :: rest) pos) (C.rd tb)) : PE X (.BoolOp .Or (a :: b :: rest) pos) (C.rd (.or_ ta tb)) :=
  PE.weak (pe_or ha hb) fun σ H Q ⟨env, F, he, hs, q⟩ => by
    refine ⟨env, F, he, hs, fin_bind (show fin C.K C.w ((ev C.glob C.fn ta env).bind _) F H Q _ from q) fun d v F1 H1 e1 x1 r1 q1 => ?_⟩
    obtain ⟨z, rfl, rfl, q2⟩ := as_bool r1 q1
    refine ⟨z, rfl, ?_⟩
    cases z with
    | false => rw [if_neg Bool.false_ne_true]; exact ⟨env, F1, he.mono x1.sub, x1.inH, q2⟩
    | true => rw [if_pos rfl]; exact fin_ok (show fin C.K C.w (.ok (.bl true)) F1 H1 Q _ from q2) x1.inH rfl
theorem s_not (ha : PE X a (C.rd ta)) : PE X (.UnaryOp .Not a pos) (C.rd (.not_ ta)) :=
  PE.weak (pe_not ha) fun σ H Q ⟨env, F, he, hs, q⟩ => by
    refine ⟨env, F, he, hs, fin_bind (show fin C.K C.w ((ev C.glob C.fn ta env).bind _) F H Q _ from q) fun d v F1 H1 e1 x1 r1 q1 => ?_⟩
    obtain ⟨z, rfl, rfl, q2⟩ := as_bool r1 q1
    exact ⟨z, rfl, fin_ok (show fin C.K C.w (.ok (.bl (!z))) F1 H1 Q _ from q2) x1.inH rfl⟩
/-- a test of a part, then what the whole goes on with -/
theorem test_bind {t : E} {σ : L2.St} {H F : Hp} {env : Env} {f : Bool → R D} {Q : VK} {P : Bool → Hp → Prop} (he : EnvR C.K C.w F σ env) (hs : Same F H) (q : fin C.K C.w ((ev C.glob C.fn t env).bind fun x => (asBool x).bind f) F H Q fun c H' => C.W (.ref (C.ca c)) none σ H')
    (k : ∀ z F1 H1, Ext F H F1 H1 → fin C.K C.w (f z) F1 H1 Q (fun c H' => C.W (.ref (C.ca c)) none σ H') → P z H1) : tB (C.rd t) σ H P := by
  refine ⟨env, F, he, hs, fin_bind q fun d v F1 H1 e1 x1 r1 q1 => ?_⟩
  obtain ⟨z, rfl, rfl, q2⟩ := as_bool r1 q1
  exact ⟨z, rfl, k z F1 H1 x1 q2⟩
theorem st_not (ha : PT X a (tB (C.rd ta))) : PT X (.UnaryOp .Not a pos) (tB (C.rd (.not_ ta))) :=
  PT.weak (pt_not ha) fun σ H Q ⟨env, F, he, hs, q⟩ => test_bind he hs (show fin C.K C.w ((ev C.glob C.fn ta env).bind _) F H _ _ from q) fun z F1 H1 x1 q2 => by
    obtain ⟨c, e, h⟩ := fin_ok (show fin C.K C.w (.ok (.bl (!z))) F1 H1 _ _ from q2) x1.inH rfl
    cases e
    exact h
theorem sw_and (ha : PT X a (tB (C.rd ta))) {rest : List Expr} (hb : PW X (.BoolOp .And (b :: rest) pos) (tB (C.rd tb))) : PW X (.BoolOp .And (a :: b :: rest) pos) (tB (C.rd (.and_ ta tb))) :=
  PW.weak (pw_and ha hb) fun σ H Q ⟨env, F, he, hs, q⟩ => test_bind he hs (show fin C.K C.w ((ev C.glob C.fn ta env).bind _) F H _ _ from q) fun z F1 H1 x1 q2 => by
    cases z with
    | true => rw [if_pos rfl]; exact ⟨env, F1, he.mono x1.sub, x1.inH, q2⟩
    | false =>
      rw [if_neg Bool.false_ne_true]
      obtain ⟨c, e, h⟩ := fin_ok (show fin C.K C.w (.ok (.bl false)) F1 H1 _ _ from q2) x1.inH rfl
      cases e
      exact h
theorem sw_or (ha : PT X a (tB (C.rd ta))) {rest : List Expr} (hb : PW X (.BoolOp .Or (b :: rest) pos) (tB (C.rd tb))) : PW X (.BoolOp .Or (a :: b :: rest) pos) (tB (C.rd (.or_ ta tb))) :=
  PW.weak (pw_or ha hb) fun σ H Q ⟨env, F, he, hs, q⟩ => test_bind he hs (show fin C.K C.w ((ev C.glob C.fn ta env).bind _) F H _ _ from q) fun z F1 H1 x1 q2 => by
    cases z with
    | false => rw [if_neg Bool.false_ne_true]; exact ⟨env, F1, he.mono x1.sub, x1.inH, q2⟩
    | true =>
      rw [if_pos rfl]
      obtain ⟨c, e, h⟩ := fin_ok (show fin C.K C.w (.ok (.bl true)) F1 H1 _ _ from q2) x1.inH rfl
      cases e
      exact h
theorem s_ite (hc : PT X c (tB (C.rd tc))) (ha : PE X a (C.rd ta)) (hb : PE X b (C.rd tb)) : PE X (.IfExp c a b pos) (C.rd (.ite tc ta tb)) :=
  PE.weak (pe_ifExp hc ha hb) fun σ H Q ⟨env, F, he, hs, q⟩ => test_bind he hs (show fin C.K C.w ((ev C.glob C.fn tc env).bind _) F H _ _ from q) fun z F1 H1 x1 q2 => by
    cases z with
    | true => rw [if_pos rfl]; exact ⟨env, F1, he.mono x1.sub, x1.inH, q2⟩
    | false => rw [if_neg Bool.false_ne_true]; exact ⟨env, F1, he.mono x1.sub, x1.inH, q2⟩
end
end Ev

/-! t[::-1] of a tuple. -/
namespace Ev
open PySem L2 PySem.Spec PyProof.Rows HT

section
variable {prog : Program} {w : World} {A : Around} {E : Value → Shared → Prop} {s : Shared}
theorem adj_back (n : Nat) : Builtin.Slice.sliceAdjust none none (-1) (n : Int) = ((n : Int) - 1, -1) := by
  unfold Builtin.Slice.sliceAdjust
  simp
theorem places_back (n : Nat) : Builtin.Slice.slicePlaces ((n : Int) - 1) (-1) (-1) = n := by
  unfold Builtin.Slice.slicePlaces
  simp
  omega
theorem sliceApplied_back {sl : Addr} {vl vu vs : Value} {n : Nat} {Q : Int × Int × Nat → Shared → Prop} (hsl : s.heap.IsSliceOf sl vl vu vs) (pl : IsPart vl none) (pu : IsPart vu none) (ps : IsPart vs (some (-1)))
    (h : Q ((n : Int) - 1, -1, n) s) : wpAny (model prog w) A (Builtin.Slice.sliceApplied (.ref sl) (pure (n : Int))) Q E s := by
  obtain ⟨os, hos, hcs, hds⟩ := id hsl
  unfold Builtin.Slice.sliceApplied Builtin.Slice.sliceFields
  refine wpAny_bind (wpAny_bind (wpAny_field hos hds (x := vl) rfl (wpAny_bind (wpAny_field hos hds (x := vu) rfl (wpAny_bind (wpAny_field hos hds (x := vs) rfl (wpAny_pure (wpAny_bind (slicePart_ ps ?_)))))))))
  show wpAny _ _ (if ((-1 : Int) == 0) = true then _ else _) _ _ s
  rw [if_neg (by decide)]; refine wpAny_bind (slicePart_ pl (wpAny_bind (slicePart_ pu (wpAny_bind (wpAny_pure ?_)))))
  show wpAny _ _ (match Builtin.Slice.sliceAdjust none none (-1) (n : Int) with | (lo, hi) => pure (lo, (-1 : Int), Builtin.Slice.slicePlaces lo hi (-1))) _ _ s
  rw [adj_back n]
  show wpAny _ _ (pure ((n : Int) - 1, (-1 : Int), Builtin.Slice.slicePlaces ((n : Int) - 1) (-1) (-1))) _ _ s
  rw [places_back]; exact wpAny_pure h
theorem pick_back (xs : Array Value) : ((List.range xs.size).filterMap fun (m : Nat) => xs[(((xs.size : Int) - 1) + (m : Int) * (-1)).toNat]?).toArray = xs.toList.reverse.toArray := by
  congr 1
  have e : ∀ m ∈ List.range xs.size, (xs[(((xs.size : Int) - 1) + (m : Int) * (-1)).toNat]?) = xs.toList.reverse[m]? := by
    intro m hm
    rw [List.mem_range] at hm
    have e1 : (((xs.size : Int) - 1) + (m : Int) * (-1)).toNat = xs.size - 1 - m := by omega
    rw [e1, List.getElem?_reverse (by simpa using hm), Array.length_toList, Array.getElem?_toList]
  have key : ∀ (l : List Value) (f : Nat → Option Value), (∀ m ∈ List.range l.length, f m = l[m]?) → (List.range l.length).filterMap f = l := by
    intro l f hf
    have go : ∀ n, n ≤ l.length → (List.range n).filterMap f = l.take n := by
      intro n
      induction n with
      | zero => intro _; rfl
      | succ n ih =>
        intro hn
        rw [List.range_succ, List.filterMap_append, ih (by omega)]
        have h2 : f n = some l[n] := by
          rw [hf n (by rw [List.mem_range]; omega), List.getElem?_eq_getElem (by omega)]
        rw [List.take_succ_eq_append_getElem (by omega)]
        simp [h2]
    rw [go l.length (Nat.le_refl _), List.take_length]
  have := key xs.toList.reverse (fun (m : Nat) => xs[(((xs.size : Int) - 1) + (m : Int) * (-1)).toNat]?) (by
    intro m hm
    rw [List.length_reverse, Array.length_toList] at hm
    exact e m hm)
  rw [List.length_reverse, Array.length_toList] at this
  exact this
theorem getItem_tuple_back {t sl : Addr} {items : Array Value} {vl vu vs : Value} {Q : Value → Shared → Prop} (ht : IsTup s.heap t items) (hsl : s.heap.IsSliceOf sl vl vu vs) (pl : IsPart vl none) (pu : IsPart vu none) (ps : IsPart vs (some (-1)))
    (h : Q (.ref s.heap.objs.size) { s with heap := s.heap.push { cls := .type "tuple", data := .seq items.toList.reverse.toArray } })
    (hsz : items.size ≤ sizeLine) : wpAny (model prog w) A (getItem (.ref t) (.ref sl)) Q E s := by
  have hok : sizeOk (.seq items.toList.reverse.toArray) := by
    show items.toList.reverse.toArray.size ≤ sizeLine
    simpa using hsz
  obtain ⟨os, hos, hcs, hds⟩ := id hsl
  have hTs : s.TypeIs (.ref sl) "slice" := ⟨os, hos, hcs⟩
  unfold getItem
  try with_reducible refine wpAny_holding ?_
  first | refine wpAny_bind (wpAny_pure ?_) | skip
  refine wpAny_bind (wpAny_sequenceKey ht.typeIs (by decide) (wpAny_bind (wpAny_callSpecial?_slot (name := Str.ofString "__getitem__") ht.typeIs PyProof.Rows.slot_tuple_getitem
    (wpAny_call_entry PyProof.Rows.slot_tuple_getitem ht.typeIs entry_tuple_getitem ?_ (args_tuple_getitem _ _)))))
  show wpAny _ _ (Builtin.Tuple.tupleItemsOf (.ref t) >>= _) _ _ s
  refine wpAny_bind (tupleItemsOf_ ht (wpAny_bind (wpAny_typeOf hTs ?_)))
  rw [if_pos (by decide)]; refine wpAny_bind (sliceApplied_back hsl pl pu ps ?_)
  have hno : ¬ ((((items.size : Int) - 1) == 0 && (-1 : Int) == 1 && items.size == items.size) = true) := by simp
  show wpAny _ _ (if (((items.size : Int) - 1) == 0 && (-1 : Int) == 1 && items.size == items.size) = true then _ else _) _ _ s
  rw [if_neg hno, pick_back]
  first
    | exact wpAny_bind (m := Builtin.Tuple.tupleExact _) (wpAny_newObj_type (wpAny_pure ⟨_, rfl, wpAny_pure h⟩) hok)
    | exact wpAny_bind (m := Builtin.Tuple.tupleExact _) (wpAny_newObj_type (wpAny_bind (wpAny_pure (wpAny_pure ⟨_, rfl, wpAny_pure h⟩))) hok)
    | exact wpAny_bind (wpAny_bind (m := Builtin.Tuple.tupleExact _) (wpAny_newObj_type (wpAny_pure (wpAny_pure ⟨_, rfl, wpAny_pure h⟩)) hok))
    | exact wpAny_bind (wpAny_bind (m := Builtin.Tuple.tupleExact _) (wpAny_newObj_type (wpAny_pure ⟨_, rfl, wpAny_pure h⟩) hok))
end
section
variable {X : Cx}
/-- x[::-1], by the value -/
def rdrev (K : PySem.W.Frag) (w : World) : V → Hp → VK → Prop := fun x H Q => ∃ F d, Same F H ∧ Rep K w F d x ∧ fin0 K w (rvs d) F H Q
def tRv (K : PySem.W.Frag) (w : World) (te : TE) : TE := fun σ H Q => te σ H fun x H1 => rdrev K w x H1 Q
theorem vals_reverse : ∀ {xs : List V} {us : List Value}, Vals xs us → Vals xs.reverse us.reverse
  | _, _, .nil => .nil
  | _, _, .cons r t => by
    rw [List.reverse_cons, List.reverse_cons]
    exact (vals_reverse t).append (.cons r .nil)
theorem pe_rev {e : Expr} {te : TE} {k : Nat} {p1 p2 p3 pos : Pos} (he : PE X e te) : PE X (.Subscript e (.Slice none none (some (.UnaryOp .USub (.Constant (.int 1) k p1) p2)) p3) pos) (tRv X.K X.w te) := by
  refine ⟨fun pins s σ H Q I h => Subscript_ (thn (he.run pins s σ H _ I h) fun v s1 ⟨x, H1, I1, r1, F, d, hs, hd, q⟩ => ?_)⟩
  have hst : PO X (some (.UnaryOp .USub (.Constant (.int 1) k p1) p2)) (tPart (tUn (rU fun i => .int (-i)) (tC (.int 1)))) := po_some (pe_un un_neg pe_int)
  refine wpAny_Slice (thn (po_none.run pins s1 σ H1 (fun o H2 => o = none ∧ H2 = H1) I1 ⟨rfl, rfl⟩) fun vl s2 ⟨l, H2, I2, pl, el, e2⟩ => ?_)
  subst el; subst e2
  refine thn (po_none.run pins s2 σ H2 (fun o H3 => o = none ∧ H3 = H2) I2 ⟨rfl, rfl⟩) fun vu s3 ⟨u, H3, I3, pu, eu, e3⟩ => ?_
  subst eu; subst e3
  refine thn (hst.run pins s3 σ H3 (fun o H4 => o = some (-1) ∧ H4 = H3) I3 ⟨1, rfl, -1, rfl, rfl, rfl⟩) fun vs s4 ⟨o, H4, I4, ps, eo, e4⟩ => ?_
  subst eo; subst e4
  refine upE I4.tk ?_
  have I5 : L2.Inv X pins σ H4 { s4 with heap := s4.heap.push { cls := .type "slice", data := .fields #[vl, vu, vs] } } := I4.toInv.kept (t' := s4.toks) fun b ob z => Heap.get?_push_of_some _ z
  have fr := I5.hok.fresh (Nat.le_refl _)
  show wpAny (model X.prog X.w) X.A (subscriptTail e (.Slice none none (some (.UnaryOp .USub (.Constant (.int 1) k p1) p2)) p3) v (.ref s4.heap.objs.size)) (L2.EP X pins σ Q) X.xe { s4 with heap := s4.heap.push { cls := .type "slice", data := .fields #[vl, vu, vs] } }
  unfold rvs at q
  split at q
  · obtain ⟨a, ws, rfl, h1, h2⟩ := hd
    cases r1
    obtain ⟨its, r, ht, hz⟩ := I5.tuple (Same.tup hs h1)
    have hlen := r.length
    refine tail_any (ops := [.ref a, .ref s4.heap.objs.size]) ht.typeIs PyProof.Rows.slot_tuple_getitem.lookup ?_ (by with_unfolding_all rfl)
    refine getItem_tuple_back ht (Heap.IsSliceOf.new _ vl vu vs) pl pu ps ?_ (by rw [List.size_toArray]; omega)
    have := layX I5 (vals_reverse r) (by rw [List.length_reverse]; exact hz) (fin_tup q hs h2.reverse)
    simpa using this
  · obtain ⟨a, ws, rfl, h1, h2⟩ := hd
    cases r1
    obtain ⟨its, r, ht, hz⟩ := I5.list (SqL.of (hs _ _ h1))
    have hlen := r.length
    refine tail_any (ops := [.ref a, .ref s4.heap.objs.size]) ht.isList.typeIs PySem.slot_list_getitem.lookup ?_ (by with_unfolding_all rfl)
    refine wpAny_getItem_list_slice ht.isList (Heap.IsSliceOf.new _ vl vu vs) pl pu ps (by decide) ?_ (by rw [List.size_toArray]; omega)
    rw [PySem.W.krv_pick]
    refine ⟨.ref _, _, I5.laid (t' := s4.toks) (o := .lst ws.reverse) (fun b ob z => Heap.get?_push_of_some _ z) (Nat.le_refl _) ?_, rfl, fin_lst q hs h2.reverse _ fr⟩
    exact ⟨by rw [List.length_reverse]; exact hz, _, 0, vals_reverse r, Heap.get?_push_size _ rfl⟩
  · exact False.elim q
end
end Ev

/-! Rules for subscripts, calls, built-in functions and methods. -/
namespace Ev
open PySem L2 PyProof.Rows

/-- an argument that is no star -/
def NoStar (e : Expr) : Prop := ∀ es env, starEach (e :: es) env = (false, eval e env) :: starEach es env
def noStarB : Expr → Bool
  | .Starred _ _ => false
  | _ => true
theorem noStar_of {e : Expr} (h : noStarB e = true) : NoStar e := by
  intro es env
  cases e <;> first | rfl | cases h
def NoStars : List Expr → Prop
  | [] => True
  | e :: es => NoStar e ∧ NoStars es
theorem noStars_any {pos : Pos} {env : PySem.Env} : ∀ {es : List Expr}, NoStars es → (backTo pos (starEach es env)).any (·.1) = false
  | [], _ => rfl
  | e :: es, h => by
    rw [h.1 es env]
    show (false || (backTo pos (starEach es env)).any (·.1)) = false
    rw [noStars_any h.2]; rfl
/-- no super() -/
def noCall0 : Expr → Bool
  | .Call _ [] _ _ => false
  | _ => true
theorem base_of {o : Expr} {n : Str} {env : PySem.Env} (h : noCall0 o = true) : attributeBase o n env (eval o env) = eval o env := by
  unfold attributeBase
  split
  · cases h
  · rfl
def notSlice : Expr → Bool
  | .Slice _ _ _ _ => false
  | _ => true
theorem plainIx_of {e : Expr} (h : notSlice e = true) : PlainIx e := by
  intro o i
  cases e <;> first | rfl | cases h

section
variable {nm : Nm} {X : Cx} {C : Ct} {a b c : Expr} {ta tb tc : E} {pos : Pos}
theorem idx_ne (d e : D) (k : Nat) : idx d e ≠ .ex k := by
  unfold idx
  split <;> first | (intro h; cases h; done) | (split <;> first | (intro h; cases h; done) | (split <;> (intro h; cases h)))
theorem s_idx (G : Gd0 X C) (ha : PE X a (C.rd ta)) (hb : PE X b (C.rd tb)) (hn : notSlice b = true) : PE X (.Subscript a b pos) (C.rd (.idx ta tb)) :=
  PE.weak (pe_ix (ix_idx G.hu) ha hb (plainIx_of hn)) fun σ H Q ⟨env, F, he, hs, q⟩ => by
    have q' : fin C.K C.w ((ev C.glob C.fn ta env).bind fun x => (ev C.glob C.fn tb env).bind fun y => idx x y) F H Q _ := q
    refine ⟨env, F, he, hs, fin_bind q' fun d v F1 H1 e1 x1 r1 q1 => ⟨env, F1, he.mono x1.sub, x1.inH, fin_bind q1 fun d2 v2 F2 H2 e2 x2 r2 q2 => ?_⟩⟩
    rw [G.hK, G.hw]
    exact ⟨F2, d, d2, x2.inH, Rep.mono x2.sub d v r1, r2, fin_no0 q2 (idx_ne d d2)⟩
theorem slc_ne (d : D) (lo hi : Option Int) (k : Nat) : slc d lo hi ≠ .ex k := by
  unfold slc
  split <;> first | (intro h; cases h; done) | (split <;> (intro h; cases h))
/-- an end of a slice -/
def Ct.rpt (C : Ct) (t : E) : TO := fun σ H Q => ∃ env F, EnvR C.K C.w F σ env ∧ Same F H ∧ (match (if t.isNul then R.ok none else (ev C.glob C.fn t env).bind intOf) with
  | .ok o => ∀ F' H', Ext F H F' H' → Q o H'
  | .ex c => ∀ H', Same H H' → C.W (.ref (C.ca c)) none σ H'
  | .no => False)
theorem s_noPart : PO X none (C.rpt .nul) := ⟨fun pins s σ H Q I ⟨env, F, he, hs, q⟩ => po_none.run pins s σ H Q I ((show ∀ F' H', Ext F H F' H' → Q none H' from q) F H (Ext.refl hs))⟩
theorem s_part {t : E} {e : Expr} (h : PE X e (C.rd t)) (hn : t.isNul = false) : PO X (some e) (C.rpt t) := ⟨fun pins s σ H Q I ⟨env, F, he, hs, q⟩ => (po_some h).run pins s σ H Q I (by
    refine ⟨env, F, he, hs, ?_⟩
    rw [hn, if_neg Bool.false_ne_true] at q
    cases e1 : ev C.glob C.fn t env with
    | no => rw [e1] at q; exact q
    | ex k => rw [e1] at q; exact q
    | ok d =>
      rw [e1] at q
      intro v F1 H1 x1 r1
      cases d with
      | int i =>
        obtain rfl : v = .int i := r1
        exact ⟨i, rfl, (show ∀ F' H', Ext F H F' H' → Q (some i) H' from q) F1 H1 x1⟩
      | _ => exact False.elim q)⟩
theorem rpt_bind {t : E} {σ : L2.St} {H F : Hp} {env : Env} {f : Option Int → R D} {Q : VK} {P : Option Int → Hp → Prop} (he : EnvR C.K C.w F σ env) (hs : Same F H)
    (q : fin C.K C.w ((if t.isNul then R.ok none else (ev C.glob C.fn t env).bind intOf).bind f) F H Q fun c H' => C.W (.ref (C.ca c)) none σ H')
    (k : ∀ o F1 H1, Ext F H F1 H1 → fin C.K C.w (f o) F1 H1 Q (fun c H' => C.W (.ref (C.ca c)) none σ H') → P o H1) : C.rpt t σ H P := by
  refine ⟨env, F, he, hs, ?_⟩
  cases e1 : (if t.isNul then R.ok none else (ev C.glob C.fn t env).bind intOf) with
  | no => rw [e1] at q; exact q
  | ex c => rw [e1] at q; exact q
  | ok o =>
    rw [e1] at q
    exact fun F1 H1 x1 => k o F1 H1 x1 (fin_mono x1 q)
theorem s_slc (G : Gd0 X C) {tl tu : E} {lo hi : Option Expr} {p2 : Pos} (ha : PE X a (C.rd ta)) (hl : PO X lo (C.rpt tl)) (hh : PO X hi (C.rpt tu)) : PE X (.Subscript a (.Slice lo hi none p2) pos) (C.rd (.slc ta tl tu)) :=
  PE.weak (pe_slice sl_slc ha hl hh) fun σ H Q ⟨env, F, he, hs, q⟩ => by
    refine ⟨env, F, he, hs, fin_bind (show fin C.K C.w ((ev C.glob C.fn ta env).bind _) F H Q _ from q) fun d v F1 H1 e1 x1 r1 q1 => ?_⟩
    refine rpt_bind (he.mono x1.sub) x1.inH q1 fun o F2 H2 x2 q2 => rpt_bind (he.mono (x1.sub.trans x2.sub)) x2.inH q2 fun o3 F3 H3 x3 q3 => ?_
    rw [G.hK, G.hw]
    exact ⟨F3, d, x3.inH, Rep.mono (x2.sub.trans x3.sub) d v r1, fin_no0 q3 (slc_ne d o o3)⟩
theorem rvs_ne (d : D) (k : Nat) : rvs d ≠ .ex k := by
  unfold rvs
  split <;> (intro h; cases h)
theorem s_rev (G : Gd0 X C) {k : Nat} {p1 p2 p3 : Pos} (ha : PE X a (C.rd ta)) : PE X (.Subscript a (.Slice none none (some (.UnaryOp .USub (.Constant (.int 1) k p1) p2)) p3) pos) (C.rd (.rev ta)) :=
  PE.weak (pe_rev ha) fun σ H Q ⟨env, F, he, hs, q⟩ => by
    refine ⟨env, F, he, hs, fin_bind (show fin C.K C.w ((ev C.glob C.fn ta env).bind _) F H Q _ from q) fun d v F1 H1 e1 x1 r1 q1 => ?_⟩
    rw [G.hK, G.hw]
    exact ⟨F1, d, x1.inH, r1, fin_no0 q1 (rvs_ne d)⟩

/-! ### defs -/
theorem s_call (G : Gd nm X C) {f n : Nat} {x : Str} {p : Pos} {es : List Expr} {ts : List E} (hf : nm.f f = some (x, n)) (hg : Gl X x) (hp : plainName x = true) (ha : PA X es (C.rds ts)) (hns : NoStars es) (hl : ts.length = n) (hle : ts.length = es.length) :
    PE X (.Call (.Name x p) es [] pos) (C.rd (.call f ts)) := by
  obtain ⟨fa, fd, ps, k, hF, hr, hm, hk, hb⟩ := G.fns f x n hf
  have key : ∀ σ H Q, C.rd (.call f ts) σ H Q → tCallS (C.sp f n) (WE C.W) (C.rds ts) σ H Q := fun σ H Q ⟨env, F, he, hs, q⟩ => by
    have q' : fin C.K C.w ((evs C.glob C.fn ts env).bind fun ds => C.fn f ds) F H Q _ := q
    refine ⟨env, F, he, hs, ?_⟩
    cases e2 : evs C.glob C.fn ts env with
    | no => rw [e2] at q'; exact q'
    | ex k => rw [e2] at q'; exact q'
    | ok ds =>
      rw [e2] at q'
      intro vs F2 H2 x2 r2
      have len : ∀ (ts : List E) (ds : List D), evs C.glob C.fn ts env = .ok ds → ts.length = ds.length := by
        intro ts
        induction ts with
        | nil => intro ds h; cases h; rfl
        | cons t ts ih =>
          intro ds h
          obtain ⟨d, h1, h2⟩ := R.bind_eq_ok (show R.bind (ev C.glob C.fn t env) _ = .ok ds from h)
          obtain ⟨r, h3, h4⟩ := R.bind_eq_ok h2
          cases h4
          rw [List.length_cons, List.length_cons, ih r h3]
      exact ⟨by rw [← r2.length, ← len ts ds e2, hl], F2, ds, x2.inH, r2, fin_mono x2 (show fin C.K C.w (C.fn f ds) F H Q _ from q')⟩
  cases es with
  | nil =>
    refine ⟨fun pins s σ H Q I h => wpAny_Call_Name_kw (ld_glob I.toInv hg hm ?_ (plain1 hp).1)⟩
    have h' := key σ H Q h
    have ht : ts = [] := List.length_eq_zero_iff.mp hle
    subst ht
    obtain ⟨env, F, he, hs, q⟩ := h'
    refine PySem.W.callWith_K0 I.toInv.kIn hk ?_
    exact run_fnS (us := []) (vs := []) hF hr hb (L2N.passAt G.takes σ) I .nil ((show ∀ vs F' H', Ext F H F' H' → Reps C.K C.w F' [] vs → _ from q) [] F H (Ext.refl hs) rfl)
  | cons e es => exact PE.weak (pe_callS hF hr hg hm hk hb (fun σ => L2N.passAt G.takes σ) ha (plain1 hp).1 (hns.1 es X.env) (noStars_any hns.2)) key

/-! ### built-in functions of one argument -/
theorem b1_core (G : Gd nm X C) {f : D → R D} {t : E} (hne : ∀ d k, f d ≠ .ex k) (hev : ∀ env, ev C.glob C.fn t env = (ev C.glob C.fn ta env).bind f) {σ : L2.St} {H : Hp} {Q : VK} (h : C.rd t σ H Q) : tCB (rd1 X.K X.w f) (tCons (C.rd ta) tNil) σ H Q := by
  obtain ⟨env, F, he, hs, q⟩ := h
  rw [hev env] at q
  refine ⟨env, F, he, hs, fin_bind q fun d v F1 H1 e1 x1 r1 q1 => ?_⟩
  rw [G.hK, G.hw]
  exact ⟨F1, d, v, rfl, x1.inH, r1, fin_no0 q1 (hne d)⟩
theorem s_b1 (G : Gd nm X C) {id : String} {x : Str} {f : D → R D} {t : E} {p : Pos} (hc : CallR X (.builtin id) (rd1 X.K X.w f)) (hv : bootBuiltins x = some (.builtin id)) (hx : x ∈ bnames) (hg : Gl X x) (hp : plainName x = true)
    (hne : ∀ d k, f d ≠ .ex k) (hev : ∀ env, ev C.glob C.fn t env = (ev C.glob C.fn ta env).bind f) (ha : PE X a (C.rd ta)) (ns : NoStar a) : PE X (.Call (.Name x p) [a] [] pos) (C.rd t) :=
  PE.weak (pe_callB hc hg (G.blt x hx) hv (pa_cons ha pa_nil (ns [] X.env)) (plain1 hp).2.2 (plain1 hp).1 (ns [] X.env) rfl) fun σ H Q h => b1_core G hne hev h
theorem s_t1 (G : Gd nm X C) {id : String} {x : Str} {f : D → R D} {t : E} {p : Pos} (hc : CallR X (.type id) (rd1 X.K X.w f)) (hv : bootBuiltins x = some (.type id)) (hx : x ∈ bnames) (hg : Gl X x) (hp : plainName x = true)
    (hne : ∀ d k, f d ≠ .ex k) (hev : ∀ env, ev C.glob C.fn t env = (ev C.glob C.fn ta env).bind f) (ha : PE X a (C.rd ta)) (ns : NoStar a) : PE X (.Call (.Name x p) [a] [] pos) (C.rd t) :=
  PE.weak (pe_callTy hc hg (G.blt x hx) hv (pa_cons ha pa_nil (ns [] X.env)) (plain1 hp).2.2 (plain1 hp).1 (ns [] X.env) rfl) fun σ H Q h => b1_core G hne hev h
theorem bn_core (G : Gd nm X C) {f : D → R D} {t : E} (hne : ∀ d k, f d ≠ .ex k) (hnew : ∀ d r, f d = .ok r → (∃ ds, r = .lst ds) ∨ ∃ ks ds, r = .dic ks ds) (hev : ∀ env, ev C.glob C.fn t env = (ev C.glob C.fn ta env).bind f) {σ : L2.St} {H : Hp} {Q : VK} (h : C.rn t σ H Q) : tCB (rdn1 X.K X.w f) (tCons (C.rd ta) tNil) σ H Q := by
  obtain ⟨env, F, he, hs, q⟩ := h
  rw [hev env] at q
  refine ⟨env, F, he, hs, ?_⟩
  cases e1 : ev C.glob C.fn ta env with
  | no => rw [e1] at q; exact q
  | ex k => rw [e1] at q; exact q
  | ok d =>
    rw [e1] at q
    intro v F1 H1 x1 r1
    rw [G.hK, G.hw]
    refine ⟨F1, d, v, rfl, x1.inH, r1, ?_⟩
    have eb : R.bind (.ok d) f = f d := rfl
    rw [eb] at q
    cases e2 : f d with
    | no => rw [e2] at q; exact q
    | ex k => exact absurd e2 (hne d k)
    | ok r =>
      rw [e2] at q
      rcases hnew d r e2 with ⟨ds, rfl⟩ | ⟨ks, ds, rfl⟩
      · exact fun p vs hp hr => q p vs F1 H1 x1 hp hr
      · exact fun p kvs hp h1 h2 h3 => q p kvs F1 H1 x1 hp h1 h2 h3
theorem s_tn (G : Gd nm X C) {id : String} {x : Str} {f : D → R D} {t : E} {p : Pos} (hc : CallR X (.type id) (rdn1 X.K X.w f)) (hv : bootBuiltins x = some (.type id)) (hx : x ∈ bnames) (hg : Gl X x) (hp : plainName x = true)
    (hne : ∀ d k, f d ≠ .ex k) (hnew : ∀ d r, f d = .ok r → (∃ ds, r = .lst ds) ∨ ∃ ks ds, r = .dic ks ds) (hev : ∀ env, ev C.glob C.fn t env = (ev C.glob C.fn ta env).bind f) (ha : PE X a (C.rd ta)) (ns : NoStar a) : PE X (.Call (.Name x p) [a] [] pos) (C.rn t) :=
  PE.weak (pe_callTy hc hg (G.blt x hx) hv (pa_cons ha pa_nil (ns [] X.env)) (plain1 hp).2.2 (plain1 hp).1 (ns [] X.env) rfl) fun σ H Q h => bn_core G hne hnew hev h
theorem s_bn (G : Gd nm X C) {id : String} {x : Str} {f : D → R D} {t : E} {p : Pos} (hc : CallR X (.builtin id) (rdn1 X.K X.w f)) (hv : bootBuiltins x = some (.builtin id)) (hx : x ∈ bnames) (hg : Gl X x) (hp : plainName x = true)
    (hne : ∀ d k, f d ≠ .ex k) (hnew : ∀ d r, f d = .ok r → (∃ ds, r = .lst ds) ∨ ∃ ks ds, r = .dic ks ds) (hev : ∀ env, ev C.glob C.fn t env = (ev C.glob C.fn ta env).bind f) (ha : PE X a (C.rd ta)) (ns : NoStar a) : PE X (.Call (.Name x p) [a] [] pos) (C.rn t) :=
  PE.weak (pe_callB hc hg (G.blt x hx) hv (pa_cons ha pa_nil (ns [] X.env)) (plain1 hp).2.2 (plain1 hp).1 (ns [] X.env) rfl) fun σ H Q h => bn_core G hne hnew hev h

theorem dLen_ne (d : D) (k : Nat) : dLen d ≠ .ex k := by unfold dLen; split <;> first | (intro h; cases h; done) | (split <;> (intro h; cases h))
theorem dAll_ne (d : D) (k : Nat) : dAll d ≠ .ex k := by unfold dAll; split <;> first | (intro h; cases h; done) | (split <;> (intro h; cases h))
theorem dSum_ne (d : D) (k : Nat) : dSum d ≠ .ex k := by unfold dSum; split <;> first | (intro h; cases h; done) | (split <;> (intro h; cases h))
theorem dStr_ne (d : D) (k : Nat) : dStr d ≠ .ex k := by unfold dStr; split <;> first | (intro h; cases h; done) | (split <;> (intro h; cases h))
theorem dAbs_ne (d : D) (k : Nat) : dAbs d ≠ .ex k := by unfold dAbs; split <;> (intro h; cases h)
theorem dTuple_ne (d : D) (k : Nat) : dTuple d ≠ .ex k := by unfold dTuple; split <;> (intro h; cases h)
theorem dList_ne (d : D) (k : Nat) : dList d ≠ .ex k := by unfold dList; split <;> (intro h; cases h)
theorem dList_new (d r : D) (h : dList d = .ok r) : (∃ ds, r = .lst ds) ∨ ∃ ks ds, r = .dic ks ds := by
  unfold dList at h
  split at h <;> first | (cases h; exact .inl ⟨_, rfl⟩) | cases h

/-! ### isinstance -/
def tyN : Ty → String
  | .int => "int"
  | .bool => "bool"
  | .str => "str"
  | .tuple => "tuple"
  | .list => "list"
def tyD : D → String
  | .non => "NoneType"
  | .bl _ => "bool"
  | .int _ => "int"
  | .str _ => "str"
  | .tup _ => "tuple"
  | .lst _ => "list"
  | .dic _ _ => "dict"
  | .scr _ => "list"
  | .gdc _ _ => "dict"
  | .adr _ => "dict"
theorem ty_of {K : PySem.W.Frag} {w : World} {F H : Hp} {d : D} {v : V} (hs : Same F H) (r : Rep K w F d v) (hd : ∀ a, d ≠ .adr a) : TyX K H v (.type (tyD d)) := by
  cases d with
  | non => obtain rfl := r; exact .base .non
  | bl b => obtain rfl := r; exact .base (.bl b)
  | int i => obtain rfl := r; exact .base (.int i)
  | str l => obtain ⟨rfl, _⟩ := r; exact .base (.str _)
  | tup ds =>
    obtain ⟨a, vs, rfl, h1, _⟩ := r
    rcases h1.t with (h1 | ⟨o, h1⟩) | ⟨o, its, n, h1, h2, _⟩
    · exact .base (.tup (hs _ _ h1))
    · exact .fTuple (hs _ _ h1)
    · exact .kTuple h1 h2
  | lst ds => obtain ⟨a, vs, rfl, h1, _⟩ := r; exact .base (.lst (hs _ _ h1))
  | dic ks ds => obtain ⟨a, kvs, rfl, h1, _⟩ := r; exact .base (.dK (hs _ _ h1))
  | scr ns =>
    obtain ⟨a, rfl, h1⟩ := r
    rcases h1 with (h1 | ⟨o, h1⟩) | ⟨o, its, n, h1, h2, _⟩
    · exact .base (.lst (hs _ _ h1))
    · exact .base (.frz (hs _ _ h1))
    · exact .kList h1 h2
  | gdc ks ds => obtain ⟨a, es, n, vs, rfl, h1, _⟩ := r; exact .kDict h1.at_ rfl
  | adr a => exact absurd rfl (hd a)
def tyHit (t : Ty) (n : String) : Bool := n == tyN t || (match t with
  | .int => n == "bool"
  | _ => false)
def tyAll : List String := ["NoneType", "bool", "int", "str", "tuple", "list", "dict"]
theorem kit_s (t : Ty) : ∀ n ∈ tyAll, kitB n (tyN t) = some (tyHit t n) := by
  cases t <;> decide +kernel
theorem kit_d (t : Ty) (d : D) : kitB (tyD d) (tyN t) = some (isTy t d) := by
  have e : tyHit t (tyD d) = isTy t d := by cases t <;> cases d <;> rfl
  rw [← e]
  exact kit_s t _ (by cases d <;> simp [tyD, tyAll])
theorem s_isi (G : Gd nm X C) {t : Ty} {p p2 : Pos} {tn : Str} (htn : tn = Str.ofString (tyN t)) (hg : Gl X "isinstance") (hg2 : Gl X tn) (ha : PE X a (C.rd ta)) (ns : NoStar a) :
    PE X (.Call (.Name "isinstance" p) [a, .Name tn p2] [] pos) (C.rd (.isi ta t)) := by
  have hb : bootBuiltins tn = some (.type (tyN t)) := by rw [htn]; cases t <;> decide +kernel
  have hm : X.mg tn = none := G.blt tn (by rw [htn]; cases t <;> decide +kernel)
  have pl : plainName tn = true := by rw [htn]; cases t <;> decide +kernel
  have h2 : PE X (.Name tn p2) (tC (.ty (tyN t))) := pe_bltn hg2 hm hb rfl (plain1 pl).2.2 (plain1 pl).1
  refine PE.weak (pe_callB call_isi hg (G.blt _ (by decide +kernel)) (by decide +kernel) (pa_cons ha (pa_cons h2 pa_nil rfl) (ns _ X.env)) (by decide) (by decide) (ns _ X.env) rfl) fun σ H Q ⟨env, F, he, hs, q⟩ => ?_
  refine ⟨env, F, he, hs, fin_bind (show fin C.K C.w ((ev C.glob C.fn ta env).bind _) F H Q _ from q) fun d v F1 H1 e1 x1 r1 q1 => ?_⟩
  have hd : ∀ a, d ≠ .adr a := fun a e => by subst e; exact q1
  have q2 : fin C.K C.w (.ok (.bl (isTy t d))) F1 H1 Q fun c H' => C.W (.ref (C.ca c)) none σ H' := by
    cases d <;> first | exact q1 | exact absurd rfl (hd _)
  rw [G.hK]
  exact ⟨v, _, _, _, isTy t d, rfl, .ty _, ty_of x1.inH r1 hd, kit_ty (kit_d t d), fin_ok q2 x1.inH rfl⟩
end
end Ev

/-! Targets, what is walked, comprehensions. -/
namespace Ev
open PySem L2 PyProof.Rows

/-! ### targets -/
mutual
theorem bind_out : ∀ (t : T) (d : D) (env env' : Env), bind t d env = .ok env' → env'.length = env.length ∧ (∀ i, i ∉ tslots t → env'[i]? = env[i]?) ∧ ∀ i ∈ tslots t, ∃ x, env'[i]? = some (.sh x)
  | .one j, d, env, env', h => by
    have h' : (if j < env.length then R.ok (env.set j (.sh d)) else .no) = .ok env' := h
    split at h'
    · rename_i hj
      cases h'
      refine ⟨List.length_set, fun i hi => ?_, fun i hi => ?_⟩
      · rw [List.getElem?_set_ne (fun e => hi (by rw [e]; exact List.mem_singleton.mpr rfl))]
      · obtain rfl : i = j := List.mem_singleton.mp hi
        exact ⟨d, List.getElem?_set_self hj⟩
    · cases h'
  | .many ts, .tup xs, env, env', h => binds_out ts xs env env' h
  | .many _, .non, _, _, h => by cases h
  | .many _, .bl _, _, _, h => by cases h
  | .many _, .int _, _, _, h => by cases h
  | .many _, .str _, _, _, h => by cases h
  | .many _, .lst _, _, _, h => by cases h
  | .many _, .dic _ _, _, _, h => by cases h
  | .many _, .scr _, _, _, h => by cases h
  | .many _, .gdc _ _, _, _, h => by cases h
  | .many _, .adr _, _, _, h => by cases h
theorem binds_out : ∀ (ts : List T) (xs : List D) (env env' : Env), binds ts xs env = .ok env' → env'.length = env.length ∧ (∀ i, i ∉ tslots.tsl ts → env'[i]? = env[i]?) ∧ ∀ i ∈ tslots.tsl ts, ∃ x, env'[i]? = some (.sh x)
  | [], [], env, env', h => by cases h; exact ⟨rfl, fun _ _ => rfl, fun _ hi => nomatch hi⟩
  | [], _ :: _, _, _, h => by cases h
  | _ :: _, [], _, _, h => by cases h
  | t :: ts, x :: xs, env, env', h => by
    obtain ⟨e1, h1, h2⟩ := R.bind_eq_ok (show R.bind (bind t x env) _ = .ok env' from h)
    obtain ⟨a1, a2, a3⟩ := bind_out t x env e1 h1
    obtain ⟨b1, b2, b3⟩ := binds_out ts xs e1 env' h2
    refine ⟨b1.trans a1, fun i hi => ?_, fun i hi => ?_⟩
    · have hi' : i ∉ tslots t ∧ i ∉ tslots.tsl ts := by
        rw [show tslots.tsl (t :: ts) = tslots t ++ tslots.tsl ts from rfl, List.mem_append, not_or] at hi
        exact hi
      rw [b2 i hi'.2, a2 i hi'.1]
    · rw [show tslots.tsl (t :: ts) = tslots t ++ tslots.tsl ts from rfl, List.mem_append] at hi
      by_cases hr : i ∈ tslots.tsl ts
      · exact b3 i hr
      · obtain ⟨z, hz⟩ := a3 i (hi.resolve_right hr)
        exact ⟨z, by rw [b2 i hr]; exact hz⟩
end
/-- what the slots hold behind a target -/
def Wrote (K : PySem.W.Frag) (w : World) (F : Hp) (sl : List Nat) (env' : Env) (σ σ' : L2.St) : Prop :=
  σ'.length = σ.length ∧ (∀ i, i ∉ sl → σ'[i]? = σ[i]?) ∧ ∀ i ∈ sl, ∀ x, env'[i]? = some (.sh x) → ∃ v, σ'[i]? = some (some v) ∧ Rep K w F x v
def Ct.gt (C : Ct) (t : T) : TG := fun v σ H Q => ∃ F d env env', Same F H ∧ RepT C.K C.w F t d v ∧ σ.length = env.length ∧ bind t d env = .ok env' ∧ ∀ σ', Wrote C.K C.w F (tslots t) env' σ σ' → Q σ' H
def Ct.gts (C : Ct) (ts : List T) : TGs := fun vs σ H Q => ∃ F ds env env', Same F H ∧ Reps C.K C.w F ds vs ∧ σ.length = env.length ∧ binds ts ds env = .ok env' ∧ ∀ σ', Wrote C.K C.w F (tslots.tsl ts) env' σ σ' → Q σ' H
theorem PG.weak {X : Cx} {e : Expr} {t t' : TG} (h : PG X e t) (k : ∀ v σ H Q, t' v σ H Q → t v σ H Q) : PG X e t' := ⟨fun pins s σ H v u Q I r q => h.run pins s σ H v u Q I r (k v σ H Q q)⟩
theorem PGs.weak {X : Cx} {e : List Expr} {t t' : TGs} (h : PGs X e t) (k : ∀ v σ H Q, t' v σ H Q → t v σ H Q) : PGs X e t' := ⟨fun pins s σ H v u Q I r q => h.run pins s σ H v u Q I r (k v σ H Q q)⟩
def tgStar : Expr → Bool
  | .Starred _ _ => false
  | _ => true
mutual
/-- ok: which names may be stored to -/
def chkT (N : List Str) (ok : Str → Bool) : T → Expr → Bool
  | .one i, .Name x _ => decide (N[i]? = some x) && ok x
  | .many ts, .Tuple es _ _ => chkTs N ok ts es
  | _, _ => false
def chkTs (N : List Str) (ok : Str → Bool) : List T → List Expr → Bool
  | [], [] => true
  | t :: ts, e :: es => chkT N ok t e && chkTs N ok ts es
  | _, _ => false
end
theorem lenB : ∀ (ts : List T) (xs : List D) (env env' : Env), binds ts xs env = .ok env' → ts.length = xs.length
  | [], [], _, _, _ => rfl
  | [], _ :: _, _, _, h => by cases h
  | _ :: _, [], _, _, h => by cases h
  | t :: ts, x :: xs, env, env', h => by
    obtain ⟨e1, h1, h2⟩ := R.bind_eq_ok (show R.bind (bind t x env) _ = .ok env' from h)
    rw [List.length_cons, List.length_cons, lenB ts xs e1 env' h2]
section
variable {X : Cx} {C : Ct}
mutual
theorem s_tgt (hK : X.K = C.K) (hN : X.N.Nodup) (hc : X.calm = true) {ok : Str → Bool} (hok : ∀ x, ok x = true → Loc X.env.scope x ∧ (X.fn x = true ∨ X.env.scope.names.lookup x = some .local)) :
    ∀ (t : T) (e : Expr), chkT X.N ok t e = true → PG X e (C.gt t)
  | .one i, .Name x pos, h => by
    have h' : decide (X.N[i]? = some x) = true ∧ ok x = true := Bool.and_eq_true_iff.mp h
    refine PG.weak (pg_name hN (of_decide_eq_true h'.1) (hok x h'.2).1 (hok x h'.2).2) fun v σ H Q ⟨F, d, env, env', hs, hr, hl, hb, q⟩ => ?_
    have hb' : (if i < env.length then R.ok (env.set i (.sh d)) else .no) = .ok env' := hb
    split at hb'
    · rename_i hi
      cases hb'
      refine q (σ.set i (some v)) ⟨List.length_set, fun j hj => List.getElem?_set_ne (fun e => hj (by rw [e]; exact List.mem_singleton.mpr rfl)), fun j hj x hx => ?_⟩
      obtain rfl : j = i := List.mem_singleton.mp hj
      rw [List.getElem?_set_self hi] at hx
      cases hx
      exact ⟨v, List.getElem?_set_self (by omega), hr⟩
    · cases hb'
  | .many ts, .Tuple es k pos, h => by
    obtain ⟨hg, hn, hst⟩ := s_tgts hK hN hc hok ts es h
    refine PG.weak (pg_tup hc hg (n := ts.length) (hn X.env) (hst X.env)) fun v σ H Q ⟨F, d, env, env', hs, hr, hl, hb, q⟩ => ?_
    cases d with
    | tup xs =>
      obtain ⟨a, vs, rfl, h1, h2⟩ : ∃ a vs, v = .ref a ∧ SqT C.K F a vs ∧ Reps C.K C.w F xs vs := by
        rcases hr with ⟨a, vs, e, h1, h2⟩ | ⟨ds, a, vs, e1, e2, h1, h2⟩
        · exact ⟨a, vs, e, h1.t, h2⟩
        · cases e1; exact ⟨a, vs, e2, h1, h2⟩
      refine ⟨a, vs, rfl, by rw [hK]; exact Same.tupT hs h1, ?_, F, xs, env, env', hs, h2, hl, hb, q⟩
      rw [← h2.length]
      exact (lenB ts xs env env' hb).symm
    | _ => cases hb
  | .one _, .BoolOp .., h => by cases h
  | .one _, .NamedExpr .., h => by cases h
  | .one _, .BinOp .., h => by cases h
  | .one _, .UnaryOp .., h => by cases h
  | .one _, .Lambda .., h => by cases h
  | .one _, .IfExp .., h => by cases h
  | .one _, .Dict .., h => by cases h
  | .one _, .Set .., h => by cases h
  | .one _, .ListComp .., h => by cases h
  | .one _, .SetComp .., h => by cases h
  | .one _, .DictComp .., h => by cases h
  | .one _, .GeneratorExp .., h => by cases h
  | .one _, .Await .., h => by cases h
  | .one _, .Yield .., h => by cases h
  | .one _, .YieldFrom .., h => by cases h
  | .one _, .Compare .., h => by cases h
  | .one _, .Call .., h => by cases h
  | .one _, .FormattedValue .., h => by cases h
  | .one _, .JoinedStr .., h => by cases h
  | .one _, .Constant .., h => by cases h
  | .one _, .Attribute .., h => by cases h
  | .one _, .Subscript .., h => by cases h
  | .one _, .Starred .., h => by cases h
  | .one _, .List .., h => by cases h
  | .one _, .Tuple .., h => by cases h
  | .one _, .Slice .., h => by cases h
  | .many _, .Name .., h => by cases h
  | .many _, .BoolOp .., h => by cases h
  | .many _, .NamedExpr .., h => by cases h
  | .many _, .BinOp .., h => by cases h
  | .many _, .UnaryOp .., h => by cases h
  | .many _, .Lambda .., h => by cases h
  | .many _, .IfExp .., h => by cases h
  | .many _, .Dict .., h => by cases h
  | .many _, .Set .., h => by cases h
  | .many _, .ListComp .., h => by cases h
  | .many _, .SetComp .., h => by cases h
  | .many _, .DictComp .., h => by cases h
  | .many _, .GeneratorExp .., h => by cases h
  | .many _, .Await .., h => by cases h
  | .many _, .Yield .., h => by cases h
  | .many _, .YieldFrom .., h => by cases h
  | .many _, .Compare .., h => by cases h
  | .many _, .Call .., h => by cases h
  | .many _, .FormattedValue .., h => by cases h
  | .many _, .JoinedStr .., h => by cases h
  | .many _, .Constant .., h => by cases h
  | .many _, .Attribute .., h => by cases h
  | .many _, .Subscript .., h => by cases h
  | .many _, .Starred .., h => by cases h
  | .many _, .List .., h => by cases h
  | .many _, .Slice .., h => by cases h
theorem s_tgts (hK : X.K = C.K) (hN : X.N.Nodup) (hc : X.calm = true) {ok : Str → Bool} (hok : ∀ x, ok x = true → Loc X.env.scope x ∧ (X.fn x = true ∨ X.env.scope.names.lookup x = some .local)) :
    ∀ (ts : List T) (es : List Expr), chkTs X.N ok ts es = true → PGs X es (C.gts ts) ∧ (∀ env, (assignEach es env).length = ts.length) ∧ ∀ env, (assignEach es env).findIdx? (·.1) = none
  | [], [], _ => by
    refine ⟨PGs.weak pgs_nil fun vs σ H Q ⟨F, ds, env, env', hs, hr, hl, hb, q⟩ => ?_, fun _ => rfl, fun _ => rfl⟩
    cases ds with
    | nil =>
      obtain rfl : vs = [] := hr
      cases hb
      exact ⟨rfl, q σ ⟨rfl, fun _ _ => rfl, fun _ hi => nomatch hi⟩⟩
    | cons _ _ => cases hb
  | [], _ :: _, h => by cases h
  | _ :: _, [], h => by cases h
  | t :: ts, e :: es, h => by
    have h' : chkT X.N ok t e = true ∧ chkTs X.N ok ts es = true := Bool.and_eq_true_iff.mp h
    have h1 := s_tgt hK hN hc hok t e h'.1
    obtain ⟨h2, h3, h4⟩ := s_tgts hK hN hc hok ts es h'.2
    have ns : ∀ env, assignEach (e :: es) env = (false, assign e env) :: assignEach es env := fun env => by
      cases e <;> first | rfl | (cases t <;> cases h'.1)
    refine ⟨PGs.weak (pgs_cons h1 h2 (by rw [ns X.env]; rfl)) fun vs σ H Q ⟨F, ds, env, env', hs, hr, hl, hb, q⟩ => ?_, fun env => by rw [ns env, List.length_cons, h3 env]; rfl, fun env => by rw [ns env, List.findIdx?_cons, h4 env]; rfl⟩
    cases ds with
    | nil => cases hb
    | cons d ds =>
      obtain ⟨v, r, rfl, r1, r2⟩ := hr
      obtain ⟨e1, b1, b2⟩ := R.bind_eq_ok (show R.bind (bind t d env) _ = .ok env' from hb)
      refine ⟨v, r, rfl, F, d, env, e1, hs, RepT.of r1, hl, b1, fun σ1 w1 => ⟨F, ds, e1, env', hs, r2, ?_, b2, fun σ2 w2 => q σ2 ?_⟩⟩
      · rw [w1.1, (bind_out t d env e1 b1).1]; exact hl
      · refine ⟨w2.1.trans w1.1, fun i hi => ?_, fun i hi x hx => ?_⟩
        · rw [show tslots.tsl (t :: ts) = tslots t ++ tslots.tsl ts from rfl, List.mem_append, not_or] at hi
          rw [w2.2.1 i hi.2, w1.2.1 i hi.1]
        · rw [show tslots.tsl (t :: ts) = tslots t ++ tslots.tsl ts from rfl, List.mem_append] at hi
          by_cases hr : i ∈ tslots.tsl ts
          · exact w2.2.2 i hr x hx
          · rw [w2.2.1 i hr]
            exact w1.2.2 i (hi.resolve_right hr) x (by rw [← (binds_out ts ds e1 env' b2).2.1 i hr]; exact hx)
end
end
end Ev

/-! enumerate and zip of lists and tuples alike. -/
namespace Ev
open PySem L2 PyProof.Rows RZ
set_option maxHeartbeats 1000000 in
theorem en_new {v : Value} {o : Obj} {G : Heap → Prop} (B : Begins v o G) :
    Meets (Builtin.«enumerate.__new__» ⟨[.type "enumerate", v], []⟩) (fun _ R s => G s.heap ∧
      R (.ok (.ret (.ref (s.heap.push o).objs.size))) { s with heap := (s.heap.push o).push { cls := .type "enumerate", data := .fields #[.none, .bool false, .ref s.heap.objs.size, rawInt 0, .none, .none] } }) :=
  .of_wp fun prog w A R s z => by
    obtain ⟨hp, g, d, tk, os⟩ := s
    obtain ⟨z1, z2⟩ := z
    have hsub := sub_enumerate
    have it : ∀ {A' : Around} {E : Value → Shared → Prop} {Q : Value → Shared → Prop}, Q (.ref hp.objs.size) ⟨hp.push o, g, d, tk, os⟩ → wpAny (model prog w) A' (pyIter v) Q E ⟨hp, g, d, tk, os⟩ :=
      fun q => B.iter prog w _ _ ⟨hp, g, d, tk, os⟩ _ z1 q
    wp_walk using it
    refine wpAny_stack_any fun st => wpAny_pure ?_
    split
    · rename_i c _ _ _ _ _
      cases (c == Value.type "enumerate") <;> (wp_walk using it) <;> exact ⟨_, rfl, z2⟩
    · wp_walk using it
      exact ⟨_, rfl, z2⟩
section
variable {prog : Program} {w : World} {A : Around} {E : Value → Shared → Prop} {s : Shared}
theorem en_begins {v : Value} {o : Obj} {G : Heap → Prop} {Q : Value → Shared → Prop} (B : Begins v o G) (z1 : G s.heap)
    (q : ∀ h', IsEnum h' (s.heap.objs.size + 1) s.heap.objs.size 0 .none → h'.get? s.heap.objs.size = some o → (∀ b u, s.heap.get? b = some u → h'.get? b = some u) → Q (.ref (s.heap.objs.size + 1)) { s with heap := h' }) :
    wpAny (model prog w) A (call (.type "enumerate") [v]) Q E s := by
  refine callType_new F.called_enumerate (by decide) (F.typeCall_enumerate_1 _) (F.newCall_enumerate_1 _) (fun x => F.args_object_init_2 x _) F.entry_enumerate_new (en_new B) ⟨z1, ?_⟩
  have e1 : (s.heap.push o).objs.size = s.heap.objs.size + 1 := Heap.size_push ..
  show _ ∧ _
  rw [e1]
  have e2 := Heap.get?_push_size (s.heap.push o) (o := { cls := .type "enumerate", data := .fields #[.none, .bool false, .ref s.heap.objs.size, rawInt 0, .none, .none] }) rfl
  rw [e1] at e2
  exact ⟨⟨_, e2, rfl⟩, q _ e2 (Heap.get?_push_of_some _ (Heap.get?_push_size _ B.free)) fun b u x => Heap.get?_push_of_some _ (Heap.get?_push_of_some _ x)⟩
end
end Ev

/-! enumerate of a tuple. -/
namespace Ev
open PySem L2 PyProof.Rows RZ
/-- a list or a tuple -/
def SqB (K : PySem.W.Frag) (b : Bool) (H : Hp) (a : Addr) (xs : List V) : Prop := if b then SqL K H a xs else SqT K H a xs
def ItAt (b : Bool) (h : Heap) (it a : Addr) (i : Nat) : Prop := if b then h.IsListIter it a i else h.IsTupleIter it a i
def HeldB (b : Bool) (h : Heap) (a : Addr) (items : Array Value) : Prop := if b then h.IsList a items else h.IsTuple a items
def iterB (b : Bool) (a : Addr) : Obj := if b then { cls := .type "list_iterator", data := .fields #[.ref a, .int 0 0] } else { cls := .type "tuple_iterator", data := .fields #[.ref a, .int 0 0] }
theorem begins_B (b : Bool) (a : Addr) (items : Array Value) : Begins (.ref a) (iterB b a) fun h => HeldB b h a items := by
  cases b
  · exact begins_tuple a items
  · exact begins_list a items
theorem ItAt.of {b : Bool} {h : Heap} {it a : Addr} (e : h.get? it = some (iterB b a)) : ItAt b h it a 0 := by
  cases b
  · exact ⟨_, e, rfl, rfl⟩
  · exact ⟨_, e, rfl, rfl⟩
theorem ItAt.obj {b : Bool} {h : Heap} {it a : Addr} {i : Nat} (x : ItAt b h it a i) : ∃ o, h.get? it = some o ∧ (o.cls = .type "list_iterator" ∨ o.cls = .type "tuple_iterator") ∧ ∀ v, o.data ≠ .cell v := by
  cases b
  · obtain ⟨o, h1, h2, h3⟩ := x
    exact ⟨o, h1, .inr h2, fun v q => by rw [h3] at q; cases q⟩
  · obtain ⟨o, h1, h2, h3⟩ := x
    exact ⟨o, h1, .inl h2, fun v q => by rw [h3] at q; cases q⟩
theorem ItAt.at {b : Bool} {h h' : Heap} {it a : Addr} {i : Nat} (x : ItAt b h it a i) (k : ∀ o, h.get? it = some o → h'.get? it = some o) : ItAt b h' it a i := by
  cases b
  · exact Heap.IsTupleIter.at x k
  · exact Heap.IsListIter.at x k
theorem HeldB.obj {b : Bool} {h : Heap} {a : Addr} {items : Array Value} (x : HeldB b h a items) : ∃ o, h.get? a = some o ∧ (o.cls = .type "list" ∨ o.cls = .type "tuple") := by
  cases b
  · obtain ⟨o, h1, h2, h3⟩ := x
    exact ⟨o, h1, .inr h2⟩
  · obtain ⟨o, h1, h2, h3⟩ := x
    exact ⟨o, h1, .inl h2⟩
theorem HeldB.ne {b c : Bool} {h : Heap} {a it a' : Addr} {i : Nat} {items : Array Value} (x : HeldB b h a items) (y : ItAt c h it a' i) : a ≠ it := fun e => by
  obtain ⟨o, h1, h2⟩ := x.obj
  obtain ⟨o', g1, g2, _⟩ := y.obj
  rw [e] at h1
  obtain rfl : o = o' := by rw [h1] at g1; exact Option.some.inj g1
  rcases h2 with h2 | h2 <;> rcases g2 with g2 | g2 <;> (rw [h2] at g2; simp at g2)
theorem draws_B {prog : Program} {w : World} {A : Around} (hh : A.handled = none) (b : Bool) (it a : Addr) (hne : a ≠ it) (items : Array Value) :
    Draws prog w A it [it, a] items.size (fun i v => items[i]? = some v) (fun i h => ItAt b h it a i ∧ HeldB b h a items) := by
  cases b
  · exact Draws.tuple hh it a hne items
  · exact Draws.list hh it a hne items
section
variable {X : Cx} {pins : List (Addr × Obj)} {σ : L2.St} {H : Hp} {s : Shared} {b : Bool} {a : Addr} {xs : List V}
theorem SqB.held (I : L2.Inv X pins σ H s) (h : SqB X.K b H a xs) : ∃ its, Vals xs its ∧ HeldB b s.heap a its.toArray := by
  cases b
  · obtain ⟨its, rv, p, _⟩ := I.tuple h
    exact ⟨its, rv, p⟩
  · obtain ⟨its, rv, p, _⟩ := I.list h
    exact ⟨its, rv, p.isList⟩
theorem SqB.inj (I : L2.Inv X pins σ H s) {ys : List V} (h : SqB X.K b H a xs) (g : SqB X.K b H a ys) : xs = ys := by
  cases b
  · exact I.tuple_inj h g
  · exact I.list_inj h g
end
def IteB (K : PySem.W.Frag) (b : Bool) (a : Addr) : It :=
  ⟨fun i H => ∃ (xs : List V) (x : V), SqB K b H a xs ∧ xs[i]? = some x, fun i H v H' => ∃ T x, v = .ref T ∧ H T = none ∧ H' = upd H T (.tup [.int (i : Nat), x]) ∧ ∀ xs, SqB K b H a xs → xs[i]? = some x, fun i H => ∃ xs : List V, SqB K b H a xs ∧ xs.length = i⟩
theorem walk_enB {K : PySem.W.Frag} {b : Bool} {a : Addr} {xs : List V} : Walk (IteB K b a) xs.length (fun H => SqB K b H a xs) (YPair (fun i => some (.int (i : Nat))) fun i => xs[i]?) :=
  ⟨fun i H hi hq => ⟨xs, xs[i], hq, List.getElem?_eq_getElem hi⟩, fun H hq => ⟨xs, hq, rfl⟩, fun i H v H' hi hq ⟨T, x, e1, e2, e3, e4⟩ => ⟨T, _, x, e1, e2, e3, rfl, e4 xs hq⟩⟩
theorem turn_enB {P : Program} {w : World} {K : PySem.W.Frag} {elts : List Expr} {kk : Nat} {tpos : Pos} (b : Bool) (a e it : Addr) :
    Turn P w K (.Tuple elts kk tpos) (IteB K b a) [e, it] e (fun i h => (∃ old, IsEnum h e it ((i : Nat) : Int) old) ∧ ItAt b h it a i ∧ e ≠ it) where
  mem := by simp
  obj := fun i h ⟨⟨old, he⟩, hi, _⟩ c hc => by
    rcases (show c = e ∨ c = it by simpa using hc) with rfl | rfl
    · exact ⟨_, he, fun v q => nomatch q⟩
    · obtain ⟨o, h1, _, h3⟩ := hi.obj
      exact ⟨o, h1, h3⟩
  keep := fun i h h' ⟨⟨old, he⟩, hi, hne⟩ k => ⟨⟨old, k e (by simp) _ he⟩, hi.at fun o q => k it (by simp) o q, hne⟩
  item := by
    rintro X rfl rfl rfl hc i pins s σ H E I hf ⟨⟨old, he⟩, hi, hne⟩ ⟨xs, x, hq, hx⟩
    obtain ⟨its, rv, p⟩ := hq.held I
    obtain ⟨u, hu, ru⟩ := rv.get hx
    have hai := p.ne hi
    have hel : e < s.heap.objs.size := Heap.lt_size he
    have hil : it < s.heap.objs.size := by obtain ⟨_, q, _⟩ := hi.obj; exact Heap.lt_size q
    have hae : e ≠ a := fun z => by
      obtain ⟨o, h1, h2⟩ := p.obj
      rw [← z, show s.heap.get? e = _ from he] at h1
      rw [← Option.some.inj h1] at h2
      rcases h2 with h2 | h2 <;> simp at h2
    have hlt : i < its.toArray.size := by
      have := (List.getElem?_eq_some_iff.mp hu).1
      simpa using this
    have D := draws_B (prog := X.prog) (w := X.w) (A := X.A.in1) (I.ok.hd hc) b it a hai its.toArray
    refine wpAny_pyNext_enum_itemD D he ⟨hi, p⟩ hlt hne (by simp [hne, hae]) fun y h' tk hy ho hst hT hsz hk => ?_
    have hy' : y = u := by
      have : its[i]? = some y := by simpa using hy
      rw [hu] at this; exact (Option.some.inj this).symm
    subst hy'
    refine ⟨_, rfl, wpAny_letOwnedTupleGo_enum (s := { s with heap := h', toks := tk + 1 }) ho fun h'' he' sb => ?_⟩
    have hT2 : h''.get? s.heap.objs.size = some { cls := .type "tuple", data := .seq #[.int i tk, y] } := (sb.2 _ (Nat.ne_of_gt hel)).trans hT
    have nw : ObjOk X.prog X.w (upd H s.heap.objs.size (.tup [.int (i : Nat), x])) h'' s.heap.objs.size (.tup [.int (i : Nat), x]) :=
      ⟨by show 2 ≤ sizeLine; decide, [.int i tk, y], .cons ⟨_, rfl⟩ (.cons ru .nil), ⟨_, hT2, rfl, _, rfl⟩⟩
    have I1 : L2.Inv X pins σ (upd H s.heap.objs.size (.tup [.int (i : Nat), x])) { s with heap := h'', toks := tk + 1 } :=
      I.turnedNew (ch := [e, it]) (fun c o hb q => (sb.2 c (fun z => hb (by simp [z]))).trans (hk c o (fun z => hb (by simp [z])) (fun z => hb (by simp [z])) q)) hf (Nat.le_refl _) nw
    refine ⟨.ref s.heap.objs.size, _, I1, rfl, ⟨_, x, rfl, I.hok.fresh (Nat.le_refl _), rfl, fun ys hy => by rw [hy.inj I hq]; exact hx⟩, ⟨⟨y, ?_⟩, hst.1.at fun o q => (sb.2 it (Ne.symm hne)).trans q, hne⟩, fun c hb => ?_⟩
    · rw [show ((i + 1 : Nat) : Int) = (i : Int) + 1 by omega]; exact he'
    · have hb' : c < s.heap.objs.size := by
        rcases (show c = e ∨ c = it by simpa using hb) with rfl | rfl
        · exact hel
        · exact hil
      rw [upd_ne (Nat.ne_of_lt hb')]
      exact (hf c hb).1
  done := by
    rintro X rfl rfl rfl hc i pins s σ H E I hf ⟨⟨old, he⟩, hi, hne⟩ ⟨xs, hq, hx⟩
    obtain ⟨its, rv, p⟩ := hq.held I
    obtain ⟨f0, f1, f2, f3, f4, f5⟩ := hf it (by simp)
    have hl := rv.length
    have hn : its.toArray.size = i := by simp; omega
    have D := draws_B (prog := X.prog) (w := X.w) (A := X.A.in1) (I.ok.hd hc) b it a (p.ne hi) its.toArray
    exact wpAny_pyNext_enum_endD D he (by rw [hn]; exact ⟨hi, p⟩) fun h' eb => ⟨rfl, I.turned (t' := s.toks) (fun c o hb q => eb c o hb q) f0 f1 f3 f4 f5⟩
  self := fun A i s Q E ⟨⟨_, he⟩, _⟩ h => wpAny_pyIter_enum he h
def iEnB (K : PySem.W.Frag) (ta : TA) : TI := fun σ H R => ta σ H fun vs H1 => ∃ a b xs, vs = [.ref a] ∧ SqB K b H1 a xs ∧ R (IteB K b a) H1
theorem pi_enB {X : Cx} {e : Expr} {ta : TA} {p pos tpos : Pos} {elts : List Expr} {kk : Nat} (hg : Gl X "enumerate") (hm : X.mg "enumerate" = none) (ha : PA X [e] ta) (hs : starEach [e] X.env = [(false, eval e X.env)]) :
    PI X (.Tuple elts kk tpos) (.Call (.Name "enumerate" p) [e] [] pos) (iEnB X.K ta) := by
  refine ⟨fun pins s σ H R I h => Call_ (ld_blt I.toInv hg hm boot_enumerate (PyProof.Rows.callWith_type1 (thn (ha.run pos pins s σ H _ I h) fun us s1 ⟨vs, H1, I1, r1, a, b, xs, ex, hq, q⟩ => ?_) hs rfl))⟩
  subst ex
  cases r1 with
  | cons r rr =>
    cases rr
    cases r
    first | refine upP I1.tk ?_ | refine upI1 I1.tk ?_
    replace I1 := I1.toInv
    obtain ⟨its, rv, p'⟩ := hq.held I1
    refine en_begins (begins_B b a its.toArray) p' fun h' he hit hk => wpAny_pyIter_enum he ?_
    have I2 : L2.Inv X pins σ H1 { s1 with heap := h' } := I1.kept (t' := s1.toks) hk
    refine ⟨s1.heap.objs.size + 1, [s1.heap.objs.size + 1, s1.heap.objs.size], _, _, H1, rfl, I2, turn_enB b a (s1.heap.objs.size + 1) s1.heap.objs.size, ⟨⟨.none, he⟩, ItAt.of hit, Nat.succ_ne_self _⟩, fun c hb => ?_, q⟩
    have hle : s1.heap.objs.size ≤ c := by
      rcases (show c = s1.heap.objs.size + 1 ∨ c = s1.heap.objs.size by simpa using hb) with rfl | rfl <;> omega
    exact I1.fpOk hle (I1.hok.fresh hle)
end Ev

/-! zip of two and of three, lists and tuples alike. -/
namespace Ev
open PySem L2 PyProof.Rows RZ
theorem ItAt.lt {b : Bool} {h : Heap} {it a : Addr} {i : Nat} (x : ItAt b h it a i) : it < h.objs.size := by
  obtain ⟨o, h1, _⟩ := x.obj
  exact Heap.lt_size h1
theorem HeldB.lt {b : Bool} {h : Heap} {a : Addr} {items : Array Value} (x : HeldB b h a items) : a < h.objs.size := by
  obtain ⟨o, h1, _⟩ := x.obj
  exact Heap.lt_size h1
def ItzB (K : PySem.W.Frag) (b c : Bool) (a a' : Addr) : It :=
  ⟨fun i H => ∃ (xs ys : List V) (x y : V), SqB K b H a xs ∧ SqB K c H a' ys ∧ xs[i]? = some x ∧ ys[i]? = some y,
    fun i H v H' => ∃ T x y, v = .ref T ∧ H T = none ∧ H' = upd H T (.tup [x, y]) ∧ (∀ xs, SqB K b H a xs → xs[i]? = some x) ∧ ∀ ys, SqB K c H a' ys → ys[i]? = some y,
    fun i H => ∃ xs ys : List V, SqB K b H a xs ∧ SqB K c H a' ys ∧ min xs.length ys.length = i⟩
theorem walk_zipB {K : PySem.W.Frag} {b c : Bool} {a a' : Addr} {xs ys : List V} : Walk (ItzB K b c a a') (min xs.length ys.length) (fun H => SqB K b H a xs ∧ SqB K c H a' ys) (YPair (fun i => xs[i]?) fun i => ys[i]?) :=
  ⟨fun i H hi hq => ⟨xs, ys, xs[i]'(by omega), ys[i]'(by omega), hq.1, hq.2, List.getElem?_eq_getElem (by omega), List.getElem?_eq_getElem (by omega)⟩, fun H hq => ⟨xs, ys, hq.1, hq.2, rfl⟩,
    fun i H v H' hi hq ⟨T, x, y, e1, e2, e3, e4, e5⟩ => ⟨T, x, y, e1, e2, e3, e4 xs hq.1, e5 ys hq.2⟩⟩
theorem turn_zipB {P : Program} {w : World} {K : PySem.W.Frag} {elts : List Expr} {kk : Nat} {tpos : Pos} (b c : Bool) {a a' z TI TO i1 i2 : Addr} (D : ZipSep2 z TI TO i1 i2 [i1, a] [i2, a']) :
    Turn P w K (.Tuple elts kk tpos) (ItzB K b c a a') [z, TI, TO, i1, i2] z (fun i h => IsZip h z TI TO .none ∧ IsTupOf2 h TI (.ref i1) (.ref i2) ∧ (∃ x y, IsTupOf2 h TO x y) ∧ ItAt b h i1 a i ∧ ItAt c h i2 a' i) where
  mem := by simp
  obj := fun i h st e he => by
    obtain ⟨hz, hTI, ⟨x, y, hTO⟩, h1, h2⟩ := st
    have e' : e = z ∨ e = TI ∨ e = TO ∨ e = i1 ∨ e = i2 := by simpa using he
    rcases e' with q | q | q | q | q
    · rw [q]; exact ⟨_, hz, fun v q => nomatch q⟩
    · rw [q]; exact ⟨_, hTI, fun v q => nomatch q⟩
    · rw [q]; exact ⟨_, hTO, fun v q => nomatch q⟩
    · rw [q]; obtain ⟨o, g1, _, g3⟩ := h1.obj; exact ⟨o, g1, g3⟩
    · rw [q]; obtain ⟨o, g1, _, g3⟩ := h2.obj; exact ⟨o, g1, g3⟩
  keep := fun i h h' st k => by
    obtain ⟨hz, hTI, ⟨x, y, hTO⟩, h1, h2⟩ := st
    exact ⟨k z (by simp) _ hz, k TI (by simp) _ hTI, ⟨x, y, k TO (by simp) _ hTO⟩, h1.at fun o q => k i1 (by simp) o q, h2.at fun o q => k i2 (by simp) o q⟩
  item := by
    rintro X rfl rfl rfl hc i pins s σ H E I hf ⟨hz, hTI, ⟨x0, y0, hTO⟩, h1, h2⟩ ⟨xs, ys, x, y, hqx, hqy, hx, hy⟩
    obtain ⟨its, rv, p⟩ := hqx.held I
    obtain ⟨its2, rv2, p2⟩ := hqy.held I
    obtain ⟨u, hu, ru⟩ := rv.get hx
    obtain ⟨u2, hu2, ru2⟩ := rv2.get hy
    have hzl : z < s.heap.objs.size := Heap.lt_size hz
    have D1 := draws_B (prog := X.prog) (w := X.w) (A := X.A.in1) (I.ok.hd hc) b i1 a (p.ne h1) its.toArray
    have D2 := draws_B (prog := X.prog) (w := X.w) (A := X.A.in1) (I.ok.hd hc) c i2 a' (p2.ne h2) its2.toArray
    have l1 : i < its.toArray.size := by have := (List.getElem?_eq_some_iff.mp hu).1; simpa using this
    have l2 : i < its2.toArray.size := by have := (List.getElem?_eq_some_iff.mp hu2).1; simpa using this
    refine wpAny_pyNext_zipD2_item D D1 D2 hz hTI hTO ⟨h1, p⟩ ⟨h2, p2⟩ l1 l2 fun v1 v2 h' tk e1 e2 z' TO' s1 s2 hT hsz hk => ?_
    have e1 : v1 = u := by
      have : its[i]? = some v1 := by simpa using e1
      rw [hu] at this; exact (Option.some.inj this).symm
    have e2 : v2 = u2 := by
      have : its2[i]? = some v2 := by simpa using e2
      rw [hu2] at this; exact (Option.some.inj this).symm
    subst e1 e2
    refine ⟨_, rfl, wpAny_letOwnedTupleGo_zip (s := { s with heap := h', toks := tk }) z' fun h'' z'' sb => ?_⟩
    have hT2 : h''.get? s.heap.objs.size = some { cls := .type "tuple", data := .seq #[v1, v2] } := (sb.2 _ (Nat.ne_of_gt hzl)).trans hT
    have new : ObjOk X.prog X.w (upd H s.heap.objs.size (.tup [x, y])) h'' s.heap.objs.size (.tup [x, y]) :=
      ⟨by show 2 ≤ sizeLine; decide, [v1, v2], .cons ru (.cons ru2 .nil), ⟨_, hT2, rfl, _, rfl⟩⟩
    have I1 : L2.Inv X pins σ (upd H s.heap.objs.size (.tup [x, y])) { s with heap := h'', toks := tk } :=
      I.turnedNew (ch := [z, TI, TO, i1, i2]) (fun c o hb q => (sb.2 c (fun q' => hb (by simp [q']))).trans (hk c o (fun q' => hb (by simp [q'])) (fun q' => hb (by simp [q'])) (fun q' => hb (by simp [q'])) (fun q' => hb (by simp [q'])) q)) hf (Nat.le_refl _) new
    refine ⟨.ref s.heap.objs.size, _, I1, rfl, ⟨_, x, y, rfl, I.hok.fresh (Nat.le_refl _), rfl, fun l hl => by rw [hl.inj I hqx]; exact hx, fun l hl => by rw [hl.inj I hqy]; exact hy⟩, ⟨z'', ?_, ⟨v1, v2, ?_⟩, ?_, ?_⟩, fun c hcm => ?_⟩
    · exact (sb.2 _ D.TIz).trans (hk _ _ D.TIz D.TITO D.TIi1 D.TIi2 hTI)
    · exact (sb.2 _ D.TOz).trans TO'
    · exact s1.1.at fun o q => (sb.2 _ (Ne.symm D.zi1)).trans q
    · exact s2.1.at fun o q => (sb.2 _ (Ne.symm D.zi2)).trans q
    · have hlt : c < s.heap.objs.size := by
        have e' : c = z ∨ c = TI ∨ c = TO ∨ c = i1 ∨ c = i2 := by simpa using hcm
        rcases e' with q | q | q | q | q
        · rw [q]; exact hzl
        · rw [q]; exact Heap.lt_size hTI
        · rw [q]; exact Heap.lt_size hTO
        · rw [q]; exact h1.lt
        · rw [q]; exact h2.lt
      rw [upd_ne (Nat.ne_of_lt hlt)]
      exact (hf c hcm).1
  done := by
    rintro X rfl rfl rfl hc i pins s σ H E I hf ⟨hz, hTI, ⟨x0, y0, hTO⟩, h1, h2⟩ ⟨xs, ys, hqx, hqy, hend⟩
    obtain ⟨its, rv, p⟩ := hqx.held I
    obtain ⟨its2, rv2, p2⟩ := hqy.held I
    have l1 := rv.length
    have l2 := rv2.length
    have D1 := draws_B (prog := X.prog) (w := X.w) (A := X.A.in1) (I.ok.hd hc) b i1 a (p.ne h1) its.toArray
    have D2 := draws_B (prog := X.prog) (w := X.w) (A := X.A.in1) (I.ok.hd hc) c i2 a' (p2.ne h2) its2.toArray
    exact wpAny_pyNext_zipD2_end D D1 D2 hz hTI hTO ⟨h1, p⟩ ⟨h2, p2⟩ (by simp; omega) (by simp; omega) (by simp; omega) fun h' tk hk => ⟨rfl, I.turnedL (t' := tk) (ch := [z, TI, TO, i1, i2]) (fun c o hb q =>
      hk c o (fun q' => hb (by simp [q'])) (fun q' => hb (by simp [q'])) (fun q' => hb (by simp [q'])) (fun q' => hb (by simp [q'])) q) hf⟩
  self := fun A i s Q E st h => wpAny_pyIter_zip st.1 h
def iZipB (K : PySem.W.Frag) (ta : TA) : TI := fun σ H R => ta σ H fun vs H1 => ∃ a a' b c xs ys, vs = [.ref a, .ref a'] ∧ SqB K b H1 a xs ∧ SqB K c H1 a' ys ∧ R (ItzB K b c a a') H1
theorem nt_in {x a b : Nat} (h1 : x ≠ a) (h2 : x ≠ b) : ¬ (x ∈ [a, b]) := fun h => by
  rcases List.mem_cons.mp h with h | h
  · exact h1 h
  · exact h2 (List.mem_singleton.mp h)
theorem nt_eq {x y : Nat} (h : ¬ x = y) : x ≠ y := h
theorem zpb_sep2 (n a a' : Nat) (h : a < n) (h' : a' < n) : ZipSep2 (n + 4) (n + 2) (n + 3) n (n + 1) [n, a] [n + 1, a'] :=
  { TIz := nt_eq (by omega), TOz := nt_eq (by omega), TITO := nt_eq (by omega), TIi1 := nt_eq (by omega), mem1 := List.mem_cons_self, zf1 := nt_in (by omega) (by omega), Tf1 := nt_in (by omega) (by omega),
    TIi2 := nt_eq (by omega), mem2 := List.mem_cons_self, zf2 := nt_in (by omega) (by omega), Tf2 := nt_in (by omega) (by omega), sep1_2 := nt_in (by omega) (by omega), sep2_1 := nt_in (by omega) (by omega) }
theorem pi_zipB {X : Cx} {e e2 : Expr} {ta : TA} {p pos tpos : Pos} {elts : List Expr} {kk : Nat} (hg : Gl X "zip") (hm : X.mg "zip" = none) (ha : PA X [e, e2] ta)
    (hs : starEach [e, e2] X.env = (false, eval e X.env) :: starEach [e2] X.env) (hpl : (backTo pos (starEach [e2] X.env)).any (·.1) = false) :
    PI X (.Tuple elts kk tpos) (.Call (.Name "zip" p) [e, e2] [] pos) (iZipB X.K ta) := by
  refine ⟨fun pins s σ H R I h => ?_⟩
  refine Call_ (ld_blt I.toInv hg hm PyProof.Rows.boot_zip (PyProof.Rows.callWith_type1 (thn (ha.run pos pins s σ H _ I h) fun us s1 ⟨vs, H1, I1, r1, a, a', b, c, xs, ys, ex, hqx, hqy, q⟩ => ?_) hs hpl))
  subst ex
  cases r1 with
  | cons r rr =>
    cases rr with
    | cons r' rr =>
      cases rr
      cases r
      cases r'
      first | refine upP I1.tk ?_ | refine upI1 I1.tk ?_
      replace I1 := I1.toInv
      obtain ⟨its, rv, p1⟩ := hqx.held I1
      obtain ⟨its2, rv2, p2⟩ := hqy.held I1
      refine zip_begins2 (begins_B b a its.toArray) (begins_B c a' its2.toArray) p1 p2 fun h' hz hTI hTO h1 h2 hsz hk => wpAny_pyIter_zip hz ?_
      have I2 : L2.Inv X pins σ H1 { s1 with heap := h' } := I1.kept (t' := s1.toks) hk
      refine ⟨s1.heap.objs.size + 4, [s1.heap.objs.size + 4, s1.heap.objs.size + 2, s1.heap.objs.size + 3, s1.heap.objs.size, s1.heap.objs.size + 1], _, _, H1, rfl, I2, turn_zipB b c (zpb_sep2 s1.heap.objs.size a a' p1.lt p2.lt), ⟨hz, hTI, ⟨_, _, hTO⟩, ItAt.of h1, ItAt.of h2⟩, fun d hd => ?_, q⟩
      have e' : d = s1.heap.objs.size + 4 ∨ d = s1.heap.objs.size + 2 ∨ d = s1.heap.objs.size + 3 ∨ d = s1.heap.objs.size ∨ d = s1.heap.objs.size + 1 := by simpa using hd
      have hle : s1.heap.objs.size ≤ d := by
        rcases e' with z | z | z | z | z <;> (rw [z]; omega)
      exact I1.fpOk hle (I1.hok.fresh hle)
/-! ### of three -/
def ItzC (K : PySem.W.Frag) (b c d : Bool) (a1 a2 a3 : Addr) : It :=
  ⟨fun i H => ∃ (xs ys zs : List V) (x y z : V), SqB K b H a1 xs ∧ SqB K c H a2 ys ∧ SqB K d H a3 zs ∧ xs[i]? = some x ∧ ys[i]? = some y ∧ zs[i]? = some z,
    fun i H v H' => ∃ T x y z, v = .ref T ∧ H T = none ∧ H' = upd H T (.tup [x, y, z]) ∧ (∀ xs, SqB K b H a1 xs → xs[i]? = some x) ∧ (∀ ys, SqB K c H a2 ys → ys[i]? = some y) ∧ ∀ zs, SqB K d H a3 zs → zs[i]? = some z,
    fun i H => ∃ xs ys zs : List V, SqB K b H a1 xs ∧ SqB K c H a2 ys ∧ SqB K d H a3 zs ∧ min (min xs.length ys.length) zs.length = i⟩
def YTrip (xs ys zs : Nat → Option V) (i : Nat) (H : Hp) (v : V) (H' : Hp) : Prop := ∃ T x y z, v = .ref T ∧ H T = none ∧ H' = upd H T (.tup [x, y, z]) ∧ xs i = some x ∧ ys i = some y ∧ zs i = some z
theorem walk_zipC {K : PySem.W.Frag} {b c d : Bool} {a1 a2 a3 : Addr} {xs ys zs : List V} : Walk (ItzC K b c d a1 a2 a3) (min (min xs.length ys.length) zs.length) (fun H => SqB K b H a1 xs ∧ SqB K c H a2 ys ∧ SqB K d H a3 zs) (YTrip (fun i => xs[i]?) (fun i => ys[i]?) fun i => zs[i]?) :=
  ⟨fun i H hi hq => ⟨xs, ys, zs, xs[i]'(by omega), ys[i]'(by omega), zs[i]'(by omega), hq.1, hq.2.1, hq.2.2, List.getElem?_eq_getElem (by omega), List.getElem?_eq_getElem (by omega), List.getElem?_eq_getElem (by omega)⟩, fun H hq => ⟨xs, ys, zs, hq.1, hq.2.1, hq.2.2, rfl⟩,
    fun i H v H' hi hq ⟨T, x, y, z, e1, e2, e3, e4, e5, e6⟩ => ⟨T, x, y, z, e1, e2, e3, e4 xs hq.1, e5 ys hq.2.1, e6 zs hq.2.2⟩⟩
theorem turn_zipC {P : Program} {w : World} {K : PySem.W.Frag} {elts : List Expr} {kk : Nat} {tpos : Pos} (b c d : Bool) {a1 a2 a3 z TI TO i1 i2 i3 : Addr} (D : ZipSep3 z TI TO i1 i2 i3 [i1, a1] [i2, a2] [i3, a3]) :
    Turn P w K (.Tuple elts kk tpos) (ItzC K b c d a1 a2 a3) [z, TI, TO, i1, i2, i3] z (fun i h => IsZip h z TI TO .none ∧ IsTupOf3 h TI (.ref i1) (.ref i2) (.ref i3) ∧ (∃ x y u, IsTupOf3 h TO x y u) ∧ ItAt b h i1 a1 i ∧ ItAt c h i2 a2 i ∧ ItAt d h i3 a3 i) where
  mem := by simp
  obj := fun i h st e he => by
    obtain ⟨hz, hTI, ⟨x, y, u, hTO⟩, h1, h2, h3⟩ := st
    have e' : e = z ∨ e = TI ∨ e = TO ∨ e = i1 ∨ e = i2 ∨ e = i3 := by simpa using he
    rcases e' with q | q | q | q | q | q
    · rw [q]; exact ⟨_, hz, fun v q => nomatch q⟩
    · rw [q]; exact ⟨_, hTI, fun v q => nomatch q⟩
    · rw [q]; exact ⟨_, hTO, fun v q => nomatch q⟩
    · rw [q]; obtain ⟨o, g1, _, g3⟩ := h1.obj; exact ⟨o, g1, g3⟩
    · rw [q]; obtain ⟨o, g1, _, g3⟩ := h2.obj; exact ⟨o, g1, g3⟩
    · rw [q]; obtain ⟨o, g1, _, g3⟩ := h3.obj; exact ⟨o, g1, g3⟩
  keep := fun i h h' st k => by
    obtain ⟨hz, hTI, ⟨x, y, u, hTO⟩, h1, h2, h3⟩ := st
    exact ⟨k z (by simp) _ hz, k TI (by simp) _ hTI, ⟨x, y, u, k TO (by simp) _ hTO⟩, h1.at fun o q => k i1 (by simp) o q, h2.at fun o q => k i2 (by simp) o q, h3.at fun o q => k i3 (by simp) o q⟩
  item := by
    rintro X rfl rfl rfl hc i pins s σ H E I hf ⟨hz, hTI, ⟨x0, y0, u0, hTO⟩, h1, h2, h3⟩ ⟨xs, ys, zs, x, y, zz, hqx, hqy, hqz, hx, hy, hzz⟩
    obtain ⟨its, rv, p⟩ := hqx.held I
    obtain ⟨its2, rv2, p2⟩ := hqy.held I
    obtain ⟨its3, rv3, p3⟩ := hqz.held I
    obtain ⟨u, hu, ru⟩ := rv.get hx
    obtain ⟨u2, hu2, ru2⟩ := rv2.get hy
    obtain ⟨u3, hu3, ru3⟩ := rv3.get hzz
    have hzl : z < s.heap.objs.size := Heap.lt_size hz
    have D1 := draws_B (prog := X.prog) (w := X.w) (A := X.A.in1) (I.ok.hd hc) b i1 a1 (p.ne h1) its.toArray
    have D2 := draws_B (prog := X.prog) (w := X.w) (A := X.A.in1) (I.ok.hd hc) c i2 a2 (p2.ne h2) its2.toArray
    have D3 := draws_B (prog := X.prog) (w := X.w) (A := X.A.in1) (I.ok.hd hc) d i3 a3 (p3.ne h3) its3.toArray
    have l1 : i < its.toArray.size := by have := (List.getElem?_eq_some_iff.mp hu).1; simpa using this
    have l2 : i < its2.toArray.size := by have := (List.getElem?_eq_some_iff.mp hu2).1; simpa using this
    have l3 : i < its3.toArray.size := by have := (List.getElem?_eq_some_iff.mp hu3).1; simpa using this
    refine wpAny_pyNext_zipD3_item D D1 D2 D3 hz hTI hTO ⟨h1, p⟩ ⟨h2, p2⟩ ⟨h3, p3⟩ l1 l2 l3 fun v1 v2 v3 h' tk e1 e2 e3 z' TO' s1 s2 s3 hT hsz hk => ?_
    have e1 : v1 = u := by
      have : its[i]? = some v1 := by simpa using e1
      rw [hu] at this; exact (Option.some.inj this).symm
    have e2 : v2 = u2 := by
      have : its2[i]? = some v2 := by simpa using e2
      rw [hu2] at this; exact (Option.some.inj this).symm
    have e3 : v3 = u3 := by
      have : its3[i]? = some v3 := by simpa using e3
      rw [hu3] at this; exact (Option.some.inj this).symm
    subst e1 e2 e3
    refine ⟨_, rfl, wpAny_letOwnedTupleGo_zip (s := { s with heap := h', toks := tk }) z' fun h'' z'' sb => ?_⟩
    have hT2 : h''.get? s.heap.objs.size = some { cls := .type "tuple", data := .seq #[v1, v2, v3] } := (sb.2 _ (Nat.ne_of_gt hzl)).trans hT
    have new : ObjOk X.prog X.w (upd H s.heap.objs.size (.tup [x, y, zz])) h'' s.heap.objs.size (.tup [x, y, zz]) :=
      ⟨by show 3 ≤ sizeLine; decide, [v1, v2, v3], .cons ru (.cons ru2 (.cons ru3 .nil)), ⟨_, hT2, rfl, _, rfl⟩⟩
    have I1 : L2.Inv X pins σ (upd H s.heap.objs.size (.tup [x, y, zz])) { s with heap := h'', toks := tk } :=
      I.turnedNew (ch := [z, TI, TO, i1, i2, i3]) (fun c o hb q => (sb.2 c (fun q' => hb (by simp [q']))).trans (hk c o (fun q' => hb (by simp [q'])) (fun q' => hb (by simp [q'])) (fun q' => hb (by simp [q'])) (fun q' => hb (by simp [q'])) (fun q' => hb (by simp [q'])) q)) hf (Nat.le_refl _) new
    refine ⟨.ref s.heap.objs.size, _, I1, rfl, ⟨_, x, y, zz, rfl, I.hok.fresh (Nat.le_refl _), rfl, fun l hl => by rw [hl.inj I hqx]; exact hx, fun l hl => by rw [hl.inj I hqy]; exact hy, fun l hl => by rw [hl.inj I hqz]; exact hzz⟩, ⟨z'', ?_, ⟨v1, v2, v3, ?_⟩, ?_, ?_, ?_⟩, fun c hcm => ?_⟩
    · exact (sb.2 _ D.TIz).trans (hk _ _ D.TIz D.TITO D.TIi1 D.TIi2 D.TIi3 hTI)
    · exact (sb.2 _ D.TOz).trans TO'
    · exact s1.1.at fun o q => (sb.2 _ (Ne.symm D.zi1)).trans q
    · exact s2.1.at fun o q => (sb.2 _ (Ne.symm D.zi2)).trans q
    · exact s3.1.at fun o q => (sb.2 _ (Ne.symm D.zi3)).trans q
    · have hlt : c < s.heap.objs.size := by
        have e' : c = z ∨ c = TI ∨ c = TO ∨ c = i1 ∨ c = i2 ∨ c = i3 := by simpa using hcm
        rcases e' with q | q | q | q | q | q
        · rw [q]; exact hzl
        · rw [q]; exact Heap.lt_size hTI
        · rw [q]; exact Heap.lt_size hTO
        · rw [q]; exact h1.lt
        · rw [q]; exact h2.lt
        · rw [q]; exact h3.lt
      rw [upd_ne (Nat.ne_of_lt hlt)]
      exact (hf c hcm).1
  done := by
    rintro X rfl rfl rfl hc i pins s σ H E I hf ⟨hz, hTI, ⟨x0, y0, u0, hTO⟩, h1, h2, h3⟩ ⟨xs, ys, zs, hqx, hqy, hqz, hend⟩
    obtain ⟨its, rv, p⟩ := hqx.held I
    obtain ⟨its2, rv2, p2⟩ := hqy.held I
    obtain ⟨its3, rv3, p3⟩ := hqz.held I
    have l1 := rv.length
    have l2 := rv2.length
    have l3 := rv3.length
    have D1 := draws_B (prog := X.prog) (w := X.w) (A := X.A.in1) (I.ok.hd hc) b i1 a1 (p.ne h1) its.toArray
    have D2 := draws_B (prog := X.prog) (w := X.w) (A := X.A.in1) (I.ok.hd hc) c i2 a2 (p2.ne h2) its2.toArray
    have D3 := draws_B (prog := X.prog) (w := X.w) (A := X.A.in1) (I.ok.hd hc) d i3 a3 (p3.ne h3) its3.toArray
    exact wpAny_pyNext_zipD3_end D D1 D2 D3 hz hTI hTO ⟨h1, p⟩ ⟨h2, p2⟩ ⟨h3, p3⟩ (by simp; omega) (by simp; omega) (by simp; omega) (by simp; omega) fun h' tk hk => ⟨rfl, I.turnedL (t' := tk) (ch := [z, TI, TO, i1, i2, i3]) (fun c o hb q =>
      hk c o (fun q' => hb (by simp [q'])) (fun q' => hb (by simp [q'])) (fun q' => hb (by simp [q'])) (fun q' => hb (by simp [q'])) (fun q' => hb (by simp [q'])) q) hf⟩
  self := fun A i s Q E st h => wpAny_pyIter_zip st.1 h
def iZipC (K : PySem.W.Frag) (ta : TA) : TI := fun σ H R => ta σ H fun vs H1 => ∃ a1 a2 a3 b c d xs ys zs, vs = [.ref a1, .ref a2, .ref a3] ∧ SqB K b H1 a1 xs ∧ SqB K c H1 a2 ys ∧ SqB K d H1 a3 zs ∧ R (ItzC K b c d a1 a2 a3) H1
theorem zpb_sep3 (n a1 a2 a3 : Nat) (h : a1 < n) (h' : a2 < n) (h'' : a3 < n) : ZipSep3 (n + 5) (n + 3) (n + 4) n (n + 1) (n + 2) [n, a1] [n + 1, a2] [n + 2, a3] :=
  { TIz := nt_eq (by omega), TOz := nt_eq (by omega), TITO := nt_eq (by omega), TIi1 := nt_eq (by omega), mem1 := List.mem_cons_self, zf1 := nt_in (by omega) (by omega), Tf1 := nt_in (by omega) (by omega),
    TIi2 := nt_eq (by omega), mem2 := List.mem_cons_self, zf2 := nt_in (by omega) (by omega), Tf2 := nt_in (by omega) (by omega), TIi3 := nt_eq (by omega), mem3 := List.mem_cons_self, zf3 := nt_in (by omega) (by omega), Tf3 := nt_in (by omega) (by omega),
    sep1_2 := nt_in (by omega) (by omega), sep1_3 := nt_in (by omega) (by omega), sep2_1 := nt_in (by omega) (by omega), sep2_3 := nt_in (by omega) (by omega), sep3_1 := nt_in (by omega) (by omega), sep3_2 := nt_in (by omega) (by omega) }
theorem pi_zipC {X : Cx} {e e2 e3 : Expr} {ta : TA} {p pos tpos : Pos} {elts : List Expr} {kk : Nat} (hg : Gl X "zip") (hm : X.mg "zip" = none) (ha : PA X [e, e2, e3] ta)
    (hs : starEach [e, e2, e3] X.env = (false, eval e X.env) :: starEach [e2, e3] X.env) (hpl : (backTo pos (starEach [e2, e3] X.env)).any (·.1) = false) :
    PI X (.Tuple elts kk tpos) (.Call (.Name "zip" p) [e, e2, e3] [] pos) (iZipC X.K ta) := by
  refine ⟨fun pins s σ H R I h => ?_⟩
  refine Call_ (ld_blt I.toInv hg hm PyProof.Rows.boot_zip (PyProof.Rows.callWith_type1 (thn (ha.run pos pins s σ H _ I h) fun us s1 ⟨vs, H1, I1, r1, a1, a2, a3, b, c, d, xs, ys, zs, ex, hqx, hqy, hqz, q⟩ => ?_) hs hpl))
  subst ex
  cases r1 with
  | cons r rr =>
    cases rr with
    | cons r' rr =>
      cases rr with
      | cons r'' rr =>
        cases rr
        cases r
        cases r'
        cases r''
        first | refine upP I1.tk ?_ | refine upI1 I1.tk ?_
        replace I1 := I1.toInv
        obtain ⟨its, rv, p1⟩ := hqx.held I1
        obtain ⟨its2, rv2, p2⟩ := hqy.held I1
        obtain ⟨its3, rv3, p3⟩ := hqz.held I1
        refine zip_begins3 (begins_B b a1 its.toArray) (begins_B c a2 its2.toArray) (begins_B d a3 its3.toArray) p1 p2 p3 fun h' hz hTI hTO h1 h2 h3 hsz hk => wpAny_pyIter_zip hz ?_
        have I2 : L2.Inv X pins σ H1 { s1 with heap := h' } := I1.kept (t' := s1.toks) hk
        refine ⟨s1.heap.objs.size + 5, [s1.heap.objs.size + 5, s1.heap.objs.size + 3, s1.heap.objs.size + 4, s1.heap.objs.size, s1.heap.objs.size + 1, s1.heap.objs.size + 2], _, _, H1, rfl, I2, turn_zipC b c d (zpb_sep3 s1.heap.objs.size a1 a2 a3 p1.lt p2.lt p3.lt), ⟨hz, hTI, ⟨_, _, _, hTO⟩, ItAt.of h1, ItAt.of h2, ItAt.of h3⟩, fun d hd => ?_, q⟩
        have e' : d = s1.heap.objs.size + 5 ∨ d = s1.heap.objs.size + 3 ∨ d = s1.heap.objs.size + 4 ∨ d = s1.heap.objs.size ∨ d = s1.heap.objs.size + 1 ∨ d = s1.heap.objs.size + 2 := by simpa using hd
        have hle : s1.heap.objs.size ≤ d := by
          rcases e' with z | z | z | z | z | z <;> (rw [z]; omega)
        exact I1.fpOk hle (I1.hok.fresh hle)
end Ev

/-! What is walked. -/
namespace Ev
open PySem L2 PyProof.Rows RZ

/-- J walks the items xs, which stand in F -/
def WalkD (K : PySem.W.Frag) (w : World) (b : Bool) (J : It) (F : Hp) (xs : List D) : Prop :=
  Walk J xs.length (fun H => Same F H) fun i H x H' => ∀ F1, Same F F1 → Same F1 H → ∃ F2 d, Ext F1 H F2 H' ∧ xs[i]? = some d ∧ (if b then RepW K w F2 d x else Rep K w F2 d x)
/-- the walk gives pairs that are only taken apart -/
def Ik.weak : Ik → Bool
  | .enum => true
  | .zip2 => true
  | .zip3 => true
  | _ => false
/-- then the target takes them apart -/
def wkOk (k : Ik) (t : T) : Bool := !k.weak || (match t with
  | .many _ => true
  | _ => false)
theorem rep_t {K : PySem.W.Frag} {w : World} {F : Hp} {k : Ik} {t : T} {d : D} {v : V} (hw : wkOk k t = true) (h : if k.weak then RepW K w F d v else Rep K w F d v) : RepT K w F t d v := by
  cases t with
  | one i =>
    unfold wkOk at hw
    cases hk : k.weak with
    | false => rw [hk, if_neg Bool.false_ne_true] at h; exact h
    | true => rw [hk] at hw; cases hw
  | many ts =>
    split at h
    · exact h
    · exact .inl h
def Ct.ri (C : Ct) (k : Ik) (ts : List E) : TI := fun σ H R => ∃ env F, EnvR C.K C.w F σ env ∧ Same F H ∧ (match (evs C.glob C.fn ts env).bind (walk k) with
  | .ok xs => ∀ J F' H', Ext F H F' H' → WalkD C.K C.w k.weak J F' xs → R J H'
  | .ex c => ∀ H', Same H H' → C.W (.ref (C.ca c)) none σ H'
  | .no => False)
section
variable {K : PySem.W.Frag} {w : World} {F : Hp}
theorem wd_at {J : It} {vs : List V} {ds : List D} (hr : Reps K w F ds vs) {G : Hp → Prop} (h : Walk J vs.length G (YAt vs)) (hg : ∀ H, Same F H → G H) : WalkD K w false J F ds := by
  unfold WalkD
  rw [hr.length]
  refine h.mono hg fun i H x H' hi hG ⟨e, hx⟩ F1 s1 s2 => ?_
  subst e
  obtain ⟨d, hd, rd⟩ := hr.get' hx
  exact ⟨F1, d, Ext.refl s2, hd, Rep.mono s1 d x rd⟩
theorem wd_str {l : List Nat} (ho : okc l = true) : WalkD K w false (Its (tx l)) F (l.map fun c => .str [c]) := by
  unfold WalkD
  have hl : (l.map fun c => D.str [c]).length = (tx l).cps.size := by simp [tx]
  rw [hl]
  refine walk_str.mono (fun _ _ => trivial) fun i H x H' hi hG ⟨e, c, hc, hx⟩ F1 s1 s2 => ?_
  subst e hx
  have hc' : l[i]? = some c := by simpa [tx] using hc
  exact ⟨F1, .str [c], Ext.refl s2, by rw [List.getElem?_map, hc']; rfl, rfl, okc_one ho hc'⟩
theorem wd_range {n : Nat} {lo : Int} : WalkD K w false (Itr lo n) F ((List.range n).map fun (k : Nat) => D.int (lo + k)) := by
  unfold WalkD
  rw [List.length_map, List.length_range]
  refine walk_range.mono (fun _ _ => trivial) fun i H x H' hi hG ⟨e, hx⟩ F1 s1 s2 => ?_
  subst e hx
  exact ⟨F1, .int (lo + i), Ext.refl s2, by rw [List.getElem?_map, List.getElem?_range hi]; rfl, rfl⟩
theorem numbered_len : ∀ (n : Nat) (xs : List D), (numbered n xs).length = xs.length
  | _, [] => rfl
  | n, x :: xs => by rw [numbered, List.length_cons, List.length_cons, numbered_len]
theorem numbered_at : ∀ (n : Nat) (xs : List D) (i : Nat) (d : D), xs[i]? = some d → (numbered n xs)[i]? = some (.tup [.int ((n + i : Nat) : Int), d])
  | _, [], i, d, h => by simp at h
  | n, x :: xs, 0, d, h => by
    simp only [List.getElem?_cons_zero, Option.some.injEq] at h
    rw [h]; rfl
  | n, x :: xs, i + 1, d, h => by
    rw [List.getElem?_cons_succ] at h
    rw [numbered, List.getElem?_cons_succ, numbered_at (n + 1) xs i d h, show n + 1 + i = n + (i + 1) by omega]
theorem paired_len : ∀ (xs ys : List D), (paired xs ys).length = min xs.length ys.length
  | [], ys => by simp [paired]
  | _ :: _, [] => by simp [paired]
  | x :: xs, y :: ys => by rw [paired, List.length_cons, paired_len]; simp only [List.length_cons]; omega
theorem paired_at : ∀ (xs ys : List D) (i : Nat) (d e : D), xs[i]? = some d → ys[i]? = some e → (paired xs ys)[i]? = some (.tup [d, e])
  | [], _, i, d, e, h, _ => by simp at h
  | _ :: _, [], i, d, e, _, h => by simp at h
  | x :: xs, y :: ys, 0, d, e, h, g => by
    simp only [List.getElem?_cons_zero, Option.some.injEq] at h g
    rw [h, g]; rfl
  | x :: xs, y :: ys, i + 1, d, e, h, g => by
    rw [List.getElem?_cons_succ] at h g
    rw [paired, List.getElem?_cons_succ, paired_at xs ys i d e h g]
/-- new pairs -/
theorem wd_pair {J : It} {n : Nat} {xs ys : Nat → Option V} {ds : List D} {G : Hp → Prop} (h : Walk J n G (YPair xs ys)) (hg : ∀ H, Same F H → G H) (hn : ds.length = n)
    (hp : ∀ i x y, i < n → xs i = some x → ys i = some y → ∃ d e, ds[i]? = some (.tup [d, e]) ∧ Rep K w F d x ∧ Rep K w F e y) : WalkD K w true J F ds := by
  unfold WalkD
  rw [hn]
  refine h.mono hg fun i H v H' hi hG ⟨t, x, y, e1, e2, e3, e4, e5⟩ F1 s1 s2 => ?_
  subst e1 e3
  obtain ⟨d, e, h1, h2, h3⟩ := hp i x y hi e4 e5
  have sm := same_upd (o := .tup [x, y]) (s2.free e2)
  exact ⟨_, .tup [d, e], Ext.new1 (.tup [x, y]) s2 e2, h1, .inr ⟨[d, e], t, [x, y], rfl, rfl, SqT.of upd_same, x, [y], rfl, Rep.mono (s1.trans sm) d x h2, y, [], rfl, Rep.mono (s1.trans sm) e y h3, rfl⟩⟩
end
section
variable {nm : Nm} {X : Cx} {C : Ct} {tg a b : Expr} {ta tb : E} {pos p : Pos}
theorem PI.weak {tg e : Expr} {t t' : TI} (h : PI X tg e t) (k : ∀ σ H Q, t' σ H Q → t σ H Q) : PI X tg e t' := ⟨fun pins s σ H R I q => h.run pins s σ H R I (k σ H R q)⟩
theorem walk_ne (k : Ik) (ds : List D) (c : Nat) : walk k ds ≠ .ex c := by
  unfold walk
  split <;> first | (intro h; cases h; done) | (split <;> (intro h; cases h))
theorem s_val (G : Gd nm X C) (ha : PE X a (C.rd ta)) : PI X tg a (C.ri .val [ta]) := by
  refine ⟨fun pins s σ H R I ⟨env, F, he, hs, q⟩ => ?_⟩
  have ee : evs C.glob C.fn [ta] env = (ev C.glob C.fn ta env).bind fun d => .ok [d] := rfl
  rw [ee] at q
  refine thn (ha.run pins s σ H (fun x H1 => ∃ F1 d xs, Ext F H F1 H1 ∧ Rep C.K C.w F1 d x ∧ walk .val [d] = .ok xs ∧ ∀ J F' H', Ext F H F' H' → WalkD C.K C.w false J F' xs → R J H') I ⟨env, F, he, hs, ?_⟩) fun v s1 ⟨x, H1, I1, r1, F1, d, xs, x1, hd, hw, q1⟩ => ?_
  · cases e1 : ev C.glob C.fn ta env with
    | no => rw [e1] at q; exact q
    | ex k => rw [e1] at q; exact q
    | ok d =>
      rw [e1] at q
      have eb : Ev.R.bind (Ev.R.bind (.ok d) fun d => Ev.R.ok [d]) (walk .val) = walk .val [d] := rfl
      rw [eb] at q
      cases e2 : walk .val [d] with
      | no => rw [e2] at q; exact False.elim q
      | ex c => exact absurd e2 (walk_ne _ _ _)
      | ok xs =>
        rw [e2] at q
        exact fun v F1 H1 x1 r1 => ⟨F1, d, xs, x1, r1, e2, q⟩
  · have hK := G.hK
    refine upP I1.tk ?_
    replace I1 := I1.toInv
    cases d with
    | lst ds =>
      cases hw
      obtain ⟨b, vs, rfl, h1, h2⟩ := hd
      cases r1
      have sq : SqL X.K H1 b vs := SqL.of (x1.inH _ _ h1)
      obtain ⟨its, rv, p', hz⟩ := I1.list sq
      exact wpAny_pyIter_list p'.isList (pi_one (tk := s1.toks) I1 _ (turn_list b _) ⟨_, Heap.get?_push_size _ rfl, rfl, rfl⟩ (q1 _ F1 H1 x1 (wd_at h2 walk_list fun H' sH => SqL.of (sH _ _ h1))))
    | tup ds =>
      cases hw
      obtain ⟨b, vs, rfl, h1, h2⟩ := hd
      cases r1
      have sq : SqT X.K H1 b vs := by rw [hK]; exact Same.tup x1.inH h1
      obtain ⟨its, rv, p', hz⟩ := I1.tuple sq
      exact wpAny_pyIter_tuple p' (pi_one (tk := s1.toks) I1 _ (turn_tuple b _) ⟨_, Heap.get?_push_size _ rfl, rfl, rfl⟩ (q1 _ F1 H1 x1 (wd_at h2 walk_tup fun H' sH => by rw [hK]; exact Same.tup sH h1)))
    | str l =>
      obtain ⟨rfl, ho⟩ := hd
      obtain ⟨t, rfl⟩ := r1
      have hw' : (if l.length ≤ lim then Ev.R.ok (l.map fun c => D.str [c]) else Ev.R.no) = Ev.R.ok xs := hw
      split at hw'
      · cases hw'
        cases hasc : (tx l).cps.all (· < 128)
        · exact wpAny_pyIter_wide hasc (pi_one (tk := s1.toks) I1 _ (turn_str _ (tx l) t "str_iterator" (.inr rfl)) ⟨_, Heap.get?_push_size _ rfl, rfl, rfl⟩ (q1 _ F1 H1 x1 (wd_str ho)))
        · exact wpAny_pyIter_ascii hasc (pi_one (tk := s1.toks) I1 _ (turn_str _ (tx l) t "str_ascii_iterator" (.inl rfl)) ⟨_, Heap.get?_push_size _ rfl, rfl, rfl⟩ (q1 _ F1 H1 x1 (wd_str ho)))
      · cases hw'
    | _ => cases hw
/-- a row of arguments, walked -/
theorem ri_args {k : Ik} {ts : List E} {σ : L2.St} {H : Hp} {R : It → Hp → Prop} {P : List V → Hp → Prop} (h : C.ri k ts σ H R) (f : ∀ ds xs vs F1 H1, walk k ds = .ok xs → Reps C.K C.w F1 ds vs → Same F1 H1 → (∀ J, WalkD C.K C.w k.weak J F1 xs → R J H1) → P vs H1) : C.rds ts σ H P := by
  obtain ⟨env, F, he, hs, q⟩ := h
  refine ⟨env, F, he, hs, ?_⟩
  cases e1 : evs C.glob C.fn ts env with
  | no => rw [e1] at q; exact q
  | ex c => rw [e1] at q; exact q
  | ok ds =>
    rw [e1] at q
    intro vs F1 H1 x1 r1
    have eb : Ev.R.bind (.ok ds) (walk k) = walk k ds := rfl
    rw [eb] at q
    cases e2 : walk k ds with
    | no => rw [e2] at q; exact False.elim q
    | ex c => exact absurd e2 (walk_ne _ _ _)
    | ok xs =>
      rw [e2] at q
      exact f ds xs vs F1 H1 e2 r1 x1.inH fun J hJ => q J F1 H1 x1 hJ
theorem s_range (G : Gd nm X C) (hg : Gl X "range") (ha : PA X [a] (C.rds [ta])) (ns : NoStar a) : PI X tg (.Call (.Name "range" p) [a] [] pos) (C.ri .range [ta]) :=
  PI.weak (pi_range1 hg (G.blt _ (by decide +kernel)) ha (ns [] X.env)) fun σ H R h => ri_args h fun ds xs vs F1 H1 hw hr hs q => by
    cases ds with
    | nil => cases hw
    | cons d ds =>
      cases ds with
      | cons _ _ => cases d <;> cases hw
      | nil =>
        cases d with
        | int n =>
          have hw' : (if -1000000 ≤ n && n ≤ 1000000 then Ev.R.ok ((List.range n.toNat).map fun (k : Nat) => D.int k) else Ev.R.no) = Ev.R.ok xs := hw
          split at hw'
          · rename_i hn
            cases hw'
            rw [Bool.and_eq_true, decide_eq_true_eq, decide_eq_true_eq] at hn
            obtain ⟨v, r, rfl, h1, h2⟩ := hr
            obtain rfl : v = .int n := h1
            obtain rfl : r = [] := h2
            refine ⟨n, rfl, by omega, by omega, q _ ?_⟩
            have := wd_range (K := C.K) (w := C.w) (F := F1) (n := n.toNat) (lo := 0)
            have this' : WalkD C.K C.w false (Itr 0 n.toNat) F1 ((List.range n.toNat).map fun (k : Nat) => D.int k) := by simpa using this
            exact this'
          · cases hw'
        | _ => cases hw
theorem s_range2 (G : Gd nm X C) (hg : Gl X "range") (ha : PA X [a, b] (C.rds [ta, tb])) (ns : NoStar a) (ns2 : NoStar b) : PI X tg (.Call (.Name "range" p) [a, b] [] pos) (C.ri .range2 [ta, tb]) :=
  PI.weak (pi_range2 hg (G.blt _ (by decide +kernel)) ha (by rw [ns [b] X.env, ns2 [] X.env]; rfl) (ns2 [] X.env)) fun σ H R h => ri_args h fun ds xs vs F1 H1 hw hr hs q => by
    match ds, hw, hr with
    | [.int n, .int m], hw, hr =>
      have hw' : (if -1000000 ≤ n && n ≤ 1000000 && -1000000 ≤ m && m ≤ 1000000 then Ev.R.ok ((List.range (m - n).toNat).map fun (k : Nat) => D.int (n + k)) else Ev.R.no) = Ev.R.ok xs := hw
      split at hw'
      · rename_i hn
        cases hw'
        simp only [Bool.and_eq_true, decide_eq_true_eq] at hn
        obtain ⟨v, r, rfl, h1, u, r', rfl, h2, h3⟩ := hr
        obtain rfl : v = .int n := h1
        obtain rfl : u = .int m := h2
        obtain rfl : r' = [] := h3
        exact ⟨n, m, rfl, ⟨by omega, by omega, by omega, by omega⟩, q _ wd_range⟩
      · cases hw'
theorem s_enum (G : Gd nm X C) {elts : List Expr} {kk : Nat} {tpos : Pos} (hg : Gl X "enumerate") (ha : PA X [a] (C.rds [ta])) (ns : NoStar a) : PI X (.Tuple elts kk tpos) (.Call (.Name "enumerate" p) [a] [] pos) (C.ri .enum [ta]) :=
  PI.weak (pi_enB hg (G.blt _ (by decide +kernel)) ha (ns [] X.env)) fun σ H R h => ri_args h fun ds xs vs F1 H1 hw hr hs q => by
    match ds, hw, hr with
    | [.lst ys], hw, hr =>
      cases hw
      obtain ⟨v, r, rfl, ⟨c, us, rfl, h1, h2⟩, h3⟩ := hr
      obtain rfl : r = [] := h3
      refine ⟨c, true, us, rfl, SqL.of (hs _ _ h1), q _ (wd_pair walk_enB (fun H' sH => SqL.of (sH _ _ h1)) (by rw [numbered_len, h2.length]) fun i x y hi e4 e5 => ?_)⟩
      cases e4
      obtain ⟨d, hd, rd⟩ := h2.get' e5
      exact ⟨.int i, d, by rw [numbered_at 0 ys i d hd, Nat.zero_add], rfl, rd⟩
    | [.tup ys], hw, hr =>
      cases hw
      obtain ⟨v, r, rfl, ⟨c, us, rfl, h1, h2⟩, h3⟩ := hr
      obtain rfl : r = [] := h3
      refine ⟨c, false, us, rfl, by rw [G.hK]; exact Same.tup hs h1, q _ (wd_pair walk_enB (fun H' sH => by rw [G.hK]; exact Same.tup sH h1) (by rw [numbered_len, h2.length]) fun i x y hi e4 e5 => ?_)⟩
      cases e4
      obtain ⟨d, hd, rd⟩ := h2.get' e5
      exact ⟨.int i, d, by rw [numbered_at 0 ys i d hd, Nat.zero_add], rfl, rd⟩
/-- a list or a tuple that stands -/
theorem rep_sq {K : PySem.W.Frag} {w : World} {F : Hp} {d : D} {xs : List D} {v : V} (hi : items d = some xs) (h : Rep K w F d v) : ∃ b a us, v = .ref a ∧ (∀ H, Same F H → SqB K b H a us) ∧ Reps K w F xs us := by
  cases d with
  | lst ys =>
    cases hi
    obtain ⟨a, us, rfl, h1, h2⟩ := h
    exact ⟨true, a, us, rfl, fun H s => SqL.of (s _ _ h1), h2⟩
  | tup ys =>
    cases hi
    obtain ⟨a, us, rfl, h1, h2⟩ := h
    exact ⟨false, a, us, rfl, fun H s => Same.tup s h1, h2⟩
  | _ => cases hi
theorem zip2_items {ds xs : List D} (h : walk .zip2 ds = .ok xs) : ∃ d e ys zs, ds = [d, e] ∧ items d = some ys ∧ items e = some zs ∧ xs = paired ys zs := by
  match ds, h with
  | [.lst a, .lst b], h => cases h; exact ⟨_, _, a, b, rfl, rfl, rfl, rfl⟩
  | [.tup a, .tup b], h => cases h; exact ⟨_, _, a, b, rfl, rfl, rfl, rfl⟩
  | [.lst a, .tup b], h => cases h; exact ⟨_, _, a, b, rfl, rfl, rfl, rfl⟩
  | [.tup a, .lst b], h => cases h; exact ⟨_, _, a, b, rfl, rfl, rfl, rfl⟩
theorem s_zip2 (G : Gd nm X C) {elts : List Expr} {kk : Nat} {tpos : Pos} (hg : Gl X "zip") (ha : PA X [a, b] (C.rds [ta, tb])) (ns : NoStar a) (ns2 : NoStar b) : PI X (.Tuple elts kk tpos) (.Call (.Name "zip" p) [a, b] [] pos) (C.ri .zip2 [ta, tb]) :=
  PI.weak (pi_zipB hg (G.blt _ (by decide +kernel)) ha (ns [b] X.env) (noStars_any (es := [b]) ⟨ns2, trivial⟩)) fun σ H R h => ri_args h fun ds xs vs F1 H1 hw hr hs q => by
    obtain ⟨d, e, ys, zs, rfl, i1, i2, rfl⟩ := zip2_items hw
    obtain ⟨v, r, rfl, h1, u, r', rfl, h2, h5⟩ := hr
    obtain rfl : r' = [] := h5
    obtain ⟨b1, a1, us1, rfl, g1, k1⟩ := rep_sq i1 h1
    obtain ⟨b2, a2, us2, rfl, g2, k2⟩ := rep_sq i2 h2
    rw [← G.hK] at g1 g2
    refine ⟨a1, a2, b1, b2, us1, us2, rfl, g1 _ hs, g2 _ hs, q _ (wd_pair walk_zipB (fun H' sH => ⟨g1 _ sH, g2 _ sH⟩) (by rw [paired_len, k1.length, k2.length]) fun i x y hi e4 e5 => ?_)⟩
    obtain ⟨d, hd, rd⟩ := k1.get' e4
    obtain ⟨e, he, re⟩ := k2.get' e5
    exact ⟨d, e, paired_at ys zs i d e hd he, rd, re⟩
theorem tripled_len : ∀ (xs ys zs : List D), (tripled xs ys zs).length = min (min xs.length ys.length) zs.length
  | [], ys, zs => by simp [tripled]
  | _ :: _, [], zs => by simp [tripled]
  | _ :: _, _ :: _, [] => by simp [tripled]
  | x :: xs, y :: ys, z :: zs => by rw [tripled, List.length_cons, tripled_len]; simp only [List.length_cons]; omega
theorem tripled_at : ∀ (xs ys zs : List D) (i : Nat) (d e f : D), xs[i]? = some d → ys[i]? = some e → zs[i]? = some f → (tripled xs ys zs)[i]? = some (.tup [d, e, f])
  | [], _, _, i, d, e, f, h, _, _ => by simp at h
  | _ :: _, [], _, i, d, e, f, _, h, _ => by simp at h
  | _ :: _, _ :: _, [], i, d, e, f, _, _, h => by simp at h
  | x :: xs, y :: ys, z :: zs, 0, d, e, f, h, g, k => by
    simp only [List.getElem?_cons_zero, Option.some.injEq] at h g k
    rw [h, g, k]; rfl
  | x :: xs, y :: ys, z :: zs, i + 1, d, e, f, h, g, k => by
    rw [List.getElem?_cons_succ] at h g k
    rw [tripled, List.getElem?_cons_succ, tripled_at xs ys zs i d e f h g k]
theorem wd_trip {K : PySem.W.Frag} {w : World} {F : Hp} {J : It} {n : Nat} {xs ys zs : Nat → Option V} {ds : List D} {G : Hp → Prop} (h : Walk J n G (YTrip xs ys zs)) (hg : ∀ H, Same F H → G H) (hn : ds.length = n)
    (hp : ∀ i x y z, i < n → xs i = some x → ys i = some y → zs i = some z → ∃ d e f, ds[i]? = some (.tup [d, e, f]) ∧ Rep K w F d x ∧ Rep K w F e y ∧ Rep K w F f z) : WalkD K w true J F ds := by
  unfold WalkD
  rw [hn]
  refine h.mono hg fun i H v H' hi hG ⟨t, x, y, z, e1, e2, e3, e4, e5, e6⟩ F1 s1 s2 => ?_
  subst e1 e3
  obtain ⟨d, e, f, h1, h2, h3, h4⟩ := hp i x y z hi e4 e5 e6
  have sm := same_upd (o := .tup [x, y, z]) (s2.free e2)
  exact ⟨_, .tup [d, e, f], Ext.new1 (.tup [x, y, z]) s2 e2, h1, .inr ⟨[d, e, f], t, [x, y, z], rfl, rfl, SqT.of upd_same, x, [y, z], rfl, Rep.mono (s1.trans sm) d x h2, y, [z], rfl, Rep.mono (s1.trans sm) e y h3, z, [], rfl, Rep.mono (s1.trans sm) f z h4, rfl⟩⟩
theorem zip3_items {ds xs : List D} (h : walk .zip3 ds = .ok xs) : ∃ d e f ys zs us, ds = [d, e, f] ∧ items d = some ys ∧ items e = some zs ∧ items f = some us ∧ xs = tripled ys zs us := by
  match ds, h with
  | [d, e, f], h =>
    have h : (match items d, items e, items f with
      | some xs, some ys, some zs => Ev.R.ok (tripled xs ys zs)
      | _, _, _ => .no) = .ok xs := h
    split at h
    · rename_i e1 e2 e3
      cases h
      exact ⟨d, e, f, _, _, _, rfl, e1, e2, e3, rfl⟩
    · cases h
theorem s_zip3 (G : Gd nm X C) {c : Expr} {tc : E} {elts : List Expr} {kk : Nat} {tpos : Pos} (hg : Gl X "zip") (ha : PA X [a, b, c] (C.rds [ta, tb, tc])) (ns : NoStar a) (ns2 : NoStar b) (ns3 : NoStar c) : PI X (.Tuple elts kk tpos) (.Call (.Name "zip" p) [a, b, c] [] pos) (C.ri .zip3 [ta, tb, tc]) :=
  PI.weak (pi_zipC hg (G.blt _ (by decide +kernel)) ha (ns [b, c] X.env) (noStars_any (es := [b, c]) ⟨ns2, ns3, trivial⟩)) fun σ H R h => ri_args h fun ds xs vs F1 H1 hw hr hs q => by
    obtain ⟨d, e, f, ys, zs, us, rfl, i1, i2, i3, rfl⟩ := zip3_items hw
    obtain ⟨v, r, rfl, h1, u, r', rfl, h2, w', r'', rfl, h3, h5⟩ := hr
    obtain rfl : r'' = [] := h5
    obtain ⟨b1, a1, us1, rfl, g1, k1⟩ := rep_sq i1 h1
    obtain ⟨b2, a2, us2, rfl, g2, k2⟩ := rep_sq i2 h2
    obtain ⟨b3, a3, us3, rfl, g3, k3⟩ := rep_sq i3 h3
    rw [← G.hK] at g1 g2 g3
    refine ⟨a1, a2, a3, b1, b2, b3, us1, us2, us3, rfl, g1 _ hs, g2 _ hs, g3 _ hs, q _ (wd_trip walk_zipC (fun H' sH => ⟨g1 _ sH, g2 _ sH, g3 _ sH⟩) (by rw [tripled_len, k1.length, k2.length, k3.length]) fun i x y z hi e4 e5 e6 => ?_)⟩
    obtain ⟨d, hd, rd⟩ := k1.get' e4
    obtain ⟨e, he, re⟩ := k2.get' e5
    obtain ⟨f, hf, rf⟩ := k3.get' e6
    exact ⟨d, e, f, tripled_at ys zs us i d e f hd he hf, rd, re, rf⟩
end
end Ev

/-! Comprehensions. -/
namespace Ev
open PySem L2 PyProof.Rows RZ

/-- nothing flies out of a block -/
abbrev Ct.calm (C : Ct) : Ct := { C with W := fun _ _ _ _ => False }
theorem gd_blk {nm : Nm} {X : Cx} {C : Ct} (G : Gd nm X C) (s : Shared) (H : Hp) (scope : Scope) (cenv : PySem.Env) (fp : List Addr) : Gd nm (X.blk s H scope cenv fp) C.calm where
  hK := G.hK
  hw := G.hw
  nd := G.nd
  calm := G.calm
  hu := G.hu
  takes := fun _ _ x => by
    obtain ⟨_, _, _, _, _, _, _, _, _, _, _, _, _, _, _, _, z⟩ := x
    exact z.elim
  blt := G.blt
  glo := G.glo
  gno := G.gno
  fns := G.fns

def Ct.rtc (C : Ct) (c : List E) : TT := fun σ H Q => ∃ env F, EnvR C.K C.w F σ env ∧ Same F H ∧ (match evc C.glob C.fn c env with
  | .ok b => ∀ F' H', Ext F H F' H' → Q b H'
  | .ex k => ∀ H', Same H H' → C.W (.ref (C.ca k)) none σ H'
  | .no => False)
theorem PTs.weak {X : Cx} {es : List Expr} {t t' : TT} (h : PTs X es t) (k : ∀ σ H Q, t' σ H Q → t σ H Q) : PTs X es t' := ⟨fun pins s σ H Q I q => h.run pins s σ H Q I (k σ H Q q)⟩
theorem s_if0 {X : Cx} {C : Ct} : PTs X [] (C.rtc []) := PTs.weak pts_nil fun σ H Q ⟨env, F, he, hs, q⟩ => (show ∀ F' H', Ext F H F' H' → Q true H' from q) F H (Ext.refl hs)
theorem s_if1 {X : Cx} {C : Ct} {a : Expr} {ta : E} (ha : PT X a (tB (C.rd ta))) : PTs X [a] (C.rtc [ta]) := PTs.weak (pts_one ha) fun σ H Q ⟨env, F, he, hs, q⟩ => by
  have ee : evc C.glob C.fn [ta] env = (ev C.glob C.fn ta env).bind fun x => asBool x := rfl
  rw [ee] at q
  refine ⟨env, F, he, hs, ?_⟩
  cases e1 : ev C.glob C.fn ta env with
  | no => rw [e1] at q; exact q
  | ex k => rw [e1] at q; exact q
  | ok d =>
    rw [e1] at q
    intro v F1 H1 x1 r1
    cases d with
    | bl b =>
      obtain rfl : v = .bl b := r1
      exact ⟨b, rfl, (show ∀ F' H', Ext F H F' H' → Q b H' from q) F1 H1 x1⟩
    | _ => exact False.elim q

theorem ext_hide {F1 H2 F3 H' : Hp} {D : Addr} {o : HO} (hD : H2 D = none) (hs : Same F1 H2) (x : Ext F1 (upd H2 D o) F3 H') : ∃ H3, H' = upd H3 D o ∧ H3 D = none ∧ Ext F1 H2 F3 H3 := by
  have h1 : H' D = some o := x.same D o upd_same
  have hf : F3 D = none := x.new D (by rw [upd_same]; simp) (hs.free hD)
  have hne : ∀ a o', H2 a = some o' → a ≠ D := fun a o' q e => by rw [e, hD] at q; cases q
  refine ⟨fun a => if a = D then none else H' a, ?_, if_pos rfl, ⟨x.sub, fun a o' q => ?_, fun a o' q => ?_, fun a ha hfa => x.new a (fun e => ?_) hfa⟩⟩
  · funext a
    unfold upd
    by_cases e : a = D
    · subst e; rw [if_pos rfl]; exact h1
    · rw [if_neg e]
      show H' a = if a = D then none else H' a
      rw [if_neg e]
  · have : a ≠ D := fun e => by rw [e, hf] at q; cases q
    show (if a = D then none else H' a) = _
    rw [if_neg this]; exact x.inH a o' q
  · show (if a = D then none else H' a) = _
    rw [if_neg (hne a o' q)]
    exact x.same a o' (by rw [upd_ne (hne a o' q)]; exact q)
  · by_cases ea : a = D
    · subst ea; exact ha hD
    · rw [upd_ne ea] at e; exact ha e

theorem wipe_len (env : Env) : ∀ vs, (wipe env vs).length = env.length
  | [] => rfl
  | v :: vs => by rw [wipe, List.length_set, wipe_len env vs]
theorem wipe_ne {env : Env} {i : Nat} : ∀ {vs : List Nat}, i ∉ vs → (wipe env vs)[i]? = env[i]?
  | [], _ => rfl
  | v :: vs, h => by
    rw [List.mem_cons, not_or] at h
    rw [wipe, List.getElem?_set_ne (fun e => h.1 e.symm), wipe_ne h.2]
theorem wipe_in {env : Env} {i : Nat} : ∀ {vs : List Nat}, i ∈ vs → look (wipe env vs) i = .no
  | v :: vs, h => by
    unfold look
    rw [wipe]
    by_cases e : v = i
    · subst e
      by_cases hv : v < (wipe env vs).length
      · rw [List.getElem?_set_self hv]; rfl
      · rw [List.getElem?_eq_none (by rw [List.length_set]; omega)]
    · rw [List.getElem?_set_ne e]
      exact wipe_in (List.mem_of_ne_of_mem (fun z => e z.symm) h)
theorem lwipe_ne {σ : L2.St} {i : Nat} : ∀ {vs : List Nat}, i ∉ vs → (L2.wipe σ vs)[i]? = σ[i]?
  | [], _ => rfl
  | v :: vs, h => by
    rw [List.mem_cons, not_or] at h
    rw [L2.wipe, List.getElem?_set_ne (fun e => h.1 e.symm), lwipe_ne h.2]
theorem lwipe_in {σ : L2.St} {i : Nat} : ∀ {vs : List Nat}, i ∈ vs → (L2.wipe σ vs)[i]? = if i < σ.length then some none else none
  | v :: vs, h => by
    rw [L2.wipe]
    by_cases e : v = i
    · subst e
      by_cases hv : v < σ.length
      · rw [List.getElem?_set_self (by rw [L2.wipe_length]; exact hv), if_pos hv]
      · rw [List.getElem?_eq_none (by rw [List.length_set, L2.wipe_length]; omega), if_neg hv]
    · rw [List.getElem?_set_ne e]
      exact lwipe_in (List.mem_of_ne_of_mem (fun z => e z.symm) h)
/-- behind a block's target -/
theorem wrote_wipe {K : PySem.W.Frag} {w : World} {F : Hp} {σ σ2 : L2.St} {sl vs : List Nat} {env' : Env} (h : Wrote K w F sl env' (L2.wipe σ vs) σ2) (hsub : ∀ i ∈ sl, i ∈ vs) : L2.wipe σ2 vs = L2.wipe σ vs := by
  obtain ⟨h1, h2, h3⟩ := h
  rw [L2.wipe_length] at h1
  refine List.ext_getElem? fun i => ?_
  by_cases hi : i ∈ vs
  · rw [lwipe_in hi, lwipe_in hi, h1]
  · rw [lwipe_ne hi, h2 i (fun e => hi (hsub i e))]
theorem wrote_env {K : PySem.W.Frag} {w : World} {F : Hp} {σ σ2 : L2.St} {t : T} {d : D} {vs : List Nat} {env env' : Env} (h : Wrote K w F (tslots t) env' (L2.wipe σ vs) σ2) (he : EnvR K w F σ env) (hb : bind t d (wipe env vs) = .ok env') : EnvR K w F σ2 env' := by
  obtain ⟨b1, b2, b3⟩ := bind_out t d _ _ hb
  refine ⟨by rw [h.1, L2.wipe_length, b1, wipe_len]; exact he.1, fun i x hx => ?_⟩
  by_cases hi : i ∈ tslots t
  · obtain ⟨y, hy⟩ := b3 i hi
    have : y = x := by
      unfold look at hx
      rw [hy] at hx
      cases hx; rfl
    subst this
    exact h.2.2 i hi y hy
  · have hl : look (wipe env vs) i = .ok x := by
      unfold look at hx ⊢
      rw [← b2 i hi]; exact hx
    by_cases hv : i ∈ vs
    · rw [wipe_in hv] at hl; cases hl
    · have hl2 : look env i = .ok x := by
        unfold look at hl ⊢
        rw [← wipe_ne hv]; exact hl
      rw [h.2.1 i hi, lwipe_ne hv]
      exact he.2 i x hl2

theorem same_beside {F H : Hp} {D : Addr} {o : HO} (h : Same F H) (hD : H D = none) : Same F (upd H D o) := fun a o' q => by
  rw [upd_ne (fun e => by rw [e, h.free hD] at q; cases q)]
  exact h a o' q
theorem upd_twice {H : Hp} {D : Addr} {o o' : HO} : upd (upd H D o) D o' = upd H D o' := by
  funext a
  unfold upd
  split <;> rfl

section
variable {nm : Nm} {X : Cx} {C : Ct}
theorem lc_core' {e : E} {t : T} {k : Ik} {args c : List E} {own : List Nat} {vs : List Nat} (hw : wkOk k t = true) (hv : vs = own) (hsub : ∀ i ∈ tslots t, i ∈ own) {σ : L2.St} {H : Hp} {Q : VK} (h : C.rn (.lc e t k args c own) σ H Q) :
    tLc (C.ri k args) (C.calm.gt t) (C.calm.rtc c) (C.calm.rd e) vs σ H Q := by
  subst hv
  obtain ⟨env, F, he, hs, q⟩ := h
  have ee : ev C.glob C.fn (.lc e t k args c vs) env = ((evs C.glob C.fn args env).bind fun ds => (walk k ds).bind fun xs =>
      (calmly (lcGo (fun x => bind t x (wipe env vs)) (fun env' => evc C.glob C.fn c env') (fun env' => ev C.glob C.fn e env') xs)).bind fun rs => fit rs.length (.lst rs)) := rfl
  rw [ee] at q
  refine ⟨env, F, he, hs, ?_⟩
  cases e1 : evs C.glob C.fn args env with
  | no => rw [e1] at q; exact q
  | ex c => rw [e1] at q; exact q
  | ok ds =>
    rw [e1] at q
    have eb : Ev.R.bind (.ok ds) (walk k) = walk k ds := rfl
    rw [eb]
    simp only [R.bind_ok] at q
    cases e2 : walk k ds with
    | no => rw [e2] at q; exact False.elim q
    | ex c => exact absurd e2 (walk_ne _ _ _)
    | ok xs =>
      rw [e2] at q
      simp only [R.bind_ok] at q
      cases e3 : lcGo (fun x => bind t x (wipe env vs)) (fun env' => evc C.glob C.fn c env') (fun env' => ev C.glob C.fn e env') xs with
      | no => rw [e3] at q; exact False.elim q
      | ex c => rw [e3] at q; exact False.elim q
      | ok rs =>
        rw [e3] at q
        simp only [calmly, R.bind_ok] at q
        by_cases hl : rs.length ≤ lim
        · have e4 : fit rs.length (.lst rs) = .ok (.lst rs) := by unfold fit; rw [if_pos hl]
          rw [e4] at q
          intro J F0 H0 x0 wd A hA
          refine lc_it wd (fun i Hc => ∃ F2 H2 rs1 us, Hc = upd H2 A (.lst us) ∧ H2 A = none ∧ Ext F0 H0 F2 H2 ∧ Reps C.K C.w F2 rs1 us ∧ ∃ rs2, lcGo (fun x => bind t x (wipe env vs)) (fun env' => evc C.glob C.fn c env') (fun env' => ev C.glob C.fn e env') (xs.drop i) = .ok rs2 ∧ rs1 ++ rs2 = rs)
            ⟨F0, H0, [], [], rfl, hA, Ext.refl x0.inH, rfl, rs, e3, rfl⟩ ?_ ?_ ?_
          · rintro i Hc hi ⟨F2, H2, rs1, us, rfl, hA2, x2, _⟩
            exact fun a o' z => same_beside x2.inH hA2 a o' (x2.sub a o' z)
          · rintro i x Hc Hc' hi ⟨F2, H2, rs1, us, rfl, hA2, x2, hr, rs2, hgo, hrs⟩ hY
            obtain ⟨F3, d, x3, hd, rd⟩ := hY F2 x2.sub (same_beside x2.inH hA2)
            obtain ⟨H3, rfl, hA3, x3'⟩ := ext_hide hA2 x2.inH x3
            have hdrop : xs.drop i = d :: xs.drop (i + 1) := by
              rw [List.drop_eq_getElem_cons hi]
              have : xs[i] = d := by
                rw [List.getElem?_eq_getElem hi] at hd
                exact Option.some.inj hd
              rw [this]
            rw [hdrop] at hgo
            obtain ⟨env', hb, hgo2⟩ := R.bind_eq_ok (show Ev.R.bind (bind t d (wipe env vs)) _ = .ok rs2 from hgo)
            obtain ⟨b, ht, hgo3⟩ := R.bind_eq_ok hgo2
            have he3 : EnvR C.K C.w F3 σ env := he.mono (x0.sub.trans (x2.sub.trans x3'.sub))
            refine ⟨F3, d, wipe env vs, env', same_beside x3'.inH hA3, rep_t hw rd, ?_, hb, fun σ2 w2 => ⟨wrote_wipe w2 hsub, ?_⟩⟩
            · rw [L2.wipe_length, wipe_len]; exact he.1
            have he2 : EnvR C.K C.w F3 σ2 env' := wrote_env w2 he3 hb
            refine ⟨env', F3, he2, same_beside x3'.inH hA3, ?_⟩
            have ht' : evc C.calm.glob C.calm.fn c env' = .ok b := ht
            rw [ht']
            intro F4 H4 x4
            obtain ⟨H4', rfl, hA4, x4'⟩ := ext_hide hA3 x3'.inH x4
            cases b with
            | false =>
              rw [if_neg Bool.false_ne_true]
              exact ⟨F4, H4', rs1, us, rfl, hA4, x2.trans (x3'.trans x4'), Reps.mono (x3'.sub.trans x4'.sub) _ _ hr, rs2, hgo3, hrs⟩
            | true =>
              rw [if_pos rfl]
              rw [if_pos rfl] at hgo3
              obtain ⟨d5, hev, hgo4⟩ := R.bind_eq_ok hgo3
              obtain ⟨rs5, hgo5, hgo6⟩ := R.bind_eq_ok hgo4
              cases hgo6
              refine ⟨env', F4, he2.mono x4.sub, same_beside x4'.inH hA4, ?_⟩
              have hev' : ev C.calm.glob C.calm.fn e env' = .ok d5 := hev
              rw [hev']
              intro v F5 H5 x5 r5
              obtain ⟨H5', rfl, hA5, x5'⟩ := ext_hide hA4 x4'.inH x5
              have hr5 : Reps C.K C.w F5 (rs1 ++ [d5]) (us ++ [v]) := Reps.append (Reps.mono (x3'.sub.trans (x4'.sub.trans x5'.sub)) _ _ hr) (Reps.one r5)
              refine ⟨us, upd_same, ?_, F5, H5', rs1 ++ [d5], us ++ [v], upd_twice, hA5, x2.trans (x3'.trans (x4'.trans x5')), hr5, rs5, hgo5, by rw [List.append_assoc]; exact hrs⟩
              have l1 := hr.length
              rw [← hrs, List.length_append, List.length_cons] at hl
              rw [← l1]
              have := lim_eq
              omega
          · rintro Hc ⟨F2, H2, rs1, us, rfl, hA2, x2, hr, rs2, hgo, hrs⟩
            rw [List.drop_length] at hgo
            cases hgo
            rw [List.append_nil] at hrs
            subst hrs
            exact q A us F2 H2 (x0.trans x2) hA2 hr
        · have e4 : fit rs.length (.lst rs) = .no := by unfold fit; rw [if_neg hl]
          rw [e4] at q
          exact False.elim q
end
end Ev

/-! int, dict displays. -/
namespace Ev
open PySem L2 PyProof.Rows RZ

/-! ### int -/
theorem readN_val : ∀ (l : List Nat) (a n : Nat), readN l a = some n → (∀ c ∈ l, 48 ≤ c ∧ c ≤ 57) ∧ n = l.foldl (fun acc c => acc * 10 + (c - 48)) a
  | [], a, n, h => by cases h; exact ⟨(fun c hc => nomatch hc), rfl⟩
  | c :: r, a, n, h => by
    unfold readN at h
    split at h
    · rename_i hc
      rw [Bool.and_eq_true, decide_eq_true_eq, decide_eq_true_eq] at hc
      obtain ⟨h1, h2⟩ := readN_val r _ n h
      refine ⟨fun d hd => ?_, ?_⟩
      · rcases List.mem_cons.mp hd with rfl | hd
        · exact hc
        · exact h1 d hd
      · rw [h2, List.foldl_cons, Nat.mul_comm 10 a]
    · cases h
theorem readI_text {l : List Nat} {i : Int} (h : readI l = some i) (hl : l.length ≤ 640) : PySem.intText? (tx l) = some i := by
  have hlen : (tx l).length ≤ 4300 := by rw [tx_len]; omega
  unfold readI at h
  split at h
  · cases h
  · rename_i c r
    obtain ⟨n, hn, rfl⟩ := Option.map_eq_some_iff.mp h
    obtain ⟨h1, h2⟩ := readN_val _ _ _ hn
    rw [h2]
    exact intText_neg (x := tx (45 :: c :: r)) (cs := c :: r) rfl h1 (by simp) hlen
  · rename_i c r hne
    obtain ⟨n, hn, rfl⟩ := Option.map_eq_some_iff.mp h
    obtain ⟨h1, h2⟩ := readN_val _ _ _ hn
    rw [h2]
    exact intText_digits (x := tx (c :: r)) h1 (by simp) hlen
theorem dInt_ne (d : D) (k : Nat) : dInt d ≠ .ex k := by unfold dInt; split <;> first | (intro h; cases h; done) | (split <;> first | (intro h; cases h; done) | (split <;> (intro h; cases h)))
section
variable {nm : Nm} {X : Cx} {C : Ct}
theorem cr_int : CallR X (.type "int") (rd1 X.K X.w dInt) := by
  intro pins s σ H xs us Q I r h
  obtain ⟨F, d, v, rfl, hs, hd, q⟩ := h
  unfold dInt at q
  split at q <;> first | exact False.elim q | skip
  · obtain rfl := hd
    exact call_int1 pins s σ H _ us Q I r (.inr ⟨_, rfl, fin_ok q hs rfl⟩)
  · obtain ⟨rfl, ho⟩ := hd
    split at q
    · rename_i hl
      split at q
      · rename_i i hi
        exact call_int_str pins s σ H _ us Q I r ⟨_, i, rfl, readI_text hi hl, by rw [tx_len]; exact hl, fin_ok q hs rfl⟩
      · exact False.elim q
    · exact False.elim q

/-! ### {k: v, ..} -/
def kyD : Ky → D
  | .i n => .int n
  | .s l => .str l
theorem kyD_rep {k : Ky} {v : V} {K : PySem.W.Frag} {w : World} {F : Hp} (h : Rep K w F (kyD k) v) : v = kV (kyK k) := by
  cases k with
  | i n => exact h
  | s l => exact h.1
theorem putK_new {kvs : List (Key × V)} {k : Key} {v : V} (h : k ∉ kvs.map (·.1)) : putK kvs k v = kvs ++ [(k, v)] := by
  unfold putK
  have : (kvs.any fun kv => decide (kv.1 = k)) = false := by
    cases hb : kvs.any fun kv => decide (kv.1 = k) with
    | false => rfl
    | true =>
      obtain ⟨kv, h1, h2⟩ := List.any_eq_true.mp hb
      exact absurd (List.mem_map.mpr ⟨kv, h1, of_decide_eq_true h2⟩) h
  rw [this, if_neg Bool.false_ne_true]
theorem mergeK_new : ∀ (more kvs : List (Key × V)), ((kvs ++ more).map (·.1)).Nodup → mergeK kvs more = kvs ++ more
  | [], kvs, _ => by rw [List.append_nil]; rfl
  | p :: r, kvs, h => by
    have e1 : putK kvs p.1 p.2 = kvs ++ [p] := putK_new (by
      rw [List.map_append, List.map_cons] at h
      have := (List.nodup_append.mp h).2.2
      exact fun hm => this _ hm _ List.mem_cons_self rfl)
    show mergeK (putK kvs p.1 p.2) r = _
    rw [e1, mergeK_new r (kvs ++ [p]) (by rw [List.append_assoc]; exact h), List.append_assoc]; rfl
theorem nodupK_iff : ∀ {ks : List Ky}, nodupK ks = true → ks.Nodup
  | [], _ => List.nodup_nil
  | k :: r, h => by
    have h' : (!decide (k ∈ r)) = true ∧ nodupK r = true := Bool.and_eq_true_iff.mp h
    refine List.nodup_cons.mpr ⟨fun hm => ?_, nodupK_iff h'.2⟩
    rw [decide_eq_true hm] at h'; cases h'.1
theorem kyK_nodup {ks : List Ky} (h : ks.Nodup) : (ks.map kyK).Nodup := by
  rw [List.nodup_iff_pairwise_ne] at *
  exact List.Pairwise.map _ (fun a b hab e => hab (kyK_inj e)) h
/-- keys and values of a display, kept with their expressions -/
inductive Disp (X : Cx) (C : Ct) (pos : Pos) : List (Option Expr) → List Expr → List Ky → List E → Prop
  | nil : Disp X C pos [] [] [] []
  | cons {ke ve : Expr} {kes : List (Option Expr)} {ves : List Expr} {k : Ky} {ks : List Ky} {t : E} {ts : List E} (hk : PE X ke (C.rd (.lit (kyD k)))) (hv : PE X ve (C.rd t)) (r : Disp X C pos kes ves ks ts) : Disp X C pos (some ke :: kes) (ve :: ves) (k :: ks) (t :: ts)
def trsOf (C : Ct) : List Ky → List E → List (TE × TE)
  | k :: ks, t :: ts => (C.rd (.lit (kyD k)), C.rd t) :: trsOf C ks ts
  | _, _ => []
theorem Disp.pps {pos : Pos} : ∀ {kes : List (Option Expr)} {ves : List Expr} {ks : List Ky} {ts : List E}, Disp X C pos kes ves ks ts → PPs X pos kes ves (trsOf C ks ts) ∧ kes.all (·.isSome) = true ∧ kes.length = ves.length ∧ kes.length = ks.length
  | _, _, _, _, .nil => ⟨pps_nil, rfl, rfl, rfl⟩
  | _, _, _, _, .cons hk hv r => by
    obtain ⟨h1, h2, h3, h4⟩ := r.pps
    exact ⟨pps_cons hk hv h1, by rw [List.all_cons, h2]; rfl, by rw [List.length_cons, List.length_cons, h3], by rw [List.length_cons, List.length_cons, h4]⟩
theorem pairs_go {Xc : Nat → Hp → Prop} {σ : L2.St} {env : Env} (hX : ∀ c H, Xc c H → C.W (.ref (C.ca c)) none σ H) : ∀ {ks : List Ky} {ts : List E} {kes : List (Option Expr)} {ves : List Expr} {pos : Pos} {F H : Hp} {Q : List (V × V) → Hp → Prop}, Disp X C pos kes ves ks ts → EnvR C.K C.w F σ env → Same F H →
    finL C.K C.w (evs C.glob C.fn ts env) F H (fun us H' => Q ((ks.map fun k => kV (kyK k)).zip us) H') Xc → tPairs (trsOf C ks ts) σ H Q
  | _, _, _, _, _, F, H, Q, .nil, he, hs, q => (show ∀ vs F' H', Ext F H F' H' → Reps C.K C.w F' [] vs → Q _ H' from q) [] F H (Ext.refl hs) rfl
  | _, _, _, _, _, F, H, Q, .cons (k := k) (t := t) (ts := ts) hk hv r, he, hs, q => by
    have q' : finL C.K C.w ((ev C.glob C.fn t env).bind fun d => (evs C.glob C.fn ts env).bind fun ds => .ok (d :: ds)) F H _ Xc := q
    show C.rd (.lit (kyD k)) σ H _
    refine ⟨env, F, he, hs, fun v F1 H1 x1 r1 => ?_⟩
    rw [kyD_rep r1]
    refine ⟨env, F1, he.mono x1.sub, x1.inH, ?_⟩
    have q1 := finL_mono x1 q'
    cases e1 : ev C.glob C.fn t env with
    | no => rw [e1] at q1; exact q1
    | ex c => rw [e1] at q1; exact fun H' s => hX c H' (q1 H' s)
    | ok d =>
      rw [e1] at q1
      intro u F2 H2 x2 r2
      refine pairs_go hX r (he.mono (x1.sub.trans x2.sub)) x2.inH ?_
      have q2 := finL_mono x2 q1
      cases e2 : evs C.glob C.fn ts env with
      | no => rw [e2] at q2; exact q2
      | ex c => rw [e2] at q2; exact q2
      | ok ds =>
        rw [e2] at q2
        intro us F3 H3 x3 r3
        exact q2 (u :: us) F3 H3 x3 ⟨u, us, rfl, Rep.mono x3.sub d u r2, r3⟩
theorem zip_kv : ∀ (ks : List Ky) (us : List V), ks.length = us.length → (ks.map fun k => kV (kyK k)).zip us = (((ks.map kyK).zip us).map fun kv => (kV kv.1, kv.2))
  | [], _, _ => rfl
  | k :: ks, [], h => by cases h
  | k :: ks, u :: us, h => by
    rw [List.map_cons, List.map_cons, List.zip_cons_cons, List.zip_cons_cons, List.map_cons, zip_kv ks us (by simpa using h)]
theorem s_dct {pos : Pos} {kes : List (Option Expr)} {ves : List Expr} {ks : List Ky} {ts : List E} (h : Disp X C pos kes ves ks ts) (h0 : ks.isEmpty = false) (h15 : ks.length ≤ 15) : PE X (.Dict kes ves pos) (C.rn (.dct ks ts)) := by
  obtain ⟨p1, p2, p3, p4⟩ := h.pps
  refine PE.weak (pe_disp p1 p2 p3 (fun e => ?_) (by omega)) fun σ H Q ⟨env, F, he, hs, q⟩ p hp => ?_
  · have hk : ks.length = 0 := by rw [← p4, e]; rfl
    rw [List.length_eq_zero_iff] at hk
    subst hk; cases h0
  have ee : ev C.glob C.fn (.dct ks ts) env = (evs C.glob C.fn ts env).bind fun es => if (ks.length = es.length && ks.length ≤ 15) && (!ks.isEmpty && nodupK ks) then .ok (.dic ks es) else .no := rfl
  rw [ee] at q
  refine pairs_go (Xc := fun c H' => C.W (.ref (C.ca c)) none σ H') (fun c H h => h) h he (same_beside hs hp) ?_
  cases e1 : evs C.glob C.fn ts env with
  | no => rw [e1] at q; exact q
  | ex c => rw [e1] at q; exact fun H' s => q H' ((same_upd hp).trans s)
  | ok ds =>
    rw [e1, R.bind_ok] at q
    intro us F1 H1 x1 r1
    obtain ⟨H2, rfl, hp2, x2⟩ := ext_hide hp hs x1
    by_cases hc : ((ks.length = ds.length && ks.length ≤ 15) && (!ks.isEmpty && nodupK ks)) = true
    · rw [if_pos hc] at q
      rw [Bool.and_eq_true, Bool.and_eq_true, Bool.and_eq_true, decide_eq_true_eq, decide_eq_true_eq] at hc
      have hl : ks.length = us.length := hc.1.1.trans r1.length
      have hnd := nodupK_iff hc.2.2
      refine ⟨upd_same, (ks.map kyK).zip us, zip_kv ks us hl, by rw [List.length_zip, List.length_map]; omega, ?_⟩
      have m1 : ((ks.map kyK).zip us).map (·.1) = ks.map kyK := List.map_fst_zip (by rw [List.length_map]; omega)
      have m2 : ((ks.map kyK).zip us).map (·.2) = us := List.map_snd_zip (by rw [List.length_map]; omega)
      rw [mergeK_new _ [] (by rw [List.nil_append, m1]; exact kyK_nodup hnd), List.nil_append, upd_twice]
      exact q p _ F1 H2 x2 hp2 m1 hnd (by rw [m2]; exact r1)
    · rw [if_neg hc] at q
      exact False.elim q

/-! ### methods that change nothing -/
def rdm (K : PySem.W.Frag) (w : World) (f : D → D → R D) : V → List V → Hp → VK → Prop := fun x xs H Q => ∃ F d e y, xs = [y] ∧ Same F H ∧ Rep K w F d x ∧ Rep K w F e y ∧ fin0 K w (f d e) F H Q
theorem findD_at : ∀ {xs : List D} {d : D} {j : Nat}, findD d xs = some j → (∃ z, xs[j]? = some z ∧ deq z d = true) ∧ ∀ (m : Nat) (z : D), m < j → xs[m]? = some z → deq z d = false
  | [], _, _, h => by cases h
  | x :: xs, d, j, h => by
    unfold findD at h
    cases hx : deq x d with
    | true =>
      rw [hx, if_pos rfl] at h
      cases h
      exact ⟨⟨x, rfl, hx⟩, fun m z hm => absurd hm (Nat.not_lt_zero _)⟩
    | false =>
      rw [hx, if_neg Bool.false_ne_true] at h
      obtain ⟨k, hk, rfl⟩ := Option.map_eq_some_iff.mp h
      obtain ⟨⟨z, h1, h2⟩, h3⟩ := findD_at hk
      refine ⟨⟨z, h1, h2⟩, fun m z hm hz => ?_⟩
      cases m with
      | zero => cases hz; exact hx
      | succ m => exact h3 m z (Nat.lt_of_succ_lt_succ hm) hz
theorem toPys_at : ∀ {xs : List D} {j : Nat} {z : PyData}, (toPys xs)[j]? = some z → ∃ d, xs[j]? = some d ∧ z = toPy d
  | [], j, z, h => by simp [toPys] at h
  | x :: xs, 0, z, h => by
    have h' : some (toPy x) = some z := h
    cases h'
    exact ⟨x, rfl, rfl⟩
  | x :: xs, j + 1, z, h => toPys_at (xs := xs) (j := j) h
theorem toPys_get : ∀ {xs : List D} {j : Nat} {d : D}, xs[j]? = some d → (toPys xs)[j]? = some (toPy d)
  | [], j, z, h => by simp at h
  | x :: xs, 0, z, h => by cases h; rfl
  | x :: xs, j + 1, z, h => toPys_get (xs := xs) (j := j) h
theorem okds_at : ∀ {n : Nat} {xs : List D} {j : Nat} {d : D}, okds n xs = true → xs[j]? = some d → okd n d = true
  | n, [], j, d, _, h => by simp at h
  | n, x :: xs, 0, d, h, e => by
    cases e
    have h' : okd n x = true ∧ okds n xs = true := by simpa [okds] using h
    exact h'.1
  | n, x :: xs, j + 1, d, h, e => by
    have h' : okd n x = true ∧ okds n xs = true := by simpa [okds] using h
    exact okds_at h'.2 e
theorem toPys_len : ∀ xs : List D, (toPys xs).length = xs.length
  | [] => rfl
  | x :: xs => by rw [toPys, List.length_cons, List.length_cons, toPys_len]
theorem mt_index' (hu : X.A.units + 65 < cLine) : MtR X "list.index" (rdm X.K X.w mIndex) := by
  intro pins s σ H x xs v us Q I rx rxs h
  obtain ⟨F, d, e, y, rfl, hs, hd, he, q⟩ := h
  unfold mIndex at q
  split at q
  · rename_i ys
    split at q
    · rename_i hc
      rw [Bool.and_eq_true] at hc
      split at q
      · rename_i j hj
        obtain ⟨⟨z, h1, h2⟩, h3⟩ := findD_at hj
        obtain ⟨a1, a2, a3⟩ := dp_of hs deep _ y hc.1 he
        obtain ⟨b1, b2, b3⟩ := dp_of hs (deep + 1) (.lst ys) x hc.2 hd
        obtain ⟨a, vs, rfl, _⟩ := hd
        have ee : ∀ (m : Nat) (z : D), ys[m]? = some z → PyData.eqv (toPy z) (toPy e) = deq z e := fun m z hz => eqv_deq deep deep z e (okds_at hc.2 hz) hc.1
        have sl : SeqAt.shaped (PyData.list (toPys ys)) = true := by
          show (PyData.canLay0 _ && decide _) = true
          rw [show PyData.canLay0 (PyData.list (toPys ys)) = true from b2]
          exact decide_eq_true (Nat.le_trans (show PyData.depth (PyData.list (toPys ys)) ≤ 61 from b3) (by decide))
        exact mt_indexD hu pins s σ H _ _ v us Q I rx rxs ⟨a, y, toPy e, toPys ys, j, toPy z, rfl, rfl, b1, a1, sl, shaped_of a2 a3, toPys_get h1, by rw [ee j z h1]; exact h2, fun m z' hm hz' => by
          obtain ⟨d', hd', rfl⟩ := toPys_at hz'
          rw [ee m d' hd']; exact h3 m d' hm hd', fin_ok q hs rfl⟩
      · exact False.elim q
    · exact False.elim q
  · exact False.elim q
theorem count_py : ∀ (n m : Nat) (xs : List D) (d : D), okds n xs = true → okd m d = true → (toPys xs).countP (fun z => PyData.eqv z (toPy d)) = countD d xs
  | n, m, [], d, _, _ => rfl
  | n, m, x :: xs, d, h, hd => by
    have h' : okd n x = true ∧ okds n xs = true := by simpa [okds] using h
    rw [toPys, List.countP_cons, count_py n m xs d h'.2 hd, eqv_deq n m x d h'.1 hd, countD, Nat.add_comm]
theorem mt_count' (hu : X.A.units + 65 < cLine) : MtR X "list.count" (rdm X.K X.w mCount) := by
  intro pins s σ H x xs v us Q I rx rxs h
  obtain ⟨F, d, e, y, rfl, hs, hd, he, q⟩ := h
  unfold mCount at q
  split at q
  · rename_i ys
    split at q
    · rename_i hc
      rw [Bool.and_eq_true] at hc
      obtain ⟨a1, a2, a3⟩ := dp_of hs deep _ y hc.1 he
      obtain ⟨a, vs, rfl, hF, hr⟩ := hd
      obtain ⟨b1, b2, b3⟩ := dps_of hs deep ys vs hc.2 hr
      cases rx
      obtain ⟨uy, rfl, ry⟩ := rxs.one
      obtain ⟨bs, r1⟩ := Dp.reads I _ y uy a1 ry
      obtain ⟨its, rv, ⟨⟨cls, dd, data, sls⟩, n, ho, hcl, hdn, hdt⟩, hlen⟩ := I.list (SqL.of (hs _ _ hF))
      simp only at hcl hdt
      subst hcl hdt
      obtain ⟨as, h4⟩ := Dp.readsAll I (toPys ys) _ its b1 rv
      have hmap : its.map (SeqAt.readOf s.heap) = toPys ys := SeqAt.readsAll_map (toPys ys) its as b2 h4
      have rm : X.A.units + 1 + min (PyData.depthAll (toPys ys)) (toPy e).depth < cLine := by
        have := Nat.min_le_right (PyData.depthAll (toPys ys)) (PyData.depth (toPy e))
        have a3' : PyData.depth (toPy e) ≤ 60 := a3
        omega
      refine call_meets PySem.F.slot_list_count ⟨_, ho, rfl⟩ PySem.F.entry_list_count (PySem.F.args_list_count_2 _ _)
        (SeqAt.list_countAt a its.toArray n dd sls uy (fun u => PyData.eqv (SeqAt.readOf s.heap u) (toPy e))) ⟨ho, SeqAt.items_eqAt (vs := its.toArray) (show ReadsAll s.heap its.toArray.toList (toPys ys) as from h4) r1 b2 a2 rm, ?_⟩
      have ec : its.toArray.toList.countP (fun u => PyData.eqv (SeqAt.readOf s.heap u) (toPy e)) = countD e ys := by
        rw [← count_py deep deep ys e hc.2 hc.1, ← hmap, List.countP_map]
        rfl
      refine ⟨.int (countD e ys : Nat), H, I.tok _, ⟨s.toks, ?_⟩, fin_ok q hs rfl⟩
      show Value.int ((its.toArray.toList.countP (fun u => PyData.eqv (SeqAt.readOf s.heap u) (toPy e)) : Nat) : Int) s.toks = _
      rw [ec]
    · exact False.elim q
  · exact False.elim q
theorem mIndex_ne (d e : D) (k : Nat) : mIndex d e ≠ .ex k := by unfold mIndex; split <;> first | (intro h; cases h; done) | (split <;> first | (intro h; cases h; done) | (split <;> (intro h; cases h)))
theorem mCount_ne (d e : D) (k : Nat) : mCount d e ≠ .ex k := by unfold mCount; split <;> first | (intro h; cases h; done) | (split <;> (intro h; cases h))
/-- o.m(a), o a list -/
theorem s_mtL (G : Gd0 X C) {m : Mt} {f : D → D → R D} {id : String} {name : Str} {o a : Expr} {to ta : E} {ap cp : Pos} (slot : Slot "list" name id) (hty : typeOf (.builtin id) = pure (.type "method_descriptor")) (hm : MtR X id (rdm X.K X.w f))
    (hf : ∀ x y, mt1 m x y = f x y) (hne : ∀ d e k, f d e ≠ .ex k) (hok : ∀ x, mtOk m x = true → ∃ xs, x = .lst xs) (ho : PE X o (C.rd to)) (ha : PE X a (C.rd ta)) (hn : NoStar a) (hb : noCall0 o = true) (hline : (ap.endLine == cp.line) = true) :
    PE X (.Call (.Attribute o name ap) [a] [] cp) (C.rd (.mt1 m to ta)) := by
  have hfew : ((backTo cp (starEach [a] X.env)).all (fun x => !x.1) && (backToKw cp (keywordEach [] X.env)).all (fun x => x.1.isSome)
      && decide (([a] : List Expr).length + ([] : List Keyword).length + (if ([] : List Keyword).isEmpty then 0 else 1) < 30)) = true := by rw [hn [] X.env]; rfl
  refine PE.weak (pe_bm PySem.F.plainAttrs_list slot hty hm ho (pa_cons ha pa_nil (hn [] X.env)) (base_of hb) hfew hline (hn [] X.env) rfl) fun σ H Q ⟨env, F, he, hs, q⟩ => ?_
  have q' : fin C.K C.w ((ev C.glob C.fn to env).bind fun x => if mtOk m x then (ev C.glob C.fn ta env).bind fun y => mt1 m x y else .no) F H Q _ := q
  refine ⟨env, F, he, hs, fin_bind q' fun d v F1 H1 e1 x1 r1 q1 => ?_⟩
  by_cases hk : mtOk m d = true
  · rw [if_pos hk] at q1
    obtain ⟨xs, rfl⟩ := hok d hk
    obtain ⟨b, vs, rfl, h1, h2⟩ := r1
    refine ⟨.inl ⟨rfl, vs, SqL.of (x1.inH _ _ h1)⟩, env, F1, he.mono x1.sub, x1.inH, fin_bind q1 fun d2 v2 F2 H2 e2 x2 r2 q2 => ?_⟩
    rw [G.hK, G.hw]
    rw [hf] at q2
    exact ⟨F2, .lst xs, d2, v2, rfl, x2.inH, Rep.mono x2.sub _ _ ⟨b, vs, rfl, h1, h2⟩, r2, fin_no0 q2 (hne _ d2)⟩
  · rw [if_neg hk] at q1; exact False.elim q1
end
end Ev

/-! Sets of keys of one kind: made of a list, told by what they hold. -/
namespace Ev
open PySem PySem.Spec L2 PyProof.Rows RZ

section
variable {A : Type} [DecidableEq A]
theorem metGo_app (acc : List A) : ∀ (l r : List A), metGo acc (l ++ r) = metGo (metGo acc l) r
  | [], r => rfl
  | x :: l, r => metGo_app (acc := if x ∈ acc then acc else acc ++ [x]) l r
theorem met_snoc (l : List A) (x : A) : met (l ++ [x]) = if x ∈ met l then met l else met l ++ [x] := by
  unfold met; rw [metGo_app]; rfl
theorem metGo_len : ∀ (l acc : List A), (metGo acc l).length ≤ acc.length + l.length
  | [], acc => Nat.le_refl _
  | x :: l, acc => by
    have := metGo_len l (if x ∈ acc then acc else acc ++ [x])
    show (metGo (if x ∈ acc then acc else acc ++ [x]) l).length ≤ _
    rw [List.length_cons]
    split at this
    · rename_i h; rw [if_pos h]; omega
    · rename_i h; rw [if_neg h]; rw [List.length_append, List.length_singleton] at this; omega
theorem met_len (l : List A) : (met l).length ≤ l.length := by
  have := metGo_len l ([] : List A)
  unfold met
  simpa using this
end
/-! ### a set of keys: its table can be walked -/
section
variable {prog : Program} {w : World} {κ : Type} [DecidableEq κ] (knd : KeyKind prog w κ)
open Classical in
/-- the key that a value is -/
noncomputable def kyv (v : Value) : Option κ := if hx : ∃ k, knd.is k v = true then some hx.choose else none
theorem kyv_is {k : κ} {v : Value} (q : knd.is k v = true) : kyv knd v = some k := by
  have hx : ∃ k, knd.is k v = true := ⟨k, q⟩
  unfold kyv
  rw [dif_pos hx]
  exact congrArg some (knd.inj v _ _ hx.choose_spec q)
theorem kyv_at {k : κ} {v : Value} (q : kyv knd v = some k) : knd.is k v = true := by
  unfold kyv at q
  split at q
  · rename_i hx
    rw [← Option.some.inj q]
    exact hx.choose_spec
  · cases q
def SetG (mem : Heap) (ad : Addr) (ks : List κ) : Prop :=
  ∃ ob ents age tab, mem.get? ad = some ob ∧ ob.ExactSet ∧ ob.data = .set ents age tab ∧ ElemsOf knd ents.toList ∧ (ents.toList.map fun z => kyv knd z.2).Perm (ks.map some) ∧ ents.size < scanBound ∧
    tab.fits ents.size = true ∧ Ris tab.place.toList ∧ (w.params.followText "set-order" = true ∨ tab.led = true)
theorem SetG.len {mem : Heap} {ad : Addr} {ks : List κ} (R : SetG knd mem ad ks) : ∃ ob ents age tab, mem.get? ad = some ob ∧ ob.ExactSet ∧ ob.data = .set ents age tab ∧ tab.fits ents.size = true ∧ ents.size = ks.length := by
  obtain ⟨ob, ents, age, tab, g1, g2, g3, g4, g5, g6, g7, g8, g9⟩ := R
  refine ⟨ob, ents, age, tab, g1, g2, g3, g7, ?_⟩
  have := g5.length_eq
  simpa using this
theorem SetG.keep {mem mem' : Heap} {ad : Addr} {ks : List κ} (R : SetG knd mem ad ks) (k : ∀ ob, mem.get? ad = some ob → mem'.get? ad = some ob) : SetG knd mem' ad ks := by
  obtain ⟨ob, ents, age, tab, g1, g2⟩ := R
  exact ⟨ob, ents, age, tab, k ob g1, g2⟩
theorem SetG.fresh {mem : Heap} {ad : Addr} (g : mem.get? ad = some { cls := .type "set", dict := none, data := .set #[] 0 (.fresh 0 0 (!w.params.followText "set-order")) }) : SetG knd mem ad [] :=
  ⟨_, #[], 0, _, g, ⟨rfl, rfl, rfl⟩, rfl, fun z hz => by simp at hz, by simp, by decide, by rfl, List.Pairwise.nil, by
    show _ ∨ (!w.params.followText "set-order") = true
    cases w.params.followText "set-order"
    · exact Or.inr rfl
    · exact Or.inl rfl⟩
end
section
variable {prog : Program} {w : World} {κ : Type} [DecidableEq κ] {knd : KeyKind prog w κ} {A : Around} {E : Value → Shared → Prop} {s : Shared}
theorem setG_store {g : Bool → Sem Unit} (hg : ∀ (b : Bool) (t₁ : Shared) (Z : Unit → Shared → Prop), Z () t₁ → wpAny (model prog w) A (g b) Z E t₁)
    {ad : Addr} {ob : Obj} {ents : Array (Int × Value)} {age : Nat} {tab : SetTable} (g1 : s.heap.get? ad = some ob) (g2 : ob.ExactSet) (g3 : ob.data = .set ents age tab)
    {en1 : Array (Int × Value)} {tb1 : SetTable} {ks : List κ} (c1 : ElemsOf knd en1.toList) (c2 : (en1.toList.map fun z => kyv knd z.2).Perm (ks.map some)) (c3 : en1.size < scanBound) (c4 : tb1.fits en1.size = true)
    (c5 : Ris tb1.place.toList) (c6 : w.params.followText "set-order" = true ∨ tb1.led = true) {was : Bool} {Z : Option Bool → Shared → Prop} (hz : ∀ mem, Heap.SameBut ad s.heap mem → SetG knd mem ad ks → Z (some true) { s with heap := mem }) :
    wpAny (model prog w) A (do
        storeSet ad en1 tb1
        if (!was && tb1.tooFull) = true then do
            g (relayAll tb1 en1 (SetTable.grown en1.size)).2.2
            storeSet ad (relayAll tb1 en1 (SetTable.grown en1.size)).1 (relayAll tb1 en1 (SetTable.grown en1.size)).2.1
            pure (some true)
          else pure (some true)) Z E s := by
  refine wpAny_bind (wpAny_storeSet_of g1 g3 ?_ (fits_of_scanBound c3))
  have k1 := store_at (es' := en1) (t' := tb1) g1 g3
  have b1 := Heap.SameBut.update s.heap ad (Obj.putSet en1 tb1)
  split
  · have p1 := relayAll_perm tb1 en1 (SetTable.grown en1.size)
    have p2 := relayAll_fits tb1 en1 (SetTable.grown en1.size)
    have p3 := relayAll_ris tb1 en1 (SetTable.grown en1.size)
    have p4 := relayAll_led tb1 en1 (SetTable.grown en1.size)
    generalize relayAll tb1 en1 (SetTable.grown en1.size) = T3 at p1 p2 p3 p4 ⊢
    obtain ⟨en2, tb2, gv⟩ := T3
    dsimp only at p1 p2 p3 p4 ⊢
    have sz : en2.size = en1.size := by rw [← Array.length_toList, p1.length_eq, Array.length_toList]
    have c3' : en2.size < scanBound := by rw [sz]; exact c3
    refine wpAny_bind (hg _ _ _ ?_)
    refine wpAny_bind (wpAny_storeSet_of k1 rfl ?_ (fits_of_scanBound c3'))
    have k2 := store_at (es' := en2) (t' := tb2) k1 rfl
    refine wpAny_pure (hz _ (b1.trans (Heap.SameBut.update _ ad _)) ?_)
    exact ⟨_, en2, _, tb2, k2, g2, rfl, c1.perm p1, (p1.map _).trans c2, c3', p2, p3, c6.imp id fun z => by rw [p4]; exact z⟩
  · exact wpAny_pure (hz _ b1 ⟨_, en1, _, tb1, k1, g2, rfl, c1, c2, c3, c4, c5, c6⟩)
theorem setG_add {ad : Addr} {ks : List κ} {k : κ} {x : Value} {Q : Bool → Shared → Prop} (hk : knd.is k x = true) (hsc : x.scannable = true) (R : SetG knd s.heap ad ks) (room : ks.length + 1 < scanBound)
    (hQ : ∀ mem b, Heap.SameBut ad s.heap mem → SetG knd mem ad (if k ∈ ks then ks else ks ++ [k]) → Q b { s with heap := mem }) :
    wpAny (model prog w) A (setAddHashed ad x (knd.hash k)) Q E s := by
  obtain ⟨ob, ents, age, tab, g1, g2, g3, g4, g5, g6, g7, g8, g9⟩ := R
  have hlen : ents.size = ks.length := by
    have := g5.length_eq
    simpa using this
  unfold setAddHashed setAddHashedIn
  refine wpAny_holding (wpAny_bind (wpAny_setState_of g1 g3 g7 ?_))
  dsimp only
  rw [byScan_of hsc g6 g4]
  simp only [↓reduceIte]
  unfold setAddByScan
  refine wpAny_bind ?_
  refine wpAny_bind (wpAny_rule ?_)
  refine wpAny_bind (wpAny_setScan_of hk g1 g3 g7 g4 ?_)
  have hmem : k ∈ ks ↔ ∃ z ∈ ents.toList, knd.is k z.2 = true := by
    have h1 : k ∈ ks ↔ some k ∈ ks.map some := by simp
    rw [h1, ← g5.mem_iff, List.mem_map]
    exact ⟨fun ⟨z, hz, q⟩ => ⟨z, hz, kyv_at knd q⟩, fun ⟨z, hz, q⟩ => ⟨z, hz, kyv_is knd q⟩⟩
  cases hfi : List.findIdx? (fun z => knd.is k z.2) ents.toList with
  | some j =>
    dsimp only
    obtain ⟨hj, pj, _⟩ := List.findIdx?_eq_some_iff_getElem.mp hfi
    have hin : k ∈ ks := hmem.mpr ⟨ents.toList[j], List.getElem_mem hj, pj⟩
    refine wpAny_pure (wpAny_pure ?_)
    refine hQ s.heap _ (Heap.SameBut.refl ad s.heap) ?_
    rw [if_pos hin]
    exact ⟨ob, ents, age, tab, g1, g2, g3, g4, g5, g6, g7, g8, g9⟩
  | none =>
    dsimp only
    have hin : k ∉ ks := fun z => by
      obtain ⟨e, he, q⟩ := hmem.mp z
      have c := List.findIdx?_eq_none_iff.mp hfi e he
      rw [q] at c
      cases c
    have gv : ∀ (b : Bool) {t₁ : Shared} {Z : Unit → Shared → Prop}, Z () t₁ → wpAny (model prog w) A (match b with | true => rule "set.scan.the-table-gave-way" | false => pure ()) Z E t₁ :=
      fun b t₁ Z q => by cases b <;> first | exact wpAny_pure q | exact wpAny_rule q
    have p1 := layNew_perm tab ents (knd.hash k) x
    have p2 := layNew_fits tab ents (knd.hash k) x
    have p3 := layNew_ris tab ents (knd.hash k) x g8
    have p4 := layNew_led tab ents (knd.hash k) x
    generalize layNew tab ents (knd.hash k) x = T3 at p1 p2 p3 p4 ⊢
    obtain ⟨en1, tb1, was, gave⟩ := T3
    dsimp only at p1 p2 p3 p4 ⊢
    rw [Array.toList_push] at p1
    have c1 : ElemsOf knd en1.toList := (g4.push hk hsc).perm p1
    have c2 : (en1.toList.map fun z => kyv knd z.2).Perm ((ks ++ [k]).map some) := by
      refine (p1.map _).trans ?_
      rw [List.map_append, List.map_append]
      refine g5.append ?_
      show [kyv knd x].Perm [some k]
      rw [kyv_is knd hk]
    have sz : en1.size = ents.size + 1 := by rw [← Array.length_toList, p1.length_eq, List.length_append, Array.length_toList]; rfl
    have c3 : en1.size < scanBound := by rw [sz, hlen]; exact room
    have c6 : w.params.followText "set-order" = true ∨ tb1.led = true := g9.imp id fun z => by rw [p4]; exact z
    have fin : ∀ mem, Heap.SameBut ad s.heap mem → SetG knd mem ad (ks ++ [k]) → ∀ b, Q b { s with heap := mem } := fun mem sb r b => by
      refine hQ mem b sb ?_
      rw [if_neg hin]
      exact r
    refine wpAny_bind (gv _ ?_)
    split
    · refine wpAny_bind ?_
      rw [hashByValue_scannable 8 hsc]
      refine wpAny_pure ?_
      refine setG_store ?_ g1 g2 g3 c1 c2 c3 ?_ ?_ ?_ ?_
      · intro b t₁ Z q; cases b <;> first | exact wpAny_pure q | exact wpAny_rule q
      · first | (split <;> first | exact p2 | exact SetTable.fits_plain_off p2) | exact p2
      · first | (split <;> exact p3) | exact p3
      · first | (split <;> exact c6) | exact c6
      · intro mem sb r; dsimp only; exact wpAny_pure (fin mem sb r _)
    · refine wpAny_bind (wpAny_pure ?_)
      simp only [↓reduceIte]
      refine setG_store ?_ g1 g2 g3 c1 c2 c3 p2 p3 c6 ?_
      · intro b t₁ Z q; cases b <;> first | exact wpAny_pure q | exact wpAny_rule q
      · intro mem sb r; dsimp only; exact wpAny_pure (fin mem sb r _)
end
section
variable {prog : Program} {w : World} {κ : Type} [DecidableEq κ] {knd : KeyKind prog w κ} {d0 : κ} {A : Around} {R : Result → Shared → Prop} {I : Addr} {fp wr : List Addr} {G : Array GenState → Array GenState → Prop} {n : Nat} {P : Nat → Value → Prop} {St : Nat → Shared → Prop}
/-- keys put to a new set, one by one -/
theorem set_loopG (W : WalksS prog w A.in1 I fp wr G n P St) (S : Addr) (hSf : S ∉ fp) (xs : List κ) (hsz : xs.length = n) (hb : n + 1 < scanBound) (hval : ∀ i v, P i v → knd.is (xs.getD i d0) v = true ∧ v.scannable = true) :
    ∀ (k i : Nat) (s : Shared), n - i = k → i ≤ n → St i s → SetG knd s.heap S (met (xs.take i)) →
      (∀ s', Moved (S :: wr) G s s' → SetG knd s'.heap S (met xs) → R (.ok (.ret .none)) s') →
      codeAny (model prog w) A (.builtin "set.update.loop" ⟨[.ref S, .ref I], []⟩) R s := by
  have notw : S ∉ wr := fun h => hSf (W.sub _ h)
  have sub : ∀ b ∈ wr, b ∈ S :: wr := fun b hb => List.mem_cons_of_mem _ hb
  intro k
  induction k with
  | zero =>
    intro i s hk hi hst hS hR
    obtain rfl : i = n := by omega
    refine codeAny_builtin PyProof.Rows.F.entry_set_update_loop ?_
    rw [Around.under_plainId PyProof.Rows.F.plain_set_update_loop _]
    show wpAny _ A.in1 (pyNext (.ref I) >>= _) _ _ s
    refine wpAny_bind (W.done s _ _ hst fun s' hm => ?_)
    show wpAny _ A.in1 (ret Value.none) _ _ s'
    rw [List.take_of_length_le (Nat.le_of_eq hsz)] at hS
    exact wpAny_pure (hR s' (hm.mono sub) (hS.keep knd fun ob e => hm.heap S _ notw e))
  | succ k ih =>
    intro i s hk hi hst hS hR
    have hlt : i < n := by omega
    refine codeAny_builtin PyProof.Rows.F.entry_set_update_loop ?_
    rw [Around.under_plainId PyProof.Rows.F.plain_set_update_loop _]
    show wpAny _ A.in1 (pyNext (.ref I) >>= _) _ _ s
    refine wpAny_bind (W.item i s _ _ hlt hst fun v s' hP hst' hm => ?_)
    obtain ⟨hv1, hv2⟩ := hval i v hP
    have hx : xs.take (i + 1) = xs.take i ++ [xs.getD i d0] := by
      rw [List.take_add_one, List.getElem?_eq_getElem (by omega), List.getD_eq_getElem?_getD, List.getElem?_eq_getElem (by omega)]; rfl
    generalize xs.getD i d0 = x at hx hv1
    have hS' : SetG knd s'.heap S (met (xs.take i)) := hS.keep knd fun ob e => hm.heap S _ notw e
    show wpAny _ A.in1 (holding [v] (setAdd S v) >>= _) _ _ s'
    refine wpAny_bind (wpAny_holding ?_)
    unfold setAdd
    refine wpAny_holding ?_
    refine wpAny_bind (knd.pyHash (k := x) hv1 ?_)
    have room : (met (xs.take i)).length + 1 < scanBound := by
      have := met_len (xs.take i)
      rw [List.length_take] at this
      omega
    refine setG_add (s := { s' with toks := s'.toks + 1 }) hv1 hv2 hS' room fun h' _ hsb hS2 => ?_
    have hSi : SetG knd h' S (met (xs.take (i + 1))) := by
      rw [hx, met_snoc]
      exact hS2
    refine wpAny_pure ⟨plainId_quiet PyProof.Rows.F.plain_set_update_loop _, ih (i + 1) _ (by omega) hlt (W.frame _ s' _ _ hst' (Nat.le_succ _) fun b hb o e => ?_) hSi fun s'' hm'' hS'' => ?_⟩
    · rw [hsb.2 b (fun h : b = S => hSf (by rw [← h]; exact hb))]; exact e
    · refine hR s'' (Moved.trans W.gtrans ((hm.mono sub).then_heap (Nat.le_succ _) fun b o hb e => ?_) hm'') hS''
      rw [hsb.2 b (fun h : b = S => hb (by rw [h]; exact List.mem_cons_self))]; exact e
end
section
variable {prog : Program} {w : World} {κ : Type} [DecidableEq κ] {knd : KeyKind prog w κ} {A : Around} {E : Value → Shared → Prop} {s : Shared}
set_option maxHeartbeats 3200000 in
/-- set(list of keys) -/
theorem set_ofG {l : Addr} {items : Array Value} {xs : List κ} (d0 : κ) {Q : Value → Shared → Prop} (hh : A.handled = none) (hl : s.heap.IsList l items) (hsz : xs.length = items.size) (hval : ∀ (i : Nat) (v : Value), items[i]? = some v → knd.is (xs.getD i d0) v = true ∧ v.scannable = true) (hb : items.size + 1 < scanBound)
    (h : ∀ (h' : Heap) (tk : Nat), SetG knd h' s.heap.objs.size (met xs) → (∀ b o, b < s.heap.objs.size → s.heap.get? b = some o → h'.get? b = some o) →
      Q (.ref s.heap.objs.size) { s with heap := h', toks := tk }) : wpAny (model prog w) A (call (.type "set") [.ref l]) Q E s := by
  obtain ⟨cc, tl, hmro⟩ := PySem.F.called_set.mro
  have m0 := PySem.F.called_set.made
  have m1 := PySem.F.called_set.sub
  refine wpAny_call (codeAny_of_tree ?_)
  show wpAny _ _ (callAny (.type "set") _) _ _ _
  refine wpAny_pure ⟨Code.quiet_builtin _ (by decide +kernel), codeAny_builtin PySem.F.entry_type_call ?_⟩
  rw [Around.under_plain (weight_type_call_type "set" [.ref l] []) rfl]
  have m2 := PySem.F.called_set.notType
  have m3 := PySem.F.called_set.canCreate
  have m4 := PySem.F.typeCall_set_1 (.ref l)
  repeat (any_goals (first | assumption | wp_step))
  refine codeAny_mono (code_set_led1 (.ref l) (E := E) (Q₁ := fun obj s₁ => obj = .ref s.heap.objs.size ∧
    s₁ = { s with heap := s.heap.push { cls := .type "set", dict := none, data := .set #[] 0 (.fresh 0 0 (!w.params.followText "set-order")) } }) ⟨rfl, rfl⟩) fun r s₁ hr => ?_
  cases r with
  | error e => exact hr
  | ok fl =>
    cases fl with
    | ret obj =>
      obtain ⟨rfl, rfl⟩ := hr
      generalize hH : s.heap.push { cls := .type "set", dict := none, data := .set #[] 0 (.fresh 0 0 (!w.params.followText "set-order")) } = H1
      have hS : H1.get? s.heap.objs.size = some { cls := .type "set", dict := none, data := .set #[] 0 (.fresh 0 0 (!w.params.followText "set-order")) } := by rw [← hH]; exact Heap.get?_push_size _ rfl
      have hz1 : H1.objs.size = s.heap.objs.size + 1 := by rw [← hH, Heap.size_push]
      have old : ∀ b o, s.heap.get? b = some o → H1.get? b = some o := fun b o e => by rw [← hH]; exact Heap.get?_push_of_some _ e
      have hT : Shared.TypeIs { s with heap := H1 } (.ref s.heap.objs.size) "set" := ⟨_, hS, rfl⟩
      have q1 := PySem.F.called_set.init.lookup
      have q2 := PySem.F.called_set.init.bind (.ref s.heap.objs.size)
      repeat (any_goals (first | assumption | wp_step))
      refine codeAny_mono (codeAny_call_builtin (R := wants (fun r s₂ => r = .none ∧ ∃ h' tk, s₂ = { s with heap := h', toks := tk } ∧
          SetG knd h' s.heap.objs.size (met xs) ∧
          (∀ b o, b < s.heap.objs.size → s.heap.get? b = some o → h'.get? b = some o)) E) PySem.F.called_set.init.plain PySem.F.entry_set_init (check_set_init_1 hT ?_)) fun r₂ s₂ hr₂ => ?_
      · have hl1 : H1.IsList l items := by
          obtain ⟨ol, hol, hcl, nl, hdl⟩ := hl
          exact ⟨ol, old _ _ hol, hcl, nl, hdl⟩
        have hlS : l < s.heap.objs.size := by
          obtain ⟨ol, hol, _⟩ := hl
          exact Heap.lt_size hol
        obtain ⟨ol, hol, hcl, nl, hdl⟩ := id hl1
        obtain ⟨ocls, odict, odata, oslots⟩ := ol
        simp only at hcl hdl
        subst hcl
        subst hdl
        have r1 := PySem.F.sub_list_set
        have r2 := PySem.F.sub_list_frozenset
        have r3 : (Value.type "list" == Value.type "dict") = false := by decide
        unfold Builtin.«set.__init__» noKeywords Builtin.Frozenset.updateFrom
        generalize hPI : pyIter = PI
        wp_walk
        subst hPI
        refine wpAny_pyIter_list hl1 ?_
        refine wpAny_bind (wpAny_runValue ?_)
        have hh3 : A.in1.in1.in1.handled = none := by simp [hh]
        have hneI : l ≠ H1.objs.size := by rw [hz1]; exact Nat.ne_of_lt (Nat.lt_succ_of_lt hlS)
        have hSf : s.heap.objs.size ∉ [H1.objs.size, l] := by
          rw [hz1]
          simp only [List.mem_cons, List.mem_singleton, List.not_mem_nil, or_false, not_or]
          exact ⟨Nat.ne_of_lt (Nat.lt_succ_self _), Nat.ne_of_gt hlS⟩
        refine set_loopG (knd := knd) (d0 := d0) ((Walks.list hh3 _ l hneI items).toS) s.heap.objs.size hSf xs hsz hb hval (items.size - 0) 0 _ (by omega) (Nat.zero_le _) ⟨⟨_, Heap.get?_push_size _ rfl, rfl, rfl⟩, (hl1.push _)⟩ ?hS0 ?hR
        case hS0 =>
          have hget : (H1.push { cls := .type "list_iterator", data := .fields #[.ref l, .int 0 0] }).get? s.heap.objs.size = some { cls := .type "set", dict := none, data := .set #[] 0 (.fresh 0 0 (!w.params.followText "set-order")) } := Heap.get?_push_of_some _ hS
          exact SetG.fresh knd hget
        case hR =>
          intro s' hm hS'
          obtain ⟨h', g', d', tk', os'⟩ := s'
          have eg : g' = s.gens := hm.gens
          have ed : d' = s.drawn := hm.drawn
          have eo : os' = s.os := hm.os
          subst eg
          subst ed
          subst eo
          show wpAny _ _ _ _ _ _
          refine wpAny_pure ?_
          show wpAny _ _ (ret Value.none) _ _ _
          refine wpAny_pure ⟨rfl, h', tk', rfl, hS', fun b o hb e => ?_⟩
          refine hm.heap b o ?_ (Heap.get?_push_of_some _ (old b o e))
          simp only [List.mem_cons, List.mem_singleton, List.not_mem_nil, or_false, not_or]
          exact ⟨Nat.ne_of_lt hb, by rw [hz1]; exact Nat.ne_of_lt (Nat.lt_succ_of_lt hb)⟩
      · cases r₂ with
        | error e => exact hr₂
        | ok fl₂ =>
          cases fl₂ with
          | ret r =>
            obtain ⟨rfl, h', tk, rfl, hS', hk'⟩ := hr₂
            repeat (any_goals (first | assumption | wp_step))
            exact h _ _ hS' hk'
          | _ => exact hr₂.elim
    | _ => exact hr.elim
end
end Ev

/-! Sets of texts by their codes. -/
namespace Ev
open PySem PySem.Spec L2 PyProof.Rows RZ

theorem metGo_tx : ∀ (l acc : List (List Nat)), metGo (acc.map tx) (l.map tx) = (metGo acc l).map tx
  | [], acc => rfl
  | x :: l, acc => by
    rw [List.map_cons]
    simp only [metGo]
    have e : tx x ∈ acc.map tx ↔ x ∈ acc := by
      constructor
      · intro h
        obtain ⟨y, hy, e⟩ := List.mem_map.mp h
        rw [← tx_inj.mp e]; exact hy
      · intro h; exact List.mem_map.mpr ⟨x, h, rfl⟩
    by_cases h : x ∈ acc
    · rw [if_pos (e.mpr h), if_pos h]; exact metGo_tx l acc
    · rw [if_neg (fun z => h (e.mp z)), if_neg h]
      have := metGo_tx l (acc ++ [x])
      rw [List.map_append] at this
      exact this
theorem met_tx (l : List (List Nat)) : met (l.map tx) = (met l).map tx := metGo_tx l []

end Ev

/-! len(set(l)). -/
namespace Ev
open PySem PySem.Spec L2 PyProof.Rows RZ
theorem dLenset_ne (d : D) (k : Nat) : dLenset d ≠ .ex k := by unfold dLenset; split <;> first | (intro h; cases h; done) | (split <;> first | (intro h; cases h; done) | (split <;> (intro h; cases h)))
section
variable {nm : Nm} {X : Cx} {C : Ct} {a : Expr} {ta : E} {p p2 q pos : Pos}
theorem s_lenset (G : Gd nm X C) (hg : Gl X "len") (hg2 : Gl X "set") (ha : PE X a (C.rd ta)) (ns : NoStar a) : PE X (.Call (.Name "len" p) [.Call (.Name "set" p2) [a] [] q] [] pos) (C.rd (.bi1 .lenset ta)) := by
  have hm : X.mg "len" = none := G.blt _ (by decide +kernel)
  have hm2 : X.mg "set" = none := G.blt _ (by decide +kernel)
  have na := ns [] X.env
  refine ⟨fun pins s σ H Q I ⟨env, F, he, hs, qq⟩ => ?_⟩
  have key : C.rd ta σ H fun v H1 => ∃ F1 d, Ext F H F1 H1 ∧ Rep C.K C.w F1 d v ∧ fin C.K C.w (dLenset d) F1 H1 Q (fun c H' => C.W (.ref (C.ca c)) none σ H') :=
    ⟨env, F, he, hs, fin_bind (show fin C.K C.w ((ev C.glob C.fn ta env).bind fun x => dLenset x) F H Q _ from qq) fun d v F1 H1 e1 x1 r1 q1 => ⟨F1, d, x1, r1, q1⟩⟩
  refine Call_ (ld_blt I.toInv hg hm boot_len ?_)
  refine PyProof.Rows.callWith_builtin1 (PyProof.Rows.args_cons ?_ rfl) rfl rfl
  refine Call_ (ld_blt I.toInv hg2 hm2 boot_set ?_)
  refine PyProof.Rows.callWith_type1 (PyProof.Rows.args_cons (thn (ha.run pins s σ H _ I key) fun v s1 ⟨x, H1, I1, r1, F1, d, x1, rd, q1⟩ => PyProof.Rows.args_nil ?_) na) na rfl
  first | refine upE I1.tk ?_ | refine up1 I1.tk ?_ | refine up2 I1.tk ?_ | refine up3 I1.tk ?_
  replace I1 := I1.toInv
  unfold dLenset at q1
  split at q1 <;> first | exact False.elim q1 | skip
  split at q1 <;> first | exact False.elim q1 | skip
  rename_i xs hsm
  split at q1 <;> first | exact False.elim q1 | skip
  rename_i ss hss
  obtain ⟨l, vs, rfl, hF, hr⟩ := rd
  cases r1
  obtain ⟨e1, e2⟩ := strs_of hss hr
  have hsm' : xs.length ≤ 1000 := by simpa [small] using hsm
  obtain ⟨its, r, pl, hz⟩ := I1.list (SqL.of (x1.inH _ _ hF))
  rw [e1] at r
  have hlen : its.toArray.size = (ss.map tx).length := by rw [List.size_toArray, ← r.length, List.length_map]
  have hls : (ss.map tx).length = xs.length := by rw [hr.length, e1, List.length_map, List.length_map, List.length_map]
  refine set_ofG (knd := PySem.strKind X.prog X.w) Str.empty (I1.ok.hd G.calm) pl.isList hlen.symm (fun i v hv => ?_) (by rw [hlen, hls]; unfold scanBound; omega) fun h' tk hS hk => ?_
  · obtain ⟨t, rfl⟩ := SS.strs_at (strsAre_of r) i v (by simpa using hv)
    exact ⟨strKind_is _ _ _ _, rfl⟩
  refine PyProof.Rows.args_nil ?_
  obtain ⟨o, es, ep, t, ho, hex, hd, hf, hn⟩ := hS.len
  have I2 : L2.Inv X pins σ H1 { s1 with heap := h', toks := tk } := I1.kept fun b o e => hk b o (Heap.lt_size e) e
  have hme : (met (ss.map tx)).length = (met ss).length := by rw [met_tx, List.length_map]
  have hml := met_len ss
  rw [List.length_map] at hls
  refine call_len_set ho hex hd hf (by rw [hn, hme]; omega) ⟨.int (met ss).length, H1, I2.tok _, ⟨_, by rw [hn, hme]⟩, ?_⟩
  exact fin_ok (show fin C.K C.w (.ok (.int (met ss).length)) F1 H1 Q _ from q1) x1.inH rfl
end
end Ev
namespace Ev
open PySem PySem.Spec L2 PyProof.Rows RZ
theorem join_tx (s : List Nat) : ∀ ss : List (List Nat), Str.join (tx s) (ss.map tx) = tx (joinL s ss)
  | [] => rfl
  | [x] => rfl
  | x :: y :: r => by
    have ih := join_tx s (y :: r)
    show tx x ++ tx s ++ Str.join (tx s) ((y :: r).map tx) = tx (x ++ s ++ joinL s (y :: r))
    rw [ih, tx_app, tx_app]
theorem joinL_ok {s : List Nat} (hs : okc s = true) : ∀ {ss : List (List Nat)}, (∀ b ∈ ss, okc b = true) → okc (joinL s ss) = true
  | [], _ => rfl
  | [x], h => h x List.mem_cons_self
  | x :: y :: r, h => okc_app (okc_app (h x List.mem_cons_self) hs) (joinL_ok hs fun b hb => h b (List.mem_cons_of_mem _ hb))
theorem mJoin_ne (d e : D) (k : Nat) : mJoin d e ≠ .ex k := by unfold mJoin; split <;> first | (intro h; cases h; done) | (split <;> first | (intro h; cases h; done) | (split <;> (intro h; cases h)))
theorem lens_tx : ∀ ss : List (List Nat), ((ss.map tx).map (·.length)) = ss.map List.length
  | [] => rfl
  | x :: r => by rw [List.map_cons, List.map_cons, List.map_cons, tx_len, lens_tx r]
section
variable {nm : Nm} {X : Cx} {C : Ct} {o a : Expr} {to ta : E}
theorem s_join (G : Gd0 X C) {ap cp : Pos} (ho : PE X o (C.rd to)) (ha : PE X a (C.rd ta)) (hn : NoStar a) (hb : noCall0 o = true) (hline : (ap.endLine == cp.line) = true) : PE X (.Call (.Attribute o "join" ap) [a] [] cp) (C.rd (.mt1 .join to ta)) := by
  refine PE.weak (pe_join ho ha (hn [] X.env) (base_of hb) hline) fun σ H Q ⟨env, F, he, hs, q⟩ => ?_
  have q' : fin C.K C.w ((ev C.glob C.fn to env).bind fun x => if mtOk .join x then (ev C.glob C.fn ta env).bind fun y => mt1 .join x y else .no) F H Q _ := q
  refine ⟨env, F, he, hs, fin_bind q' fun d v F1 H1 e1 x1 r1 q1 => ?_⟩
  by_cases hk : mtOk .join d = true
  · rw [if_pos hk] at q1
    cases d with
    | str sp =>
      obtain ⟨rfl, hok⟩ := r1
      refine ⟨⟨_, rfl⟩, env, F1, he.mono x1.sub, x1.inH, fin_bind q1 fun d2 v2 F2 H2 e2 x2 r2 q2 => ?_⟩
      have q3 : fin C.K C.w (mJoin (.str sp) d2) F2 H2 Q _ := q2
      cases d2 <;> first | exact False.elim q3 | skip
      rename_i ys
      have q4 : fin C.K C.w (match strsOf ys with
        | some ss => if (ss.map List.length).sum + ss.length * sp.length ≤ lim then .ok (.str (joinL sp ss)) else .no
        | none => .no) F2 H2 Q fun c H' => C.W (.ref (C.ca c)) none σ H' := q3
      clear q3
      split at q4 <;> first | exact False.elim q4 | skip
      rename_i ss hss
      split at q4 <;> first | exact False.elim q4 | skip
      rename_i hlim
      obtain ⟨b, vs, rfl, h1, h2⟩ := r2
      obtain ⟨g1, g2⟩ := strs_of hss h2
      refine ⟨tx sp, b, ss.map tx, rfl, rfl, .inl ?_, ?_, ?_⟩
      · rw [← g1]; exact SqL.of (x2.inH _ _ h1)
      · rw [lens_tx, List.length_map, tx_len]; exact hlim
      · have e5 : Txt.join (tx sp) (ss.map tx) = tx (joinL sp ss) := (StrLaws.glued_eq_join _ _).trans (join_tx sp ss)
        rw [e5]
        exact fin_ok (show fin C.K C.w (.ok (.str (joinL sp ss))) F2 H2 Q _ from q4) x2.inH ⟨rfl, joinL_ok hok g2⟩
    | _ => cases hk
  · rw [if_neg hk] at q1; exact False.elim q1
end
end Ev

/-! tuple(zip(l, m)) of two lists. -/
namespace Ev
open PySem PySem.Spec L2 PyProof.Rows RZ
/-- the pairs given so far, at the places as -/
def PairsAt (h : Heap) (as : List Addr) (xs ys : List Value) : Prop := ∀ (j : Nat) (a : Addr), as[j]? = some a → ∃ x y, xs[j]? = some x ∧ ys[j]? = some y ∧ IsPair h a x y
section
variable {prog : Program} {w : World} {A : Around} {R : Result → Shared → Prop}
/-- what stands while the zip is walked: B the size ahead of it -/
structure ZipSt (h : Heap) (z TI TO i1 i2 l1 l2 S : Addr) (xs ys : Array Value) (i : Nat) (as : List Addr) (B : Nat) : Prop where
  pTI : IsPair h TI (.ref i1) (.ref i2)
  it1 : h.IsListIter i1 l1 i
  it2 : h.IsListIter i2 l2 i
  ls1 : h.IsList l1 xs
  ls2 : h.IsList l2 ys
  zip : (IsZip h z TI TO .none ∧ ∃ a b, IsPair h TO a b) ∨ ∃ T f oT, IsZipHeld h z TI TO T f ∧ h.get? T = some oT ∧ T ≠ z ∧ T ≠ i1 ∧ T ≠ i2 ∧ T ≠ S
  lst : ∃ c, h.get? S = some { cls := .type "list", dict := none, data := .seq (as.map Value.ref).toArray c, slots := #[] }
  len : as.length = i
  tO : ∃ o, h.get? TO = some o
  prs : PairsAt h as xs.toList ys.toList
  new : ∀ a ∈ as, B ≤ a ∧ a ≠ z ∧ a ≠ TO ∧ a ≠ i1 ∧ a ≠ i2 ∧ a ≠ S
  nod : as.Nodup
theorem far {b z B : Nat} (h : b < B) (g : B ≤ z) : b ≠ z := Nat.ne_of_lt (Nat.lt_of_lt_of_le h g)
variable {z TI TO i1 i2 l1 l2 S : Addr} {xs ys : Array Value} {res : Value} {h0 : Heap} {B : Nat}
theorem next_item {A' : Around} {E : Value → Shared → Prop} {s : Shared} {Q : Option Value → Shared → Prop} {i : Nat} {as : List Addr} {x y : Value} (D : ZipApart z TI TO i1 i2 l1 l2) (st : ZipSt s.heap z TI TO i1 i2 l1 l2 S xs ys i as B) (hx : xs[i]? = some x) (hy : ys[i]? = some y)
    (h : ∀ h' T f oT, IsZipHeld h' z TI TO T f → h'.get? T = some oT → T ≠ z → T ≠ i1 → T ≠ i2 → T ≠ S → h'.IsListIter i1 l1 (i + 1) → h'.IsListIter i2 l2 (i + 1) → IsPair h' s.heap.objs.size x y → h'.objs.size = s.heap.objs.size + 1 → (∃ o, h'.get? TO = some o) →
        (∀ b o, b ≠ z → b ≠ TO → b ≠ i1 → b ≠ i2 → s.heap.get? b = some o → h'.get? b = some o) → Q (some (.ref s.heap.objs.size)) { s with heap := h' }) (nS : S ≠ z ∧ S ≠ TI ∧ S ≠ TO ∧ S ≠ i1 ∧ S ≠ i2 ∧ S ≠ l1 ∧ S ≠ l2) : wpAny (model prog w) A' (pyNext (.ref z)) Q E s := by
  have hp : ∀ q : Addr, (∃ o, s.heap.get? q = some o) → s.heap.objs.size ≠ q := fun q ⟨o, e⟩ => Nat.ne_of_gt (Heap.lt_size e)
  have hp1 := hp i1 (let ⟨o, e, _⟩ := st.it1; ⟨o, e⟩)
  have hp2 := hp i2 (let ⟨o, e, _⟩ := st.it2; ⟨o, e⟩)
  have hpS := hp S (let ⟨_, e⟩ := st.lst; ⟨_, e⟩)
  rcases st.zip with ⟨hz, a, b, hTO⟩ | ⟨T, f, oT, hz, hT, t1, t2, t3, t4⟩
  · exact wpAny_pyNext_zip_item D hz st.pTI hTO st.it1 st.it2 st.ls1 st.ls2 hx hy fun h' z' TO' h1' h2' hpair hsz hk => h h' s.heap.objs.size false _ z' hpair (hp z ⟨_, hz⟩) hp1 hp2 hpS h1' h2' hpair hsz ⟨_, TO'⟩ hk
  · exact wpAny_pyNext_zip_item_held D hz hT st.pTI st.it1 st.it2 st.ls1 st.ls2 hx hy fun h' z' h1' h2' hpair hsz hk => h h' T true oT z' (hk _ _ t1 t2 t3 hT) t1 t2 t3 t4 h1' h2' hpair hsz (let ⟨o, e⟩ := st.tO; ⟨o, hk _ _ D.TOz D.TOi1 D.TOi2 e⟩) fun b o n1 _ n3 n4 e => hk b o n1 n3 n4 e
theorem zip_loop (hh : A.in1.handled = none) (D : ZipApart z TI TO i1 i2 l1 l2) (nS : S ≠ z ∧ S ≠ TI ∧ S ≠ TO ∧ S ≠ i1 ∧ S ≠ i2 ∧ S ≠ l1 ∧ S ≠ l2) (old : B ≤ z ∧ B ≤ TO ∧ B ≤ i1 ∧ B ≤ i2 ∧ B ≤ S) (hn : min xs.size ys.size ≤ sizeLine) :
    ∀ (k i : Nat) (s : Shared) (as : List Addr), min xs.size ys.size - i = k → i ≤ min xs.size ys.size → ZipSt s.heap z TI TO i1 i2 l1 l2 S xs ys i as B → B ≤ s.heap.objs.size → (∀ b o, b < B → h0.get? b = some o → s.heap.get? b = some o) →
      (∀ (h' : Heap) (as' : List Addr) (c' : Nat), as'.length = min xs.size ys.size → h'.get? S = some { cls := .type "list", dict := none, data := .seq (as'.map Value.ref).toArray c', slots := #[] } → PairsAt h' as' xs.toList ys.toList → as'.Nodup → (∀ a ∈ as', B ≤ a ∧ a ≠ S) →
        (∀ b o, b < B → h0.get? b = some o → h'.get? b = some o) → R (.ok (.ret res)) { s with heap := h' }) →
      codeAny (model prog w) A (.builtin "list.extend.loop" ⟨[.ref S, .ref z, res], []⟩) R s := by
  intro k
  induction k with
  | zero =>
    intro i s as hk hi st hB keep hR
    obtain ⟨c, hlst⟩ := st.lst
    refine codeAny_builtin F.entry_extend_loop ?_
    rw [Around.under_plainId F.plain_extend_loop _]
    have hend : xs[i]? = none ∨ ys[i]? = none := by
      by_cases hx : xs.size ≤ i
      · exact .inl (Array.getElem?_eq_none hx)
      · exact .inr (Array.getElem?_eq_none (by omega))
    have fin : ∀ h', (∀ b o, b ≠ z → b ≠ TO → b ≠ i1 → b ≠ i2 → s.heap.get? b = some o → h'.get? b = some o) → R (.ok (.ret res)) { s with heap := h' } := fun h' hk' => by
      refine hR h' as c (by have := st.len; omega) (hk' _ _ nS.1 nS.2.2.1 nS.2.2.2.1 nS.2.2.2.2.1 hlst) (fun j a ha => ?_) st.nod (fun a ha => ⟨(st.new a ha).1, (st.new a ha).2.2.2.2.2⟩) fun b o hb e => ?_
      · obtain ⟨x, y, g1, g2, g3⟩ := st.prs j a ha
        obtain ⟨_, n1, n2, n3, n4, _⟩ := st.new a (List.mem_of_getElem? ha)
        exact ⟨x, y, g1, g2, hk' _ _ n1 n2 n3 n4 g3⟩
      · exact hk' b o (far hb old.1) (far hb old.2.1) (far hb old.2.2.1) (far hb old.2.2.2.1) (keep b o hb e)
    show wpAny _ A.in1 (pyNext (.ref z) >>= _) _ _ s
    rcases st.zip with ⟨hz, a, b, hTO⟩ | ⟨T, f, oT, hz, hT, _⟩
    · exact wpAny_bind (wpAny_pyNext_zip_end hh D hz st.pTI hTO st.it1 st.it2 st.ls1 st.ls2 hend fun h' hk' => wpAny_pure (fin h' hk'))
    · exact wpAny_bind (wpAny_pyNext_zip_end_held hh D hz hT st.pTI st.it1 st.it2 st.ls1 st.ls2 hend fun h' hk' => wpAny_pure (fin h' fun b o n1 _ n3 n4 e => hk' b o n1 n3 n4 e))
  | succ k ih =>
    intro i s as hk hi st hB keep hR
    obtain ⟨c, hlst⟩ := st.lst
    have hlt : i < min xs.size ys.size := by omega
    have hx : xs[i]? = some xs[i] := Array.getElem?_eq_getElem (by omega)
    have hy : ys[i]? = some ys[i] := Array.getElem?_eq_getElem (by omega)
    refine codeAny_builtin F.entry_extend_loop ?_
    rw [Around.under_plainId F.plain_extend_loop _]
    have hp : ∀ q : Addr, (∃ o, s.heap.get? q = some o) → q ≠ s.heap.objs.size := fun q ⟨o, e⟩ => Nat.ne_of_lt (Heap.lt_size e)
    show wpAny _ A.in1 (pyNext (.ref z) >>= _) _ _ s
    refine wpAny_bind (next_item D st hx hy (fun h' T f oT hz hT t1 t2 t3 t4 j1 j2 hpair hsz hTO' hk' => ?_) nS)
    have hS' := hk' _ _ nS.1 nS.2.2.1 nS.2.2.2.1 nS.2.2.2.2.1 hlst
    show wpAny _ A.in1 (updateSeq S (·.push (.ref s.heap.objs.size)) >>= _) _ _ _
    refine wpAny_bind ?_
    have hlen : as.length = i := st.len
    have pS : s.heap.objs.size ≠ S := fun e => (hp S ⟨_, hlst⟩) e.symm
    have oth : ∀ b o, b ≠ S → h'.get? b = some o → (h'.update S (Obj.mapSeq (·.push (.ref s.heap.objs.size)))).get? b = some o := fun b o hb e => (Heap.get?_update_other _ _ (Ne.symm hb)).trans e
    refine wpAny_updateSeq hS' rfl (wpAny_pure ⟨plainId_quiet F.plain_extend_loop _, ih (i + 1) _ (as ++ [s.heap.objs.size]) (by omega) hlt ?st ?hB ?keep ?hR⟩) (by simp; omega) (by simp; omega)
    case hB =>
      show B ≤ (h'.update S (Obj.mapSeq (·.push (.ref s.heap.objs.size)))).objs.size
      rw [Heap.size_update, hsz]; omega
    case keep => exact fun b o hb e => oth b o (far hb old.2.2.2.2) (hk' b o (far hb old.1) (far hb old.2.1) (far hb old.2.2.1) (far hb old.2.2.2.1) (keep b o hb e))
    case hR => exact fun h2 as' c' a1 a2 a3 a4 a5 a6 => hR h2 as' c' a1 a2 a3 a4 a5 a6
    case st =>
      have kk : ∀ b o, b ≠ S → b ≠ z → b ≠ TO → b ≠ i1 → b ≠ i2 → s.heap.get? b = some o → (h'.update S (Obj.mapSeq (·.push (.ref s.heap.objs.size)))).get? b = some o := fun b o n0 n1 n2 n3 n4 e => oth b o n0 (hk' b o n1 n2 n3 n4 e)
      refine ⟨oth _ _ nS.2.1.symm (hk' _ _ D.TIz D.TITO D.TIi1 D.TIi2 st.pTI), ?_, ?_, ?_, ?_, .inr ⟨T, f, oT, oth _ _ nS.1.symm hz, oth _ _ t4 hT, t1, t2, t3, t4⟩, ?lst, ?_, ?_, ?_, ?_, ?_⟩
      · exact j1.at fun o e => oth _ o nS.2.2.2.1.symm e
      · exact j2.at fun o e => oth _ o nS.2.2.2.2.1.symm e
      · exact st.ls1.at fun o e => kk _ o nS.2.2.2.2.2.1.symm D.l1z D.l1TO D.l1i1 D.l1i2 e
      · exact st.ls2.at fun o e => kk _ o nS.2.2.2.2.2.2.symm D.l2z D.l2TO D.l2i1 D.l2i2 e
      case lst =>
        have e := Heap.get?_update_self (Obj.mapSeq (·.push (Value.ref s.heap.objs.size))) hS' rfl
        have e2 : ((as.map Value.ref).toArray.push (Value.ref s.heap.objs.size)) = ((as ++ [s.heap.objs.size]).map Value.ref).toArray := by simp
        exact ⟨_, by rw [← e2]; exact e⟩
      · rw [List.length_append, hlen]; rfl
      · obtain ⟨o, e⟩ := hTO'
        exact ⟨o, oth _ _ nS.2.2.1.symm e⟩
      · intro j a ha
        by_cases hj : j < as.length
        · rw [List.getElem?_append_left hj] at ha
          obtain ⟨x, y, g1, g2, g3⟩ := st.prs j a ha
          obtain ⟨_, n1, n2, n3, n4, n5⟩ := st.new a (List.mem_of_getElem? ha)
          exact ⟨x, y, g1, g2, kk _ _ n5 n1 n2 n3 n4 g3⟩
        · rw [List.getElem?_append_right (by omega)] at ha
          have e0 : j - as.length = 0 := by
            cases hz0 : j - as.length with
            | zero => rfl
            | succ m => rw [hz0] at ha; simp at ha
          rw [e0] at ha
          cases ha
          have ej : j = i := by omega
          subst ej
          exact ⟨_, _, by rw [Array.getElem?_toList]; exact hx, by rw [Array.getElem?_toList]; exact hy, oth _ _ pS hpair⟩
      · intro a ha
        rcases List.mem_append.mp ha with h | h
        · exact st.new a h
        · obtain rfl := List.mem_singleton.mp h
          have q1 : z ≠ s.heap.objs.size := hp z (by rcases st.zip with ⟨e, _⟩ | ⟨_, _, _, e, _⟩ <;> exact ⟨_, e⟩)
          have q2 : i1 ≠ s.heap.objs.size := hp i1 (let ⟨o, e, _⟩ := st.it1; ⟨o, e⟩)
          have q3 : i2 ≠ s.heap.objs.size := hp i2 (let ⟨o, e, _⟩ := st.it2; ⟨o, e⟩)
          exact ⟨hB, q1.symm, (hp TO st.tO).symm, q2.symm, q3.symm, pS⟩
      · refine List.nodup_append.mpr ⟨st.nod, by simp, fun a ha b hb => ?_⟩
        obtain rfl := List.mem_singleton.mp hb
        obtain ⟨j, hj⟩ := List.getElem?_of_mem ha
        obtain ⟨_, _, _, _, g⟩ := st.prs j a hj
        exact hp a ⟨_, g⟩
end
end Ev
namespace Ev
open PySem PySem.Spec L2 PyProof.Rows RZ
theorem zip_no_len : typeLookup (.type "zip") "__len__" = pure none := am_miss_of_fast (by decide +kernel)
theorem zip_no_hint : typeLookup (.type "zip") "__length_hint__" = pure none := am_miss_of_fast (by decide +kernel)
section
variable {prog : Program} {w : World} {A : Around} {E : Value → Shared → Prop} {s : Shared} {z TI TO i1 i2 l1 l2 : Addr} {xs ys : Array Value} {B : Nat} {h0 : Heap}
theorem collect_zip {Q : List Value → Shared → Prop} (hh : A.handled = none) (D : ZipApart z TI TO i1 i2 l1 l2) (hz : IsZip s.heap z TI TO .none) (hTI : IsPair s.heap TI (.ref i1) (.ref i2)) {a b : Value} (hTO : IsPair s.heap TO a b) (h1 : s.heap.IsListIter i1 l1 0) (h2 : s.heap.IsListIter i2 l2 0)
    (hl1 : s.heap.IsList l1 xs) (hl2 : s.heap.IsList l2 ys) (old : B ≤ z ∧ B ≤ TO ∧ B ≤ i1 ∧ B ≤ i2) (hB : B ≤ s.heap.objs.size) (keep : ∀ b o, b < B → h0.get? b = some o → s.heap.get? b = some o) (hn : min xs.size ys.size ≤ sizeLine)
    (hQ : ∀ (h' : Heap) (as : List Addr), as.length = min xs.size ys.size → PairsAt h' as xs.toList ys.toList → as.Nodup → (∀ a ∈ as, B ≤ a) → (∀ b o, b < B → h0.get? b = some o → h'.get? b = some o) → B ≤ h'.objs.size → Q (as.map Value.ref) { s with heap := h' }) :
    wpAny (model prog w) A (collect (.ref z)) Q E s := by
  have lt : ∀ q : Addr, (∃ o, s.heap.get? q = some o) → s.heap.objs.size ≠ q := fun q ⟨o, e⟩ => Nat.ne_of_gt (Heap.lt_size e)
  have nz := lt z ⟨_, hz⟩
  unfold collect
  refine wpAny_bind (wpAny_runValue (codeAny_builtin F.entry_proto_collect ?_))
  rw [Around.under_plainId F.plain_proto_collect _]
  show wpAny _ A.in1 (newList [] >>= fun l => again (.builtin "list.__iadd__" ⟨[l, .ref z], []⟩)) _ _ s
  refine wpAny_bind (wpAny_newObj_type ?_)
  refine wpAny_pure ⟨plainId_quiet F.plain_list_iadd _, codeAny_builtin F.entry_list_iadd ?_⟩
  rw [Around.under_plainId F.plain_list_iadd _]
  generalize hH1 : s.heap.push { cls := .type "list", data := .seq ([] : List Value).toArray } = H1
  have up : ∀ c o, s.heap.get? c = some o → H1.get? c = some o := fun c o e => by rw [← hH1]; exact Heap.get?_push_of_some _ e
  have hS : H1.get? s.heap.objs.size = some { cls := .type "list", data := .seq ([] : List Value).toArray } := by rw [← hH1]; exact Heap.get?_push_size _ rfl
  have hz1 : H1.objs.size = s.heap.objs.size + 1 := by rw [← hH1, Heap.size_push]
  have hT1 : Shared.TypeIs { s with heap := H1 } (.ref z) "zip" := ⟨_, up _ _ hz, rfl⟩
  show wpAny _ A.in1 (Builtin.List.listExtendWith (.ref s.heap.objs.size) (.ref z) (.ref s.heap.objs.size)) _ _ _
  unfold Builtin.List.listExtendWith
  refine wpAny_bind (wpAny_typeOf hT1 ?_)
  have e1 : Builtin.List.listSameRef (.ref s.heap.objs.size) (.ref z) = false := by simp [Builtin.List.listSameRef, nz]
  have e2 : (Value.type "zip" == Value.type "list") = false := by decide
  have e3 : (Value.type "zip" == Value.type "tuple") = false := by decide
  simp only [e1, e2, e3, Bool.or_false, Bool.false_eq_true, if_false]
  refine wpAny_bind (wpAny_pyIter_zip (s := { s with heap := H1 }) (up _ _ hz) ?_)
  refine wpAny_bind (wpAny_holding ?_)
  unfold Builtin.List.listLengthHint
  refine wpAny_bind (wpAny_specialOf hT1 zip_no_len ?_)
  show wpAny _ A.in1 (specialOf (Value.ref z) (Str.ofString "__length_hint__") >>= _) _ _ _
  refine wpAny_bind (wpAny_specialOf hT1 zip_no_hint ?_)
  refine wpAny_pure ?_
  show wpAny _ A.in1 (rule "list.extend.makes-room" >>= fun _ => Builtin.List.listTouch (.ref s.heap.objs.size) >>= fun _ =>
    again (.builtin "list.extend.loop" ⟨[.ref s.heap.objs.size, .ref z, .ref s.heap.objs.size], []⟩)) _ _ _
  refine wpAny_bind (wpAny_rule ?_)
  refine wpAny_bind ?_
  show wpAny _ A.in1 (updateSeq s.heap.objs.size (·.push .none) >>= fun _ => updateSeq s.heap.objs.size (·.pop)) _ _ _
  refine wpAny_bind (wpAny_updateSeq hS rfl ?_)
  have hS2 := Heap.get?_update_self (Obj.mapSeq (·.push Value.none)) hS rfl
  refine wpAny_updateSeq hS2 rfl ?_
  have hS3 := Heap.get?_update_self (Obj.mapSeq (·.pop)) hS2 rfl
  have oth : ∀ b o, b ≠ s.heap.objs.size → H1.get? b = some o → ((H1.update s.heap.objs.size (Obj.mapSeq (·.push Value.none))).update s.heap.objs.size (Obj.mapSeq (·.pop))).get? b = some o :=
    fun b o hb e => (Heap.get?_update_other _ _ (Ne.symm hb)).trans ((Heap.get?_update_other _ _ (Ne.symm hb)).trans e)
  generalize hH3 : (H1.update s.heap.objs.size (Obj.mapSeq (·.push Value.none))).update s.heap.objs.size (Obj.mapSeq (·.pop)) = H3 at hS3 oth ⊢
  have sz3 : H3.objs.size = s.heap.objs.size + 1 := by rw [← hH3, Heap.size_update, Heap.size_update, hz1]
  have up3 : ∀ c o, s.heap.get? c = some o → H3.get? c = some o := fun c o e => oth c o (Ne.symm (lt c ⟨o, e⟩)) (up c o e)
  have nS : s.heap.objs.size ≠ z ∧ s.heap.objs.size ≠ TI ∧ s.heap.objs.size ≠ TO ∧ s.heap.objs.size ≠ i1 ∧ s.heap.objs.size ≠ i2 ∧ s.heap.objs.size ≠ l1 ∧ s.heap.objs.size ≠ l2 :=
    ⟨nz, lt _ ⟨_, hTI⟩, lt _ ⟨_, hTO⟩, lt _ (let ⟨o, e, _⟩ := h1; ⟨o, e⟩), lt _ (let ⟨o, e, _⟩ := h2; ⟨o, e⟩), lt _ (let ⟨o, e, _⟩ := hl1; ⟨o, e⟩), lt _ (let ⟨o, e, _⟩ := hl2; ⟨o, e⟩)⟩
  refine wpAny_pure ⟨plainId_quiet F.plain_extend_loop _, zip_loop (B := B) (h0 := h0) (xs := xs) (ys := ys) hh D nS ⟨old.1, old.2.1, old.2.2.1, old.2.2.2, hB⟩ hn _ 0 _ [] rfl (Nat.zero_le _) ⟨up3 _ _ hTI, h1.at fun o e => up3 _ o e, h2.at fun o e => up3 _ o e, hl1.at fun o e => up3 _ o e, hl2.at fun o e => up3 _ o e, .inl ⟨up3 _ _ hz, a, b, up3 _ _ hTO⟩, ⟨_, hS3⟩, rfl, ⟨_, up3 _ _ hTO⟩, fun j a ha => by simp at ha, fun a ha => by simp at ha, List.nodup_nil⟩ (by show B ≤ H3.objs.size; omega) (fun b o hb e => up3 b o (keep b o hb e)) fun h' as c' e1 e2 e3 e6 e4 e5 => ?_⟩
  show wpAny _ A (load s.heap.objs.size >>= _) _ _ _
  refine wpAny_bind (wpAny_load e2 ?_)
  exact wpAny_pure (hQ h' as e1 e3 e6 (fun a ha => (e4 a ha).1) e5 (Nat.le_of_lt (Nat.lt_of_le_of_lt hB (Heap.lt_size e2))))
end
end Ev

/-! tuple(zip(l, m)): the rule. -/
namespace Ev
open PySem PySem.Spec L2 PyProof.Rows RZ
section
variable {X : Cx} {pins : List (Addr × Obj)} {σ : L2.St} {H H' : Hp} {s : Shared}
/-- many new objects laid at once -/
theorem Inv.layAll {h' : Heap} {t' : Nat} (I : L2.Inv X pins σ H s) (k : ∀ b u, s.heap.get? b = some u → h'.get? b = some u) (old : ∀ b, b < s.heap.objs.size → H' b = H b)
    (new : ∀ b o, s.heap.objs.size ≤ b → H' b = some o → ObjOk X.prog X.w H' h' b o) : L2.Inv X pins σ H' { s with heap := h', toks := t' } := by
  have lt : ∀ b o, H b = some o → b < s.heap.objs.size := fun b o e => (I.hok b o e).lt
  have up : ∀ b o, H b = some o → H' b = some o := fun b o e => by rw [old b (lt b o e)]; exact e
  refine I.un ⟨fun b u q _ _ _ => k b u q, fun b u q _ _ _ => ⟨u.slots, k b u q⟩, fun b u q n _ => by rw [old b (Heap.lt_size q)]; exact n, fun b u q _ => ⟨u, k b u q⟩, fun b xs q => up _ _ q, fun b u xs q => up _ _ q, fun b ps q => ⟨#[], by rw [up _ _ q]; simp⟩⟩ fun b o e => ?_
  by_cases hb : b < s.heap.objs.size
  · rw [old b hb] at e
    exact (I.hok b o e).stay (fun c v _ q => k c v q) (fun c q => up _ _ q) fun c xs q => up _ _ q
  · exact new b o (Nat.le_of_not_lt hb) e
end
section
variable {prog : Program} {w : World} {A : Around} {E : Value → Shared → Prop} {s : Shared} {z TI TO i1 i2 l1 l2 : Addr} {xs ys : Array Value} {B : Nat} {h0 : Heap}
/-- tuple(z) of a fresh zip of two lists -/
theorem tuple_of_zip {Q : Value → Shared → Prop} (hh : A.in1.in1.handled = none) (D : ZipApart z TI TO i1 i2 l1 l2) (hz : IsZip s.heap z TI TO .none) (hTI : IsPair s.heap TI (.ref i1) (.ref i2)) {a b : Value} (hTO : IsPair s.heap TO a b) (h1 : s.heap.IsListIter i1 l1 0) (h2 : s.heap.IsListIter i2 l2 0)
    (hl1 : s.heap.IsList l1 xs) (hl2 : s.heap.IsList l2 ys) (old : B ≤ z ∧ B ≤ TO ∧ B ≤ i1 ∧ B ≤ i2) (hB : B ≤ s.heap.objs.size) (keep : ∀ b o, b < B → h0.get? b = some o → s.heap.get? b = some o) (hn : min xs.size ys.size ≤ sizeLine)
    (hQ : ∀ (h' : Heap) (as : List Addr), as.length = min xs.size ys.size → PairsAt h' as xs.toList ys.toList → as.Nodup → (∀ a ∈ as, B ≤ a) → (∀ b o, b < B → h0.get? b = some o → h'.get? b = some o) → B ≤ h'.objs.size →
      Q (.ref h'.objs.size) { s with heap := h'.push { cls := .type "tuple", data := .seq (as.map Value.ref).toArray } }) :
    wpAny (model prog w) A (call (.type "tuple") [.ref z]) Q E s := by
  refine callType_codes (Q₁ := fun obj s₁ => s₁.TypeIs obj "tuple" ∧ Q obj s₁) F.called_tuple (F.typeCall_tuple_1 _) F.entry_object_init ?_ fun obj s₁ h₁ =>
    ⟨h₁.1, F.args_object_init_2 obj _, object_init_meets F.called_tuple.init.lookup F.called_tuple.made (by decide) prog w A.in1 _ s₁ ⟨h₁.1, rfl, h₁.2⟩⟩
  refine codeAny_of_tree ?_
  show wpAny _ A.in1.in1 (do checkBuiltinCall "tuple.__new__" ⟨[.type "tuple", .ref z], []⟩; again (.builtin "tuple.__new__" ⟨[.type "tuple", .ref z], []⟩)) _ _ s
  refine wpAny_bind (wpAny_of_eq (F.newCall_tuple_1 _) (wpAny_pure ⟨plainId_quiet F.plain_tuple_new _, codeAny_builtin F.entry_tuple_new ?_⟩))
  rw [Around.under_plainId F.plain_tuple_new _]
  have hsub := sub_tuple_self
  have hinit := init_tuple_lookup
  have hmh := madeHere_tuple
  have hTZ : s.TypeIs (.ref z) "zip" := ⟨_, hz, rfl⟩
  wp_walk using wpAny_typeOf hTZ, collect_zip (B := B) (h0 := h0) (xs := xs) (ys := ys) hh D hz hTI hTO h1 h2 hl1 hl2 old hB keep hn
  intro h' as e1 e2 e3 e4 e5 e6
  show wpAny _ _ (Builtin.Tuple.tupleExact (as.map Value.ref).toArray >>= fun v => ret v) _ _ _
  unfold Builtin.Tuple.tupleExact
  refine wpAny_bind (wpAny_newObj_type ?_ (by show (as.map Value.ref).toArray.size ≤ sizeLine; simp; omega))
  exact wpAny_pure ⟨⟨_, Heap.get?_push_size _ rfl, rfl⟩, hQ h' as e1 e2 e3 e4 e5 e6⟩
end
/-- pairs laid at the places as -/
def layP (H : Hp) : List Addr → List (List V) → Hp
  | a :: as, p :: ps => upd (layP H as ps) a (.tup p)
  | _, _ => H
end Ev

/-! tuple(zip(l, m)): from the heap to plain data. -/
namespace Ev
open PySem PySem.Spec L2 PyProof.Rows RZ
/-- objects laid at places from B on -/
theorem ext_lay {F H H' : Hp} {B : Nat} (hs : Same F H) (hb : ∀ b, B ≤ b → H b = none) (old : ∀ b, b < B → H' b = H b) : Ext F H (fun b => if b < B then F b else H' b) H' := by
  have lt : ∀ a o, H a = some o → a < B := fun a o e => by
    cases Nat.lt_or_ge a B with
    | inl h => exact h
    | inr h => rw [hb a h] at e; cases e
  refine ⟨fun a o e => ?_, fun a o e => ?_, fun a o e => ?_, fun a ha hf => ?_⟩
  · show (if a < B then F a else H' a) = some o
    rw [if_pos (lt a o (hs a o e))]; exact e
  · have e' : (if a < B then F a else H' a) = some o := e
    by_cases h : a < B
    · rw [if_pos h] at e'; rw [old a h]; exact hs a o e'
    · rw [if_neg h] at e'; exact e'
  · rw [old a (lt a o e)]; exact e
  · show (if a < B then F a else H' a) = none
    cases q : H a with
    | none => exact absurd q ha
    | some o => rw [if_pos (lt a o q)]; exact hf
/-- the pairs' places among new ones -/
def pairAt (as : List Addr) (ps : List (Obj × V × V)) (b : Addr) : Option HO := match as, ps with
  | a :: as, p :: ps => if b = a then some (.frz p.1 (.tup [p.2.1, p.2.2])) else pairAt as ps b
  | _, _ => none
theorem pairAt_get : ∀ {as : List Addr} {ps : List (Obj × V × V)} {b : Addr} {o : HO}, pairAt as ps b = some o → ∃ (j : Nat) (p : Obj × V × V), as[j]? = some b ∧ ps[j]? = some p ∧ o = .frz p.1 (.tup [p.2.1, p.2.2])
  | [], _, _, _, h => by cases h
  | _ :: _, [], _, _, h => by cases h
  | a :: as, p :: ps, b, o, h => by
    unfold pairAt at h
    split at h
    · rename_i e; cases h; exact ⟨0, p, by rw [e]; rfl, rfl, rfl⟩
    · obtain ⟨j, q, h1, h2, h3⟩ := pairAt_get h
      exact ⟨j + 1, q, h1, h2, h3⟩
theorem pairAt_of : ∀ {as : List Addr} {ps : List (Obj × V × V)} {j : Nat} {b : Addr} {p : Obj × V × V}, as.Nodup → as[j]? = some b → ps[j]? = some p → pairAt as ps b = some (.frz p.1 (.tup [p.2.1, p.2.2]))
  | [], _, j, _, _, _, h, _ => by simp at h
  | _ :: _, [], j, _, _, _, _, h => by simp at h
  | a :: as, q :: ps, 0, b, p, _, h1, h2 => by
    cases h1; cases h2
    unfold pairAt; rw [if_pos rfl]
  | a :: as, q :: ps, j + 1, b, p, hn, h1, h2 => by
    obtain ⟨n1, n2⟩ := List.nodup_cons.mp hn
    have hm : b ∈ as := List.mem_of_getElem? h1
    unfold pairAt
    rw [if_neg (fun e => n1 (by rw [← e]; exact hm))]
    exact pairAt_of n2 h1 h2
theorem dTupzip_ne (d e : D) (k : Nat) : dTupzip d e ≠ .ex k := by unfold dTupzip; split <;> first | (intro h; cases h; done) | (split <;> (intro h; cases h))
theorem reps_pairs {K : PySem.W.Frag} {w : World} {F : Hp} : ∀ (xs ys : List D) (vs us : List V) (as : List Addr), Reps K w F xs vs → Reps K w F ys us → as.length = min vs.length us.length →
    (∀ (j : Nat) (a : Addr) (x y : V), as[j]? = some a → vs[j]? = some x → us[j]? = some y → ∃ o, F a = some (.frz o (.tup [x, y])) ∧ XTup o) → Reps K w F (paired xs ys) (as.map V.ref)
  | [], ys, vs, us, as, h1, h2, hl, _ => by
    rw [show vs = [] from h1] at hl
    have : as = [] := List.length_eq_zero_iff.mp (by simpa using hl)
    rw [this]; show Reps K w F (paired [] ys) []
    cases ys <;> rfl
  | x :: xs, [], vs, us, as, h1, h2, hl, _ => by
    rw [show us = [] from h2] at hl
    have : as = [] := List.length_eq_zero_iff.mp (by simpa using hl)
    rw [this]; rfl
  | x :: xs, y :: ys, vs, us, as, ⟨v, vr, e1, r1, r2⟩, ⟨u, ur, e2, q1, q2⟩, hl, hp => by
    subst e1 e2
    cases as with
    | nil => simp at hl
    | cons a as =>
      obtain ⟨o0, g0, g1⟩ := hp 0 a v u rfl rfl rfl
      refine ⟨.ref a, as.map V.ref, rfl, ⟨a, [v, u], rfl, SqX.of g0 g1, v, [u], rfl, r1, u, [], rfl, q1, rfl⟩, ?_⟩
      refine reps_pairs xs ys vr ur as r2 q2 ?_ fun j b x' y' h1 h2 h3 => hp (j + 1) b x' y' h1 h2 h3
      simp only [List.length_cons] at hl; omega
theorem vals_refs : ∀ as : List Addr, Vals (as.map V.ref) (as.map Value.ref)
  | [] => .nil
  | a :: as => .cons rfl (vals_refs as)
section
variable {nm : Nm} {X : Cx} {C : Ct} {a b : Expr} {ta tb : E} {p p2 q pos : Pos}
theorem s_tupzip (G : Gd nm X C) (hg : Gl X "tuple") (hg2 : Gl X "zip") (ha : PA X [a, b] (C.rds [ta, tb])) (ns : NoStar a) (ns2 : NoStar b) : PE X (.Call (.Name "tuple" p) [.Call (.Name "zip" p2) [a, b] [] q] [] pos) (C.rd (.bi2 .tupzip ta tb)) := by
  have hm : X.mg "tuple" = none := G.blt _ (by decide +kernel)
  have hm2 : X.mg "zip" = none := G.blt _ (by decide +kernel)
  refine ⟨fun pins s σ H Q I ⟨env, F, he, hs, qq⟩ => ?_⟩
  have key : C.rds [ta, tb] σ H fun vs H1 => ∃ F1 d e, Ext F H F1 H1 ∧ Reps C.K C.w F1 [d, e] vs ∧ fin C.K C.w (dTupzip d e) F1 H1 Q (fun c H' => C.W (.ref (C.ca c)) none σ H') := by
    refine ⟨env, F, he, hs, ?_⟩
    have qq' : fin C.K C.w ((ev C.glob C.fn ta env).bind fun x => (ev C.glob C.fn tb env).bind fun y => dTupzip x y) F H Q _ := qq
    have ee : evs C.glob C.fn [ta, tb] env = (ev C.glob C.fn ta env).bind fun d => ((ev C.glob C.fn tb env).bind fun e => .ok [e]).bind fun ds => .ok (d :: ds) := rfl
    rw [ee]
    cases e1 : ev C.glob C.fn ta env with
    | no => rw [e1] at qq'; exact qq'
    | ex c => rw [e1] at qq'; exact qq'
    | ok d =>
      rw [e1] at qq'
      cases e2 : ev C.glob C.fn tb env with
      | no => rw [e2] at qq'; exact qq'
      | ex c => rw [e2] at qq'; exact qq'
      | ok e =>
        rw [e2] at qq'
        intro vs F1 H1 x1 r1
        exact ⟨F1, d, e, x1, r1, fin_mono x1 (show fin C.K C.w (dTupzip d e) F H Q _ from qq')⟩
  refine Call_ (ld_blt I.toInv hg hm PyProof.Rows.boot_tuple ?_)
  refine PyProof.Rows.callWith_type1 (PyProof.Rows.args_cons ?_ rfl) rfl rfl
  refine Call_ (ld_blt I.toInv hg2 hm2 PyProof.Rows.boot_zip ?_)
  refine PyProof.Rows.callWith_type1 (thn (ha.run q pins s σ H _ I key) fun us s1 ⟨vs, H1, I1, r1, F1, d, e, x1, rd, q1⟩ => ?_) (ns [b] X.env) (noStars_any (es := [b]) ⟨ns2, trivial⟩)
  first | refine upE I1.tk ?_ | refine up1 I1.tk ?_ | refine up2 I1.tk ?_ | refine up3 I1.tk ?_
  replace I1 := I1.toInv
  unfold dTupzip at q1
  split at q1 <;> first | exact False.elim q1 | skip
  rename_i xs ys
  split at q1 <;> first | exact False.elim q1 | skip
  rename_i hsm
  rw [Bool.and_eq_true] at hsm
  have hn1 : xs.length ≤ 1000 := by simpa [small] using hsm.1
  have hn2 : ys.length ≤ 1000 := by simpa [small] using hsm.2
  obtain ⟨v, r, rfl, ⟨l1, vs1, rfl, hF1, hr1⟩, v2, r', rfl, ⟨l2, vs2, rfl, hF2, hr2⟩, h5⟩ := rd
  obtain rfl : r' = [] := h5
  cases r1 with
  | cons ra rr =>
    cases rr with
    | cons rb rr =>
      cases rr; cases ra; cases rb
      obtain ⟨its1, rv1, pl1, _⟩ := I1.list (SqL.of (x1.inH _ _ hF1))
      obtain ⟨its2, rv2, pl2, _⟩ := I1.list (SqL.of (x1.inH _ _ hF2))
      refine call_zip_2 pl1.isList pl2.isList fun h' hz hTI hTO h1 h2 hsz hk => ?_
      refine PyProof.Rows.args_nil ?_
      have z1 : its1.toArray.size = vs1.length := by rw [List.size_toArray, rv1.length]
      have z2 : its2.toArray.size = vs2.length := by rw [List.size_toArray, rv2.length]
      have m1 : its1.toArray.size ≤ 1000 := by rw [z1, ← hr1.length]; exact hn1
      refine tuple_of_zip (s := { s1 with heap := h' }) (B := s1.heap.objs.size) (h0 := s1.heap) (I1.ok.hd G.calm) (PySem.W.ktu_apart s1.heap.objs.size l1 l2 pl1.lt pl2.lt) hz hTI hTO h1 h2 (pl1.isList.at fun o e => hk _ _ e) (pl2.isList.at fun o e => hk _ _ e)
        ⟨by omega, by omega, by omega, by omega⟩ (by show s1.heap.objs.size ≤ h'.objs.size; omega) (fun b o _ e => hk b o e) (by rw [sizeLine_eq]; omega) fun h2 as e1 e2 e3 e4 e5 e6 => ?_
      have hps : ∀ (j : Nat) (a : Addr), as[j]? = some a → ∃ x y ux uy, vs1[j]? = some x ∧ vs2[j]? = some y ∧ RelV x ux ∧ RelV y uy ∧ IsPair h2 a ux uy := fun j a hj => by
        obtain ⟨ux, uy, g1, g2, g3⟩ := e2 j a hj
        have q1' : its1[j]? = some ux := by simpa using g1
        have q2' : its2[j]? = some uy := by simpa using g2
        have k1 : j < vs1.length := by rw [rv1.length]; exact (List.getElem?_eq_some_iff.mp q1').1
        have k2 : j < vs2.length := by rw [rv2.length]; exact (List.getElem?_eq_some_iff.mp q2').1
        obtain ⟨w1, f1, f2⟩ := rv1.get (List.getElem?_eq_getElem k1)
        obtain ⟨w2, f3, f4⟩ := rv2.get (List.getElem?_eq_getElem k2)
        rw [q1'] at f1
        rw [q2'] at f3
        cases f1; cases f3
        exact ⟨_, _, ux, uy, List.getElem?_eq_getElem k1, List.getElem?_eq_getElem k2, f2, f4, g3⟩
      have lenA : as.length = min vs1.length vs2.length := by rw [e1, z1, z2]
      let ob : Nat → Obj := fun j => { cls := .type "tuple", data := .seq #[(its1[j]?).getD .none, (its2[j]?).getD .none] }
      let pr : List (Obj × V × V) := (List.range (min vs1.length vs2.length)).map fun j => (ob j, (vs1[j]?).getD .non, (vs2[j]?).getD .non)
      have prAt : ∀ (j : Nat) (x y : V), vs1[j]? = some x → vs2[j]? = some y → pr[j]? = some (ob j, x, y) := fun j x y h1 h2 => by
        have k1 := (List.getElem?_eq_some_iff.mp h1).1
        have k2 := (List.getElem?_eq_some_iff.mp h2).1
        show ((List.range (min vs1.length vs2.length)).map _)[j]? = _
        rw [List.getElem?_map, List.getElem?_range (by omega), Option.map_some, h1, h2]; rfl
      let oT : Obj := { cls := .type "tuple", data := .seq (as.map Value.ref).toArray }
      let H2 : Hp := fun c => if c < s1.heap.objs.size then H1 c else if c = h2.objs.size then some (.frz oT (.tup (as.map V.ref))) else pairAt as pr c
      have hfree : ∀ c, s1.heap.objs.size ≤ c → H1 c = none := fun c hc => I1.hok.fresh hc
      have old : ∀ c, c < s1.heap.objs.size → H2 c = H1 c := fun c hc => if_pos hc
      have asLt : ∀ (j : Nat) (a : Addr), as[j]? = some a → a < h2.objs.size := fun j a hj => by
        obtain ⟨_, _, _, _, _, _, _, _, g⟩ := hps j a hj
        exact Heap.lt_size g
      have atP : H2 h2.objs.size = some (.frz oT (.tup (as.map V.ref))) := by
        show (if h2.objs.size < s1.heap.objs.size then _ else _) = _
        rw [if_neg (by omega), if_pos rfl]
      have atA : ∀ (j : Nat) (a : Addr) (x y : V), as[j]? = some a → vs1[j]? = some x → vs2[j]? = some y → H2 a = some (.frz (ob j) (.tup [x, y])) := fun j a x y h1 h2' h3 => by
        have hge := e4 a (List.mem_of_getElem? h1)
        have hlt := asLt j a h1
        show (if a < s1.heap.objs.size then _ else _) = _
        rw [if_neg (Nat.not_lt.mpr hge), if_neg (Nat.ne_of_lt hlt), pairAt_of e3 h1 (prAt j x y h2' h3)]
      have up2 : ∀ c o, h2.get? c = some o → (h2.push { cls := .type "tuple", data := .seq (as.map Value.ref).toArray }).get? c = some o := fun c o e => Heap.get?_push_of_some _ e
      have I2 : L2.Inv X pins σ H2 { s1 with heap := h2.push { cls := .type "tuple", data := .seq (as.map Value.ref).toArray } } := by
        refine Inv.layAll (t' := s1.toks) I1 (fun c u e => up2 c u (e5 c u (Heap.lt_size e) e)) old fun c o hc e => ?_
        have e' : (if c < s1.heap.objs.size then H1 c else if c = h2.objs.size then some (.frz oT (.tup (as.map V.ref))) else pairAt as pr c) = some o := e
        rw [if_neg (by omega)] at e'
        split at e'
        · rename_i ec
          cases e'
          subst ec
          exact ⟨Heap.get?_push_size _ rfl, by rw [List.length_map, lenA, sizeLine_eq]; have := hr1.length; omega, as.map Value.ref, vals_refs as, _, Heap.get?_push_size _ rfl, rfl, ⟨_, rfl⟩⟩
        · obtain ⟨j, pq, g1, g2, rfl⟩ := pairAt_get e'
          obtain ⟨x, y, ux, uy, k1, k2, k3, k4, k5⟩ := hps j c g1
          have := prAt j x y k1 k2
          rw [g2] at this
          cases this
          obtain ⟨ux', uy', m1', m2', m3'⟩ := e2 j c g1
          have w1 : its1[j]? = some ux' := by simpa using m1'
          have w2 : its2[j]? = some uy' := by simpa using m2'
          have m4 : ob j = { cls := .type "tuple", data := .seq #[ux', uy'] } := by
            show ({ cls := .type "tuple", data := .seq #[(its1[j]?).getD .none, (its2[j]?).getD .none] } : Obj) = _
            rw [w1, w2]; rfl
          exact ⟨by rw [m4]; exact up2 _ _ m3', by show 2 ≤ sizeLine; rw [sizeLine_eq]; omega, [ux, uy], .cons k3 (.cons k4 .nil), _, up2 _ _ k5, rfl, ⟨_, rfl⟩⟩
      refine ⟨.ref h2.objs.size, H2, I2, rfl, ?_⟩
      have x2 := ext_lay (H' := H2) x1.inH hfree old
      refine q1 _ _ _ x2 ⟨h2.objs.size, as.map V.ref, rfl, SqX.of (o := oT) (by show (if h2.objs.size < s1.heap.objs.size then _ else _) = _; rw [if_neg (by omega)]; exact atP) ⟨rfl, rfl, _, _, rfl⟩, ?_⟩
      refine reps_pairs xs ys vs1 vs2 as (Reps.mono x2.sub _ _ hr1) (Reps.mono x2.sub _ _ hr2) lenA fun j a x y g1 g2 g3 => ?_
      refine ⟨ob j, ?_, rfl, rfl, _, _, rfl⟩
      show (if a < s1.heap.objs.size then _ else _) = _
      rw [if_neg (Nat.not_lt.mpr (e4 a (List.mem_of_getElem? g1)))]
      exact atA j a x y g1 g2 g3
end
end Ev

/-! {}, dict(x), sorted(x). -/
namespace Ev
open PySem PySem.Spec L2 PyProof.Rows RZ
/-! ### rows in order -/
theorem ltCps_lt (a b : List Nat) : ltCps a b = decide (a < b) := by
  induction a generalizing b with
  | nil => cases b <;> simp [ltCps]
  | cons x a ih =>
    cases b with
    | nil => simp [ltCps]
    | cons y b =>
      rw [ltCps, ih]
      by_cases h : x = y
      · subst h; simp [List.cons_lt_cons_iff]
      · simp [List.cons_lt_cons_iff, h]
theorem lt_total {a b : List Nat} (h1 : ¬ a < b) (h2 : ¬ b < a) : a = b := List.le_antisymm h2 h1
/-- no item lies below one ahead of it -/
def Upw (l : List (List Nat)) : Prop := l.Pairwise fun x y => ¬ y < x
theorem upw_unique : ∀ {l m : List (List Nat)}, l.Perm m → Upw l → Upw m → l = m
  | [], m, p, _, _ => (List.Perm.nil_eq p)
  | x :: l, [], p, _, _ => by have := p.length_eq; simp at this
  | x :: l, y :: m, p, h1, h2 => by
    obtain ⟨a1, a2⟩ := List.pairwise_cons.mp h1
    obtain ⟨b1, b2⟩ := List.pairwise_cons.mp h2
    have hxy : x = y := by
      have hx : x ∈ y :: m := p.mem_iff.mp List.mem_cons_self
      have hy : y ∈ x :: l := p.mem_iff.mpr List.mem_cons_self
      rcases List.mem_cons.mp hx with e | hx
      · exact e
      · rcases List.mem_cons.mp hy with e | hy
        · exact e.symm
        · exact lt_total (b1 x hx) (a1 y hy)
    subst hxy
    rw [upw_unique (List.Perm.cons_inv p) a2 b2]
theorem insS_perm (a : List Nat) : ∀ l, (insS a l).Perm (a :: l)
  | [] => List.Perm.refl _
  | b :: r => by
    unfold insS
    split
    · exact (List.Perm.cons b (insS_perm a r)).trans (List.Perm.swap a b r)
    · exact List.Perm.refl _
theorem srtS_perm : ∀ l, (srtS l).Perm l
  | [] => List.Perm.refl _
  | a :: r => (insS_perm a (srtS r)).trans (List.Perm.cons a (srtS_perm r))
theorem insS_upw (a : List Nat) : ∀ l, Upw l → Upw (insS a l)
  | [], _ => List.pairwise_cons.mpr ⟨fun y hy => (nomatch hy), List.Pairwise.nil⟩
  | b :: r, h => by
    obtain ⟨h1, h2⟩ := List.pairwise_cons.mp h
    unfold insS
    split
    · rename_i hlt
      refine List.pairwise_cons.mpr ⟨fun y hy => ?_, insS_upw a r h2⟩
      rcases List.mem_cons.mp ((insS_perm a r).mem_iff.mp hy) with rfl | hy
      · exact fun z => List.lt_irrefl _ (List.lt_trans hlt z)
      · exact h1 y hy
    · rename_i hlt
      refine List.pairwise_cons.mpr ⟨fun y hy => ?_, h⟩
      rcases List.mem_cons.mp hy with rfl | hy
      · exact hlt
      · intro z
        have hb := h1 y hy
        by_cases e : a = b
        · subst e; exact hb z
        · by_cases hab2 : a < b
          · exact hb (List.lt_trans z hab2)
          · exact e (lt_total hab2 hlt)
theorem srtS_upw : ∀ l, Upw (srtS l)
  | [] => List.Pairwise.nil
  | a :: r => insS_upw a _ (srtS_upw r)
theorem rising_upw : ∀ (p : Str) (l : List Str), risingS p l = true → Upw (p.cps.toList :: l.map fun x => x.cps.toList)
  | p, [], _ => List.pairwise_cons.mpr ⟨fun y hy => (nomatch hy), List.Pairwise.nil⟩
  | p, x :: r, h => by
    have h' : (!ltCps x.cps.toList p.cps.toList) = true ∧ risingS x r = true := Bool.and_eq_true_iff.mp h
    have ih := rising_upw x r h'.2
    have hxp : ¬ x.cps.toList < p.cps.toList := by
      have := h'.1
      rw [ltCps_lt] at this
      simpa using this
    refine List.pairwise_cons.mpr ⟨fun y hy => ?_, ih⟩
    rcases List.mem_cons.mp hy with rfl | hy
    · exact hxp
    · obtain ⟨a1, a2⟩ := List.pairwise_cons.mp ih
      intro z
      have := a1 y hy
      by_cases e : p.cps.toList = x.cps.toList
      · rw [e] at z; exact this z
      · by_cases hpx : p.cps.toList < x.cps.toList
        · exact this (List.lt_trans z hpx)
        · exact e (lt_total hpx hxp)
theorem sortedT_eq {ys : List Str} {ss : List (List Nat)} (p : ys.Perm (ss.map tx)) (hu : Upw (ys.map fun x => x.cps.toList)) : ys = (srtS ss).map tx := by
  have hp : (ys.map fun x => x.cps.toList).Perm (srtS ss) := by
    have := p.map fun x : Str => x.cps.toList
    rw [List.map_map] at this
    refine this.trans ?_
    have e : (ss.map ((fun x : Str => x.cps.toList) ∘ tx)) = ss := by
      conv => rhs; rw [← List.map_id ss]
      exact List.map_congr_left fun _ _ => rfl
    rw [e]
    exact (srtS_perm ss).symm
  have e := upw_unique hp hu (srtS_upw ss)
  have e2 : ys = (ys.map fun x => x.cps.toList).map tx := by
    rw [List.map_map]
    conv => lhs; rw [← List.map_id ys]
    exact List.map_congr_left fun x _ => rfl
  rw [e2, e]
theorem sortedS_eq {ys : List Str} {ss : List (List Nat)} (p : ys.Perm (ss.map tx)) (h : sortedS ys = true) : ys = (srtS ss).map tx := by
  have hu : Upw (ys.map fun x => x.cps.toList) := by
    cases ys with
    | nil => exact List.Pairwise.nil
    | cons x r => exact rising_upw x r h
  have hp : (ys.map fun x => x.cps.toList).Perm (srtS ss) := by
    have := p.map fun x : Str => x.cps.toList
    rw [List.map_map] at this
    refine this.trans ?_
    have e : (ss.map ((fun x : Str => x.cps.toList) ∘ tx)) = ss := by
      conv => rhs; rw [← List.map_id ss]
      exact List.map_congr_left fun _ _ => rfl
    rw [e]
    exact (srtS_perm ss).symm
  have e := upw_unique hp hu (srtS_upw ss)
  have e2 : ys = (ys.map fun x => x.cps.toList).map tx := by
    rw [List.map_map]
    conv => lhs; rw [← List.map_id ys]
    exact List.map_congr_left fun x _ => rfl
  rw [e2, e]
theorem insI_perm (a : Int) : ∀ l, (insI a l).Perm (a :: l)
  | [] => List.Perm.refl _
  | b :: r => by
    unfold insI
    split
    · exact List.Perm.refl _
    · exact (List.Perm.cons b (insI_perm a r)).trans (List.Perm.swap a b r)
theorem srtI_perm : ∀ l, (srtI l).Perm l
  | [] => List.Perm.refl _
  | a :: r => (insI_perm a (srtI r)).trans (List.Perm.cons a (srtI_perm r))
theorem insI_upw (a : Int) : ∀ l : List Int, l.Pairwise (· ≤ ·) → (insI a l).Pairwise (· ≤ ·)
  | [], _ => List.pairwise_cons.mpr ⟨fun y hy => (nomatch hy), List.Pairwise.nil⟩
  | b :: r, h => by
    obtain ⟨h1, h2⟩ := List.pairwise_cons.mp h
    unfold insI
    split
    · rename_i hlt
      refine List.pairwise_cons.mpr ⟨fun y hy => ?_, h⟩
      rcases List.mem_cons.mp hy with rfl | hy
      · exact hlt
      · exact Int.le_trans hlt (h1 y hy)
    · rename_i hlt
      refine List.pairwise_cons.mpr ⟨fun y hy => ?_, insI_upw a r h2⟩
      rcases List.mem_cons.mp ((insI_perm a r).mem_iff.mp hy) with rfl | hy
      · omega
      · exact h1 y hy
theorem srtI_upw : ∀ l, (srtI l).Pairwise (· ≤ ·)
  | [] => List.Pairwise.nil
  | a :: r => insI_upw a _ (srtI_upw r)
theorem ints_unique : ∀ {l m : List Int}, l.Perm m → l.Pairwise (· ≤ ·) → m.Pairwise (· ≤ ·) → l = m
  | [], m, p, _, _ => (List.Perm.nil_eq p)
  | x :: l, [], p, _, _ => by have := p.length_eq; simp at this
  | x :: l, y :: m, p, h1, h2 => by
    obtain ⟨a1, a2⟩ := List.pairwise_cons.mp h1
    obtain ⟨b1, b2⟩ := List.pairwise_cons.mp h2
    have hxy : x = y := by
      have hx : x ∈ y :: m := p.mem_iff.mp List.mem_cons_self
      have hy : y ∈ x :: l := p.mem_iff.mpr List.mem_cons_self
      rcases List.mem_cons.mp hx with e | hx
      · exact e
      · rcases List.mem_cons.mp hy with e | hy
        · exact e.symm
        · have q1 := b1 x hx
          have q2 := a1 y hy
          omega
    subst hxy
    rw [ints_unique (List.Perm.cons_inv p) a2 b2]

/-! ### puts -/
theorem put_mem (k : Ky) (d : D) : ∀ (ks : List Ky) (ds : List D) (x : Ky), x ∈ (put k d ks ds).1 → x ∈ ks ∨ x = k
  | [], ds, x, h => by
    have h' : x ∈ [k] := by cases ds <;> exact h
    exact .inr (List.mem_singleton.mp h')
  | y :: ks, [], x, h => .inr (List.mem_singleton.mp h)
  | y :: ks, d0 :: ds, x, h => by
    unfold put at h
    split at h
    · exact .inl h
    · rcases List.mem_cons.mp h with e | h
      · exact .inl (by rw [e]; exact List.mem_cons_self)
      · rcases put_mem k d ks ds x h with h | h
        · exact .inl (List.mem_cons_of_mem _ h)
        · exact .inr h
section
variable {K : PySem.W.Frag} {w : World} {F : Hp}
theorem put_rel (k : Ky) (d : D) (v : V) (hv : Rep K w F d v) : ∀ (ks : List Ky) (ds : List D) (kvs : List (Key × V)), kvs.map (·.1) = ks.map kyK → ks.Nodup → Reps K w F ds (kvs.map (·.2)) →
    (put k d ks ds).1.Nodup ∧ (putK kvs (kyK k) v).map (·.1) = (put k d ks ds).1.map kyK ∧ Reps K w F (put k d ks ds).2 ((putK kvs (kyK k) v).map (·.2))
  | [], ds, [], _, hn, hr => by
    have e : ds = [] := by cases ds with
      | nil => rfl
      | cons _ _ => obtain ⟨_, _, e, _⟩ := hr; cases e
    subst e
    exact ⟨List.nodup_cons.mpr ⟨fun z => (nomatch z), List.nodup_nil⟩, rfl, v, [], rfl, hv, rfl⟩
  | [], _, _ :: _, h, _, _ => by simp at h
  | _ :: _, _, [], h, _, _ => by simp at h
  | x :: ks, [], p :: kvs, h, _, hr => by cases hr
  | x :: ks, d0 :: ds, p :: kvs, h, hn, ⟨v0, r0, e0, g1, g2⟩ => by
    obtain ⟨n1, n2⟩ := List.nodup_cons.mp hn
    simp only [List.map_cons, List.cons.injEq] at h e0
    obtain ⟨rfl, rfl⟩ := e0
    by_cases e : x = k
    · subst e
      have ep : putK (p :: kvs) (kyK x) v = (p.1, v) :: kvs.map (fun kv => if kv.1 = kyK x then (kv.1, v) else kv) := by
        unfold putK
        rw [if_pos (by simp [h.1])]
        rw [List.map_cons, if_pos h.1]
      have hk : kvs.map (fun kv => if kv.1 = kyK x then (kv.1, v) else kv) = kvs := by
        conv => rhs; rw [← List.map_id kvs]
        refine List.map_congr_left fun kv hkv => if_neg fun z => n1 ?_
        have : kv.1 ∈ kvs.map (·.1) := List.mem_map_of_mem hkv
        rw [h.2, z] at this
        exact mem_kyK.mp this
      rw [ep, hk]
      unfold put
      rw [if_pos rfl]
      exact ⟨hn, by simp only [List.map_cons, h.1, h.2], v, _, rfl, hv, g2⟩
    · have hne : ¬ p.1 = kyK k := fun z => e (kyK_inj (h.1.symm.trans z))
      obtain ⟨i0, i1, i2⟩ := put_rel k d v hv ks ds kvs h.2 n2 g2
      have ep : putK (p :: kvs) (kyK k) v = p :: putK kvs (kyK k) v := by
        unfold putK
        simp only [List.any_cons, decide_eq_false hne, Bool.false_or]
        split
        · rw [List.map_cons, if_neg hne]
        · rfl
      rw [ep]
      unfold put
      rw [if_neg e]
      refine ⟨List.nodup_cons.mpr ⟨fun z => ?_, i0⟩, by simp only [List.map_cons, i1, h.1], p.2, _, rfl, g1, i2⟩
      rcases put_mem k d ks ds x z with z | z
      · exact n1 z
      · exact e z
end
end Ev

/-! sorted(set of ints), sorted(set of texts), any number of them. -/
namespace Ev
open PySem PySem.Spec L2 PyProof.Rows RZ
section
variable {prog : Program} {w : World} {κ : Type} [DecidableEq κ] {knd : KeyKind prog w κ} {A : Around} {E : Value → Shared → Prop} {s : Shared}
theorem sorted_setG {ad : Addr} {ks : List κ} {ltv : Value → Value → Bool} {Q : Value → Shared → Prop} (O : SrtO.Swo ltv) (R : SetG knd s.heap ad ks) (hh : A.handled = none)
    (hS : ∀ (vs : List Value) (s1 : Shared) (b : Addr), (vs.map (kyv knd)).Perm (ks.map some) → 2 ≤ vs.length → SrtO.SortableO prog w A.in1.in1 s1 b vs ltv)
    (hQ : ∀ s' p (out : List Value) (c : Nat), (∀ b ob, s.heap.get? b = some ob → s'.heap.get? b = some ob) → s'.gens = s.gens → s'.os = s.os → s.heap.objs.size ≤ p →
      s'.heap.get? p = some (seqObj "list" out.toArray c) → SrtO.Srtd ltv out → (out.map (kyv knd)).Perm (ks.map some) → Q (.ref p) s') :
    wpAny (model prog w) A (call (.builtin "sorted") [.ref ad]) Q E s := by
  obtain ⟨ob, ents, age, tab, g1, g2, g3, g4, g5, g6, g7, g8, g9⟩ := R
  refine Calls.call_function_entry kind_sorted plain_sorted entry_sorted (args_sorted1 _) ?_
  unfold Builtin.«sorted»
  refine wpAny_bind (m := checkCount "sorted" 1 1 _) (wpAny_pure ?_)
  refine wpAny_bind (collect_set (A := A.in1) hh ⟨ob, g1, g2.1, g3⟩ g7 g6 g8 g9 fun s1 vs k1 hz e1 o1 pm => ?_)
  have hvl : vs.length = ents.size := by rw [pm.length_eq, List.length_map, Array.length_toList]
  have hle : vs.length ≤ sizeLine := by rw [hvl]; exact fits_of_scanBound g6
  have pk : (vs.map (kyv knd)).Perm (ks.map some) := by
    have q := pm.map (kyv knd)
    rw [List.map_map] at q
    exact q.trans g5
  refine wpAny_bind (wpAny_newList ?_ hle)
  have hoL : (s1.heap.push (seqObj "list" vs.toArray 0)).get? s1.heap.objs.size = some (seqObj "list" vs.toArray 0) := Heap.get?_push_size _ rfl
  refine wpAny_bind (wpAny_holding (wpAny_call_entry slot_list_sort ⟨_, hoL, rfl⟩ entry_list_sort (SrtO.list_sort_ord O hoL hle (fun h2 => hS vs _ _ pk h2) fun out a1 a2 => ⟨_, rfl, ?_⟩) (args_list_sort _)))
  obtain ⟨c, hc⟩ := sortedHeap_at (vs := vs) (out := out.toArray) hoL
  refine wpAny_pure ⟨_, rfl, hQ _ s1.heap.objs.size out c (fun b u e => ?_) e1 o1 hz hc a1 ((a2.perm.map _).trans pk)⟩
  have q := k1 b u e
  have hlt := Heap.lt_size q
  show (sortedHeap (s1.heap.push (seqObj "list" vs.toArray 0)) s1.heap.objs.size vs out.toArray).get? b = some u
  rw [sortedHeap_old (Nat.ne_of_lt hlt) (by rw [size_push']; exact Nat.lt_succ_of_lt hlt)]
  exact Heap.get?_push_of_some _ q
end
/-! ### texts -/
def sv : Value → List Nat
  | .str x _ => x.cps.toList
  | _ => []
def ltSv (v u : Value) : Bool := decide (sv v < sv u)
theorem lx_total {a b : List Nat} (h1 : ¬ a < b) (h2 : ¬ b < a) : a = b := List.le_antisymm (List.not_lt.mp h2) (List.not_lt.mp h1)
theorem swo_str : SrtO.Swo ltSv := by
  refine ⟨fun x y h => ?_, fun x y z h1 h2 => ?_⟩
  · have a := of_decide_eq_true (p := sv x < sv y) h
    exact decide_eq_false (p := sv y < sv x) (List.lt_asymm a)
  · have a := of_decide_eq_false (p := sv y < sv x) h1
    have b := of_decide_eq_false (p := sv z < sv y) h2
    refine decide_eq_false (p := sv z < sv x) fun c => ?_
    by_cases e : sv x < sv y
    · exact b (List.lt_trans c e)
    · rw [lx_total e a] at c; exact b c
section
variable {prog : Program} {w : World} {A : Around} {E : Value → Shared → Prop} {s : Shared}
theorem strs_all : ∀ {vs : List Value}, (∀ v ∈ vs, ∃ x t, v = Value.str x t) → ∃ ss, PyProof.Rows.StrsAre vs ss
  | [], _ => ⟨[], .nil⟩
  | v :: vs, h => by
    obtain ⟨x, t, rfl⟩ := h v List.mem_cons_self
    obtain ⟨ss, r⟩ := strs_all fun u hu => h u (List.mem_cons_of_mem _ hu)
    exact ⟨x :: ss, .cons x t r⟩
theorem str_cmp {vs : List Value} (hv : ∀ v ∈ vs, ∃ x t, v = Value.str x t) : SrtO.Cmp prog w A s oneType' (fun p => p.1 ∈ vs) (SrtO.lt2 ltSv) := by
  intro p q hm hm'
  obtain ⟨a, t, e⟩ := hv _ hm
  obtain ⟨b, u, e'⟩ := hv _ hm'
  show wpAny (model prog w) A (keyLt' oneType' p.1 q.1) (fun r s' => s' = s ∧ r = ltSv p.1 q.1) (fun _ _ => False) s
  rw [e, e', keyLt'_oneType]
  exact oneLt_str ⟨rfl, rfl⟩
theorem strs_sortable {a : Addr} {vs : List Value} (hv : ∀ v ∈ vs, ∃ x t, v = Value.str x t) (h2 : 2 ≤ vs.length) : SrtO.SortableO prog w A s a vs ltSv := by
  intro h' _
  refine ⟨oneType', fun Q E hq => ?_, str_cmp hv⟩
  obtain ⟨ss, hS⟩ := strs_all hv
  match vs, hS, h2 with
  | v1 :: v2 :: rest, hS, _ =>
    rw [keyKind_strs hS]
    exact wpAny_pure hq
  | [], _, h => exact absurd h (by decide)
  | [v], _, h => exact absurd h (by simp)
theorem kyv_strs {ks : List Str} {vs : List Value} (p : (vs.map (kyv (PySem.strKind prog w))).Perm (ks.map some)) : ∀ v ∈ vs, ∃ x t, v = Value.str x t := fun v hv => by
  have h1 : kyv (PySem.strKind prog w) v ∈ ks.map some := p.mem_iff.mp (List.mem_map_of_mem hv)
  obtain ⟨k, _, e⟩ := List.mem_map.mp h1
  obtain ⟨t, rfl⟩ := Value.isStrOf_shape (kyv_at _ e.symm)
  exact ⟨k, t, rfl⟩
theorem kyv_ints {ks : List Int} {vs : List Value} (p : (vs.map (kyv (intKind prog w))).Perm (ks.map some)) : ∀ v ∈ vs, ∃ x t, v = Value.int x t := fun v hv => by
  have h1 : kyv (intKind prog w) v ∈ ks.map some := p.mem_iff.mp (List.mem_map_of_mem hv)
  obtain ⟨k, _, e⟩ := List.mem_map.mp h1
  have q := kyv_at _ e.symm
  cases v with
  | int x t => exact ⟨x, t, rfl⟩
  | _ => cases q
/-- what is told in the end: texts -/
theorem strs_end {ks : List Str} : ∀ {out : List Value}, (∀ v ∈ out, ∃ x t, v = Value.str x t) → SrtO.Srtd ltSv out → (out.map (kyv (PySem.strKind prog w))).Perm (ks.map some) →
    ∃ ys : List Str, PyProof.Rows.StrsAre out ys ∧ ys.Perm ks ∧ (ys.map fun x => x.cps.toList).Pairwise fun a b => ¬ b < a := by
  intro out hv hs hp
  have hx : ∀ l : List Value, (∀ v ∈ l, ∃ x t, v = Value.str x t) → ∃ ys : List Str, PyProof.Rows.StrsAre l ys ∧ l.map (kyv (PySem.strKind prog w)) = ys.map some ∧ (ys.map fun x => x.cps.toList) = l.map sv := by
    intro l
    induction l with
    | nil => intro _; exact ⟨[], .nil, rfl, rfl⟩
    | cons v l ih =>
      intro h
      obtain ⟨x, t, rfl⟩ := h v List.mem_cons_self
      obtain ⟨ys, a, b, c⟩ := ih fun u hu => h u (List.mem_cons_of_mem _ hu)
      refine ⟨x :: ys, .cons x t a, ?_, ?_⟩
      · rw [List.map_cons, List.map_cons, b, kyv_is (PySem.strKind prog w) (strKind_is prog w x t)]
      · rw [List.map_cons, List.map_cons, c]; rfl
  obtain ⟨ys, a, b, c⟩ := hx out hv
  refine ⟨ys, a, ?_, ?_⟩
  · rw [b] at hp
    have := hp.filterMap id
    simpa using this
  · rw [c]
    exact List.pairwise_map.mpr (hs.imp fun {x y} h => of_decide_eq_false (p := sv y < sv x) h)
theorem ints_end {ks : List Int} : ∀ {out : List Value}, (∀ v ∈ out, ∃ x t, v = Value.int x t) → SrtO.Srtd SrtO.ltIv out → (out.map (kyv (intKind prog w))).Perm (ks.map some) →
    IntsAre out (out.map SrtO.iv) ∧ (out.map SrtO.iv).Perm ks ∧ (out.map SrtO.iv).Pairwise (· ≤ ·) := by
  intro out hv hs hp
  refine ⟨SrtO.ints_iv hv, ?_, List.pairwise_map.mpr (hs.imp fun {x y} h => Int.not_lt.mp (of_decide_eq_false (p := SrtO.iv y < SrtO.iv x) h))⟩
  have e : out.map (kyv (intKind prog w)) = (out.map SrtO.iv).map some := by
    rw [List.map_map]
    refine List.map_congr_left fun v h => ?_
    obtain ⟨x, t, rfl⟩ := hv v h
    exact kyv_is (intKind prog w) (intKind_is prog w x t)
  rw [e] at hp
  have := hp.filterMap id
  simpa using this
end
end Ev

/-! sorted(numbers), sorted(texts), up to 4000. -/
namespace Ev
open PySem PySem.Spec L2 PyProof.Rows RZ
/-- a new list told in the end -/
theorem end_lst {X : Cx} {pins : List (Addr × Obj)} {σ : L2.St} {H1 : Hp} {s2 s' : Shared} {pp : Addr} {vs : List V} {out : List Value} {c : Nat} (I2 : L2.Inv X pins σ H1 s2) (k : ∀ b u, s2.heap.get? b = some u → s'.heap.get? b = some u) (g : s'.gens = s2.gens) (o : s'.os = s2.os)
    (hp : s2.heap.objs.size ≤ pp) (hl : vs.length ≤ sizeLine) (r : Vals vs out) (hg0 : s'.heap.get? pp = some (seqObj "list" out.toArray c)) : L2.Inv X pins σ (upd H1 pp (.lst vs)) s' ∧ H1 pp = none := by
  have hn : H1 pp = none := I2.hok.fresh hp
  have J : L2.Inv X pins σ (upd H1 pp (.lst vs)) { s2 with heap := s'.heap, gens := s'.gens, drawn := s'.drawn, toks := s'.toks } :=
    I2.call (ch := []) (Un.laid k hp hn) (I2.hok.laid k hp ⟨hl, out, c, r, hg0⟩) (by rw [g]; exact I2.bare) (fun _ z => nomatch z)
  have e : s' = { s2 with heap := s'.heap, gens := s'.gens, drawn := s'.drawn, toks := s'.toks } := by
    cases s'
    cases s2
    cases o
    rfl
  rw [e]
  exact ⟨J, hn⟩
theorem kv_ints {prog : Program} {w : World} : ∀ {vs : List Value} {ns : List Int}, IntsAre vs ns → vs.map (kyv (intKind prog w)) = ns.map some
  | _, _, .nil => rfl
  | _, _, .cons n t h => by rw [List.map_cons, List.map_cons, kv_ints h, kyv_is (intKind prog w) (intKind_is prog w n t)]
theorem kv_strs {prog : Program} {w : World} : ∀ {vs : List Value} {ns : List Str}, StrsAre vs ns → vs.map (kyv (PySem.strKind prog w)) = ns.map some
  | _, _, .nil => rfl
  | _, _, .cons n t h => by rw [List.map_cons, List.map_cons, kv_strs h, kyv_is (PySem.strKind prog w) (strKind_is prog w n t)]
theorem ints_mem : ∀ {vs : List Value} {ns : List Int}, IntsAre vs ns → ∀ v ∈ vs, ∃ x t, v = Value.int x t
  | _, _, .nil, v, h => (nomatch h)
  | _, _, .cons n t h, v, hv => by
    rcases List.mem_cons.mp hv with rfl | hv
    · exact ⟨n, t, rfl⟩
    · exact ints_mem h v hv
theorem strs_mem : ∀ {vs : List Value} {ns : List Str}, StrsAre vs ns → ∀ v ∈ vs, ∃ x t, v = Value.str x t
  | _, _, .nil, v, h => (nomatch h)
  | _, _, .cons n t h, v, hv => by
    rcases List.mem_cons.mp hv with rfl | hv
    · exact ⟨n, t, rfl⟩
    · exact strs_mem h v hv
section
variable {X : Cx}
theorem call_sortedI : CallR X (.builtin "sorted") (fun xs H Q => ∃ (a : Addr) (ns : List Int), xs = [.ref a] ∧ SqL X.K H a (ns.map V.int) ∧ ns.length ≤ 4000 ∧ ∀ (ns' : List Int) (p : Addr), ns'.Perm ns → ns'.Pairwise (· ≤ ·) → H p = none → Q (.ref p) (upd H p (.lst (ns'.map V.int)))) := by
  intro pins s σ H xs us Q I r ⟨a, ns, ex, hF, hl, q⟩
  subst ex
  obtain ⟨its, rv, p, _⟩ := I.list hF
  rw [Vals.ref1 r]
  have hi := rv.ints
  have hlen : its.length = ns.length := hi.length
  have hz : its.length ≤ sizeLine := by rw [sizeLine_eq]; omega
  refine SrtO.sorted_ord SrtO.swo_int p.isList hz (fun h2 h1 b hb kk => SrtO.ints_sortable hi h2) fun out hso hst => ?_
  obtain ⟨j1, j2, j3⟩ := ints_end (prog := X.prog) (w := X.w) (ks := ns) (fun v hv => ints_mem hi v (hst.perm.mem_iff.mp hv)) hso (by rw [← kv_ints hi]; exact hst.perm.map _)
  obtain ⟨c, hc⟩ := sortedAll_at s.heap its out.toArray
  have hwl : ((out.map SrtO.iv).map V.int).length ≤ sizeLine := by rw [List.length_map, j2.length_eq, sizeLine_eq]; omega
  obtain ⟨J, hn⟩ := end_lst (s' := { s with heap := sortedAll s.heap its out.toArray }) I (fun b o e => sortedAll_old e) rfl rfl (Nat.le_succ _) hwl (vals_of_ints j1) hc
  exact ⟨.ref _, _, J, rfl, q _ _ j2 j3 hn⟩
theorem call_sortedT : CallR X (.builtin "sorted") (fun xs H Q => ∃ (a : Addr) (ss : List Str), xs = [.ref a] ∧ SqL X.K H a (ss.map V.str) ∧ ss.length ≤ 4000 ∧ ∀ (ys : List Str) (p : Addr), ys.Perm ss → (ys.map fun x => x.cps.toList).Pairwise (fun a b => ¬ b < a) → H p = none → Q (.ref p) (upd H p (.lst (ys.map V.str)))) := by
  intro pins s σ H xs us Q I r ⟨a, ss, ex, hF, hl, q⟩
  subst ex
  obtain ⟨its, rv, p, _⟩ := I.list hF
  rw [Vals.ref1 r]
  have hi := rv.strs
  have hlen : its.length = ss.length := by have := rv.length; rw [List.length_map] at this; exact this.symm
  have hz : its.length ≤ sizeLine := by rw [sizeLine_eq]; omega
  refine SrtO.sorted_ord swo_str p.isList hz (fun h2 h1 b hb kk => strs_sortable (strs_mem hi) h2) fun out hso hst => ?_
  obtain ⟨ys, j1, j2, j3⟩ := strs_end (prog := X.prog) (w := X.w) (ks := ss) (fun v hv => strs_mem hi v (hst.perm.mem_iff.mp hv)) hso (by rw [← kv_strs hi]; exact hst.perm.map _)
  obtain ⟨c, hc⟩ := sortedAll_at s.heap its out.toArray
  have hwl : (ys.map V.str).length ≤ sizeLine := by rw [List.length_map, j2.length_eq, sizeLine_eq]; omega
  obtain ⟨J, hn⟩ := end_lst (s' := { s with heap := sortedAll s.heap its out.toArray }) I (fun b o e => sortedAll_old e) rfl rfl (Nat.le_succ _) hwl (vals_of_strs j1) hc
  exact ⟨.ref _, _, J, rfl, q _ _ j2 j3 hn⟩
end
end Ev

/-! {}, dict(x), sorted(x): the rules. -/
namespace Ev
open PySem PySem.Spec L2 PyProof.Rows RZ
section
variable {K : PySem.W.Frag} {w : World} {F : Hp}
theorem puts_rel : ∀ (ps : List (Ky × D)) (more kvs : List (Key × V)) (ks : List Ky) (ds : List D), more.map (·.1) = ps.map (fun p => kyK p.1) → Reps K w F (ps.map (·.2)) (more.map (·.2)) →
    kvs.map (·.1) = ks.map kyK → ks.Nodup → Reps K w F ds (kvs.map (·.2)) →
    (puts ps ks ds).1.Nodup ∧ (mergeK kvs more).map (·.1) = (puts ps ks ds).1.map kyK ∧ Reps K w F (puts ps ks ds).2 ((mergeK kvs more).map (·.2))
  | [], [], kvs, ks, ds, _, _, h3, h4, h5 => ⟨h4, h3, h5⟩
  | [], _ :: _, _, _, _, h, _, _, _, _ => by simp at h
  | _ :: _, [], _, _, _, h, _, _, _, _ => by simp at h
  | p :: ps, m :: more, kvs, ks, ds, h1, ⟨v, r, e, g1, g2⟩, h3, h4, h5 => by
    simp only [List.map_cons, List.cons.injEq] at h1 e
    obtain ⟨rfl, rfl⟩ := e
    obtain ⟨i0, i1, i2⟩ := put_rel p.1 p.2 m.2 g1 ks ds kvs h3 h4 h5
    have := puts_rel ps more (putK kvs (kyK p.1) m.2) (put p.1 p.2 ks ds).1 (put p.1 p.2 ks ds).2 h1.2 g2 i1 i0 i2
    rw [← h1.1] at this
    exact this
theorem pairs_rep : ∀ {xs : List D} {ps : List (Ky × D)} {vs : List V}, pairsOf xs = some ps → Reps K w F xs vs → ∃ (as : List Addr) (more : List (Key × V)), vs = as.map V.ref ∧ Paired (fun p kv => SqX K F p [kV kv.1, kv.2]) as more ∧
    more.map (·.1) = ps.map (fun p => kyK p.1) ∧ Reps K w F (ps.map (·.2)) (more.map (·.2))
  | [], ps, vs, h, hr => by
    cases h
    rw [show vs = [] from hr]
    exact ⟨[], [], rfl, .nil, rfl, rfl⟩
  | x :: xs, ps, vs, h, ⟨v, r, e, g1, g2⟩ => by
    obtain ⟨p, h1, h2⟩ := Option.bind_eq_some_iff.mp (show (pairOf x).bind _ = some ps from h)
    obtain ⟨qs, h3, rfl⟩ := Option.map_eq_some_iff.mp h2
    obtain ⟨as, more, rfl, i1, i2, i3⟩ := pairs_rep h3 g2
    have hx : ∃ kd vd, x = .tup [kd, vd] ∧ (kyOf kd).map (fun k => (k, vd)) = some p := by
      unfold pairOf at h1
      split at h1
      · exact ⟨_, _, rfl, h1⟩
      · cases h1
    obtain ⟨kd, vd, rfl, h4⟩ := hx
    obtain ⟨k, hk, rfl⟩ := Option.map_eq_some_iff.mp h4
    obtain ⟨a, us, rfl, sq, u1, r1, rfl, q1, u2, r2, rfl, q2, q3⟩ := g1
    obtain rfl : r2 = [] := q3
    have ek := ky_of hk q1
    subst ek
    exact ⟨a :: as, (kyK k, u2) :: more, by rw [e]; rfl, .cons sq i1, by simp only [List.map_cons, i2], u2, _, rfl, q2, i3⟩
theorem paired_weak {α β : Type} {R S : α → β → Prop} (h : ∀ a b, R a b → S a b) : ∀ {as : List α} {bs : List β}, Paired R as bs → Paired S as bs
  | _, _, .nil => .nil
  | _, _, .cons r t => .cons (h _ _ r) (paired_weak h t)
end
section
variable {X : Cx}
/-- a tuple as it stands -/
theorem sqx_plain {pins : List (Addr × Obj)} {σ : L2.St} {H : Hp} {s : Shared} {a : Addr} {vs : List V} (I : L2.Inv X pins σ H s) (h : SqX X.K H a vs) : ∃ us : List Value, Vals vs us ∧ PlainSeq "tuple" s.heap a us.toArray ∧ vs.length ≤ sizeLine := by
  obtain ⟨us, r, ⟨o, ho, hc, n, hd⟩, hz⟩ := I.tuple h.t
  rcases h with ⟨o', h1, x1⟩ | ⟨_, o', h1, x1⟩
  · have e := (I.hok a _ h1).1
    rw [ho] at e
    cases e
    exact ⟨us, r, ⟨o, n, ho, hc, x1.2.1, hd⟩, hz⟩
  · have e := I.kIn a o' h1
    rw [ho] at e
    cases e
    exact ⟨us, r, ⟨o, n, ho, hc, x1.2.1, hd⟩, hz⟩
theorem pairs_heap {pins : List (Addr × Obj)} {σ : L2.St} {H : Hp} {s : Shared} (I : L2.Inv X pins σ H s) : ∀ {as : List Addr} {more : List (Key × V)}, Paired (fun p kv => SqX X.K H p [kV kv.1, kv.2]) as more →
    ∃ prs : List (Value × Value), ∃ kvs : List (Key × Value), KV more kvs ∧ prs.length = as.length ∧ kvs.length = as.length ∧ (∀ (j : Nat) (k v : Value), prs[j]? = some (k, v) → ∃ a, as[j]? = some a ∧ s.heap.IsTuple a #[k, v]) ∧
      ∀ (j : Nat) (k v : Value), prs[j]? = some (k, v) → ∃ kk, kvs[j]? = some (kk, v) ∧ (mixKind X.prog X.w).is kk k = true
  | _, _, .nil => ⟨[], [], .nil, rfl, rfl, fun j k v e => by simp at e, fun j k v e => by simp at e⟩
  | _, _, .cons (a := a) (b := kv) h t => by
    obtain ⟨prs, kvs, r1, l1, l2, i1, i2⟩ := pairs_heap I t
    obtain ⟨us, r, ⟨o, ho, hc, n, hd⟩, hz⟩ := I.tuple h.t
    cases r with
    | cons ra rr =>
      cases rr with
      | cons rb rr =>
        cases rr
        rename_i u1 u2
        refine ⟨(u1, u2) :: prs, (kv.1, u2) :: kvs, .cons ⟨rfl, rb⟩ r1, by simp [l1], by simp [l2], fun j k v e => ?_, fun j k v e => ?_⟩
        · cases j with
          | zero => cases e; exact ⟨a, rfl, o, ho, hc, n, hd⟩
          | succ j => exact i1 j k v e
        · cases j with
          | zero => cases e; exact ⟨kv.1, rfl, kV_is ra⟩
          | succ j => exact i2 j k v e
theorem Same.pairs {K : PySem.W.Frag} {F H : Hp} (hs : Same F H) {as : List Addr} {more : List (Key × V)} (h : Paired (fun p kv => SqX K F p [kV kv.1, kv.2]) as more) : Paired (fun p kv => SqX K H p [kV kv.1, kv.2]) as more := paired_weak (fun _ _ z => Same.tupX hs z) h
theorem call_dictT (hcalm : X.calm = true) : CallR X (.type "dict") (fun xs H Q => ∃ (a : Addr) (as : List Addr) (more : List (Key × V)), xs = [.ref a] ∧ SqX X.K H a (as.map V.ref) ∧ Paired (fun p kv => SqX X.K H p [kV kv.1, kv.2]) as more ∧
    ∀ p, H p = none → Q (.ref p) (upd H p (.dK (mergeK [] more)))) := by
  intro pins s σ H xs us Q I r ⟨a, as, more, ex, hq, hp, q⟩
  subst ex
  obtain ⟨u, rfl, rx⟩ := vals1 r
  cases rx
  obtain ⟨ws, rv, pl, hz⟩ := sqx_plain I hq
  have ei := refs_at rv
  subst ei
  rw [List.length_map] at hz
  obtain ⟨prs, kvs, rel, l1, l2, h1, h2⟩ := pairs_heap I hp
  have hP := PairArg.tuple (prog := X.prog) (w := X.w) a (as.map Value.ref).toArray (fun j => as.getD j 0) prs
  refine PySem.call_dict_pairs (knd := mixKind X.prog X.w) (kvs := kvs) hP (I.ok.hd hcalm) ⟨pl, by simp [l1], fun j k v e => ?_⟩ ⟨by rw [l2, l1], fun i k v e => h2 i k v e⟩ (by rw [l1]; exact hz) fun h' tk hd' k => ?_
  · obtain ⟨b, e1, e2⟩ := h1 j k v e
    refine ⟨by simp [e1], .inl ?_⟩
    show s.heap.IsTuple (as.getD j 0) #[k, v]
    rw [List.getD_eq_getElem?_getD, e1]
    exact e2
  · have hm : (s.heap.objs.size == sysModules) = false := beq_eq_false_iff_ne.mpr (Nat.ne_of_gt I.big)
    have hlen : (mergeK [] more).length ≤ sizeLine := by
      refine Nat.le_trans (length_mergeK more []) ?_
      rw [List.length_nil, Nat.zero_add, rel.length, l2]; exact hz
    exact ⟨.ref s.heap.objs.size, upd H s.heap.objs.size (.dK (mergeK [] more)), I.laid (t' := tk) (fun b o e => k b o (fun z => (nomatch z)) e) (Nat.le_refl _) (show ObjOk X.prog X.w _ _ _ (.dK (mergeK [] more)) from ⟨hlen, hm, merged [] kvs, KV.merge rel .nil, hd'⟩), rfl, q _ (I.hok.fresh (Nat.le_refl _))⟩
theorem dicOf_new {K : PySem.W.Frag} {w : World} {F H : Hp} {ps : List (Ky × D)} {more : List (Key × V)} {Q : VK} (h1 : more.map (·.1) = ps.map (fun p => kyK p.1)) (h2 : Reps K w F (ps.map (·.2)) (more.map (·.2))) (q : fnew K w (.ok (dicOf ps)) F H Q) (p : Addr) (hp : H p = none) : Q (.ref p) (upd H p (.dK (mergeK [] more))) := by
  obtain ⟨i0, i1, i2⟩ := puts_rel ps more [] [] [] h1 h2 rfl List.nodup_nil rfl
  exact (show ∀ p kvs, H p = none → kvs.map (·.1) = (puts ps [] []).1.map kyK → (puts ps [] []).1.Nodup → Reps K w F (puts ps [] []).2 (kvs.map (·.2)) → Q (.ref p) (upd H p (.dK kvs)) from q) p _ hp i1 i0 i2
theorem cr_dict (hcalm : X.calm = true) : CallR X (.type "dict") (rdn1 X.K X.w dDict) := by
  intro pins s σ H xs us Q I r ⟨F, d, v, ex, hs, hd, q⟩
  subst ex
  unfold dDict at q
  split at q
  · obtain ⟨a, kvs, rfl, hF, hkk, hnd, hr⟩ := hd
    exact call_dictD pins s σ H _ us Q I r ⟨a, kvs, rfl, .inl (hs _ _ hF), fun p hp => q p kvs hp hkk hnd hr⟩
  · split at q <;> first | exact False.elim q | skip
    rename_i ps hps
    split at q <;> first | exact False.elim q | skip
    obtain ⟨a, vs, rfl, hF, hr⟩ := hd
    obtain ⟨as, more, rfl, i1, i2, i3⟩ := pairs_rep hps hr
    exact call_dictP hcalm pins s σ H _ us Q I r ⟨a, as, more, rfl, SqL.of (hs _ _ hF), paired_weak (fun _ _ z => Same.tup hs z) i1, fun p hp => dicOf_new i2 i3 q p hp⟩
  · split at q <;> first | exact False.elim q | skip
    rename_i ps hps
    split at q <;> first | exact False.elim q | skip
    obtain ⟨a, vs, rfl, hF, hr⟩ := hd
    obtain ⟨as, more, rfl, i1, i2, i3⟩ := pairs_rep hps hr
    exact call_dictT hcalm pins s σ H _ us Q I r ⟨a, as, more, rfl, Same.tupX hs hF, Same.pairs hs i1, fun p hp => dicOf_new i2 i3 q p hp⟩
  · exact False.elim q
theorem kysTx_eq : ∀ {ks : List Ky} {ss : List (List Nat)}, kysTx ks = some ss → ks = ss.map Ky.s ∧ ∀ b ∈ ss, okc b = true
  | [], _, h => by cases h; exact ⟨rfl, fun b hb => (nomatch hb)⟩
  | .i _ :: _, _, h => by cases h
  | .s l :: ks, ss, h => by
    obtain ⟨x, h0, h1⟩ := Option.bind_eq_some_iff.mp (show (kyTx (.s l)).bind _ = some ss from h)
    obtain ⟨r, h2, rfl⟩ := Option.map_eq_some_iff.mp h1
    obtain ⟨e1, e2⟩ := kysTx_eq h2
    have h0' : (if l.all (· < 1114112) then some l else none) = some x := h0
    split at h0'
    · rename_i hl
      cases h0'
      refine ⟨by rw [e1]; rfl, fun b hb => ?_⟩
      rcases List.mem_cons.mp hb with rfl | hb
      · exact hl
      · exact e2 b hb
    · cases h0'
theorem strs_reps {K : PySem.W.Frag} {w : World} {F : Hp} : ∀ (ss : List (List Nat)), (∀ b ∈ ss, okc b = true) → Reps K w F (ss.map D.str) ((ss.map tx).map V.str)
  | [], _ => rfl
  | l :: ss, h => ⟨.str (tx l), _, rfl, ⟨rfl, h l List.mem_cons_self⟩, strs_reps ss fun b hb => h b (List.mem_cons_of_mem _ hb)⟩
theorem ints_reps {K : PySem.W.Frag} {w : World} {F : Hp} : ∀ (ns : List Int), Reps K w F (ns.map D.int) (ns.map V.int)
  | [] => rfl
  | n :: ns => ⟨.int n, _, rfl, rfl, ints_reps ns⟩
theorem srtS_okc {ss : List (List Nat)} (h : ∀ b ∈ ss, okc b = true) : ∀ b ∈ srtS ss, okc b = true := fun b hb => h b ((srtS_perm ss).mem_iff.mp hb)
theorem cr_sorted' (hcalm : X.calm = true) : CallR X (.builtin "sorted") (rdn1 X.K X.w Ev.sorted0) := by
  intro pins s σ H xs us Q I r ⟨F, d, v, ex, hs, hd, q⟩
  subst ex
  unfold Ev.sorted0 at q
  split at q
  · split at q <;> first | exact False.elim q | skip
    rename_i hl
    obtain ⟨a, vs, rfl, hF, hr⟩ := hd
    split at q
    · rename_i ns hn
      have e := ints_of hn hr
      subst e
      refine call_sortedI pins s σ H _ us Q I r ⟨a, ns, rfl, SqL.of (hs _ _ hF), by have := hr.length; rw [List.length_map] at this; omega, fun ns' p h1 h2 hp => ?_⟩
      have e2 := ints_unique (h1.trans (srtI_perm ns).symm) h2 (srtI_upw ns)
      rw [e2]
      exact q p _ hp (ints_reps _)
    · split at q <;> first | exact False.elim q | skip
      rename_i ss hn
      obtain ⟨e, hk⟩ := strs_of hn hr
      subst e
      refine call_sortedT pins s σ H _ us Q I r ⟨a, ss.map tx, rfl, SqL.of (hs _ _ hF), by have := hr.length; rw [List.length_map] at this; omega, fun ys p h1 h2 hp => ?_⟩
      rw [sortedT_eq h1 h2]
      exact q p _ hp (strs_reps _ (srtS_okc hk))
  · split at q <;> first | exact False.elim q | skip
    rename_i hl
    split at q <;> first | exact False.elim q | skip
    rename_i ss hn
    obtain ⟨a, kvs, rfl, hF, hkk, hnd, hr⟩ := hd
    obtain ⟨e, hk⟩ := kysTx_eq hn
    subst e
    refine call_sortedD hcalm pins s σ H _ us Q I r ⟨a, kvs, ss.map tx, rfl, .inl (hs _ _ hF), ?_, by rw [List.length_map] at hl ⊢; exact hl, fun ys p h1 h2 hp => ?_⟩
    · rw [hkk, List.map_map, List.map_map]; rfl
    · rw [sortedS_eq h1 h2]
      exact q p _ hp (strs_reps _ (srtS_okc hk))
  · exact False.elim q
/-- {} -/
theorem s_emp {C : Ct} {pos : Pos} : PE X (.Dict [] [] pos) (C.rn .emp) :=
  PE.weak pe_dnewK fun σ H Q ⟨env, F, he, hs, q⟩ p hp => (show ∀ p kvs F' H', Ext F H F' H' → H' p = none → kvs.map (·.1) = ([] : List Ky).map kyK → ([] : List Ky).Nodup → Reps C.K C.w F' [] (kvs.map (·.2)) → Q (.ref p) (upd H' p (.dK kvs)) from q) p [] F H (Ext.refl hs) hp rfl List.nodup_nil rfl
theorem cat_new {C : Ct} {ta tb : E} (env : Env) (d : D) (h : ev C.glob C.fn (.cat ta tb) env = .ok d) : (∃ ds, d = .lst ds) ∨ ∃ ks ds, d = .dic ks ds := by
  obtain ⟨x, h1, h2⟩ := R.bind_eq_ok (show R.bind (ev C.glob C.fn ta env) _ = .ok d from h)
  obtain ⟨y, h3, h4⟩ := R.bind_eq_ok h2
  unfold catL at h4
  split at h4
  · unfold fit at h4
    split at h4
    · cases h4; exact .inl ⟨_, rfl⟩
    · cases h4
  · cases h4
/-- l + m, a new list of one's own -/
theorem s_cat {C : Ct} {a b : Expr} {ta tb : E} {pos : Pos} (ha : PE X a (C.rd ta)) (hb : PE X b (C.rd tb)) : PE X (.BinOp a .Add b pos) (C.rn (.cat ta tb)) :=
  PE.weak (pe_op op_cat ha hb) fun σ H Q ⟨env, F, he, hs, q⟩ => by
    have ee : ev C.glob C.fn (.cat ta tb) env = (ev C.glob C.fn ta env).bind fun x => (ev C.glob C.fn tb env).bind fun y => catL x y := rfl
    rw [ee] at q
    refine ⟨env, F, he, hs, ?_⟩
    cases e1 : ev C.glob C.fn ta env with
    | no => rw [e1] at q; exact q
    | ex c => rw [e1] at q; exact q
    | ok d1 =>
      rw [e1, R.bind_ok] at q
      intro v1 F1 H1 x1 r1
      refine ⟨env, F1, he.mono x1.sub, x1.inH, ?_⟩
      cases e2 : ev C.glob C.fn tb env with
      | no => rw [e2] at q; exact q
      | ex c => rw [e2] at q; exact fun H' s => q H' (x1.same.trans s)
      | ok d2 =>
        rw [e2, R.bind_ok] at q
        intro v2 F2 H2 x2 r2
        cases d1 with
        | lst xs =>
          cases d2 with
          | lst ys =>
            by_cases hn : xs.length + ys.length ≤ lim
            · have e3 : catL (.lst xs) (.lst ys) = .ok (.lst (xs ++ ys)) := by show fit _ _ = _; unfold fit; rw [if_pos hn]
              rw [e3] at q
              obtain ⟨a1, vs, rfl, g1, g2⟩ := r1
              obtain ⟨a2, us, rfl, g3, g4⟩ := r2
              exact ⟨a1, a2, vs, us, rfl, rfl, x2.inH _ _ (x2.sub _ _ g1), x2.inH _ _ g3, by rw [← g2.length, ← g4.length, ← lim_eq]; exact hn, fun p hp => q p _ F2 H2 (x1.trans x2) hp ((Reps.mono x2.sub _ _ g2).append g4)⟩
            · have e3 : catL (.lst xs) (.lst ys) = .no := by show fit _ _ = _; unfold fit; rw [if_neg hn]
              rw [e3] at q
              exact False.elim q
          | _ => exact False.elim q
        | _ => cases d2 <;> exact False.elim q
theorem dDict_ne (d : D) (k : Nat) : dDict d ≠ .ex k := by unfold dDict; split <;> first | (intro h; cases h; done) | (split <;> first | (intro h; cases h; done) | (split <;> (intro h; cases h)))
theorem sorted0_ne (d : D) (k : Nat) : Ev.sorted0 d ≠ .ex k := by unfold Ev.sorted0; split <;> first | (intro h; cases h; done) | (split <;> first | (intro h; cases h; done) | (split <;> first | (intro h; cases h; done) | (split <;> (intro h; cases h))))
theorem sorted_ne (d : D) (k : Nat) : Ev.sorted d ≠ .ex k := by
  unfold Ev.sorted
  split
  · split
    · intro h; cases h
    · exact sorted0_ne _ k
  · exact sorted0_ne _ k
end
end Ev

/-! sorted(rows). -/
namespace Ev
open PySem PySem.Spec L2 PyProof.Rows RZ
theorem rowS_inj : ∀ {r q : List D} {ks : List Bool}, rowKs r = some ks → rowKs q = some ks → rowS r = rowS q → r = q
  | [], [], _, _, _, _ => rfl
  | [], _ :: _, _, _, _, h => by cases h
  | _ :: _, [], _, _, _, h => by cases h
  | d :: r, e :: q, ks, h1, h2, h => by
    obtain ⟨b, b1, b2⟩ := Option.bind_eq_some_iff.mp (show (cellK d).bind _ = some ks from h1)
    obtain ⟨k1, b3, rfl⟩ := Option.map_eq_some_iff.mp b2
    obtain ⟨c, c1, c2⟩ := Option.bind_eq_some_iff.mp (show (cellK e).bind _ = some (b :: k1) from h2)
    obtain ⟨k2, c3, c4⟩ := Option.map_eq_some_iff.mp c2
    injection c4 with c5 c6
    subst c5 c6
    injection (show cellS d :: rowS r = cellS e :: rowS q from h) with h3 h4
    rw [rowS_inj b3 c3 h4]
    congr 1
    cases d <;> cases e <;> first | (injection h3 with h3; rw [h3]; done) | (cases b1; cases c1; done) | (cases b1; done) | (cases c1; done) | (cases h3; done)
/-- the order of cells -/
theorem itemLt_cell {d e : D} {b : Bool} (h1 : cellK d = some b) (h2 : cellK e = some b) : itemLt (cellS d) (cellS e) = ltC d e := by
  cases d <;> cases e <;> first | rfl | (cases h1; cases h2; done) | (cases h1; done) | (cases h2; done)
theorem lexLt_row : ∀ {r q : List D} {ks : List Bool}, rowKs r = some ks → rowKs q = some ks → lexLt itemOrd (rowS r) (rowS q) = ltR r q
  | [], [], _, _, _ => rfl
  | [], _ :: _, ks, h1, h2 => by
    cases h1
    obtain ⟨c, c1, c2⟩ := Option.bind_eq_some_iff.mp (show (cellK _).bind _ = some [] from h2)
    obtain ⟨k2, c3, c4⟩ := Option.map_eq_some_iff.mp c2
    cases c4
  | _ :: _, [], ks, h1, h2 => by
    cases h2
    obtain ⟨c, c1, c2⟩ := Option.bind_eq_some_iff.mp (show (cellK _).bind _ = some [] from h1)
    obtain ⟨k2, c3, c4⟩ := Option.map_eq_some_iff.mp c2
    cases c4
  | d :: r, e :: q, ks, h1, h2 => by
    obtain ⟨b, b1, b2⟩ := Option.bind_eq_some_iff.mp (show (cellK d).bind _ = some ks from h1)
    obtain ⟨k1, b3, rfl⟩ := Option.map_eq_some_iff.mp b2
    obtain ⟨c, c1, c2⟩ := Option.bind_eq_some_iff.mp (show (cellK e).bind _ = some (b :: k1) from h2)
    obtain ⟨k2, c3, c4⟩ := Option.map_eq_some_iff.mp c2
    injection c4 with c5 c6
    subst c5 c6
    show lexLt itemOrd (cellS d :: rowS r) (cellS e :: rowS q) = (ltC d e || (!ltC e d && ltR r q))
    rw [lex_cons, lexLt_row b3 c3]
    show (itemLt (cellS d) (cellS e) || (!itemLt (cellS e) (cellS d) && ltR r q)) = _
    rw [itemLt_cell b1 c1, itemLt_cell c1 b1]
theorem insR_perm (a : List D) : ∀ l, (insR a l).Perm (a :: l)
  | [] => .refl _
  | b :: r => by
    unfold insR
    split
    · exact ((insR_perm a r).cons b).trans (.swap a b r)
    · exact .refl _
theorem srtR_perm : ∀ l, (srtR l).Perm l
  | [] => .refl _
  | a :: r => (insR_perm a (srtR r)).trans ((srtR_perm r).cons a)
/-- the order of rows of the same kinds -/
abbrev LtK (a b : List Cell) : Bool := lexLt itemOrd a b
theorem ltK_trans {a b c : List Cell} (h1 : LtK b a = false) (h2 : LtK c b = false) : LtK c a = false := by
  cases h : LtK c a with
  | false => rfl
  | true =>
    rcases lex_negTrans (O := itemOrd) c b a h with h3 | h3
    · exact absurd (h2.symm.trans h3) (by decide)
    · exact absurd (h1.symm.trans h3) (by decide)
theorem ltK_asym {a b : List Cell} (h : LtK a b = true) : LtK b a = false := by
  cases h2 : LtK b a with
  | false => rfl
  | true =>
    have := lex_trans (O := itemOrd) a b a h h2
    rw [lex_irrefl] at this
    cases this
theorem insR_sorted {ks : List Bool} {a : List D} (ha : rowKs a = some ks) : ∀ l : List (List D), (∀ r ∈ l, rowKs r = some ks) → (l.map rowS).Pairwise (fun x y => LtK y x = false) → ((insR a l).map rowS).Pairwise (fun x y => LtK y x = false)
  | [], _, _ => by simp [insR]
  | b :: r, hk, h => by
    rw [List.map_cons] at h
    obtain ⟨h1, h2⟩ := List.pairwise_cons.mp h
    have hb := hk b List.mem_cons_self
    unfold insR
    split
    · rename_i hab
      rw [List.map_cons]
      refine List.pairwise_cons.mpr ⟨fun x hx => ?_, insR_sorted ha r (fun q hq => hk q (List.mem_cons_of_mem _ hq)) h2⟩
      have := ((insR_perm a r).map rowS).mem_iff.mp hx
      rw [List.map_cons] at this
      rcases List.mem_cons.mp this with rfl | hx
      · exact ltK_asym (by rw [show LtK (rowS b) (rowS a) = ltR b a from lexLt_row hb ha]; exact hab)
      · exact h1 x hx
    · rename_i hab
      have hab' : LtK (rowS b) (rowS a) = false := by rw [show LtK (rowS b) (rowS a) = ltR b a from lexLt_row hb ha]; simpa using hab
      rw [List.map_cons, List.map_cons]
      refine List.pairwise_cons.mpr ⟨fun x hx => ?_, h⟩
      rcases List.mem_cons.mp hx with rfl | hx
      · exact hab'
      · exact ltK_trans hab' (h1 x hx)
theorem srtR_sorted {ks : List Bool} : ∀ l : List (List D), (∀ r ∈ l, rowKs r = some ks) → ((srtR l).map rowS).Pairwise (fun x y => LtK y x = false)
  | [], _ => .nil
  | a :: r, h => insR_sorted (h a List.mem_cons_self) _ (fun q hq => h q (List.mem_cons_of_mem _ ((srtR_perm r).mem_iff.mp hq))) (srtR_sorted r fun q hq => h q (List.mem_cons_of_mem _ hq))
theorem cells_unique {a b : List (List Cell)} (hp : a.Perm b) (ha : a.Pairwise (fun x y => LtK y x = false)) (hb : b.Pairwise (fun x y => LtK y x = false)) : a = b := by
  induction a generalizing b with
  | nil => exact (hp.nil_eq)
  | cons x a ih =>
    cases b with
    | nil => exact absurd hp.length_eq (by simp)
    | cons y b =>
      obtain ⟨a1, a2⟩ := List.pairwise_cons.mp ha
      obtain ⟨b1, b2⟩ := List.pairwise_cons.mp hb
      have e : x = y := by
        rcases List.mem_cons.mp (hp.mem_iff.mp (List.mem_cons_self (a := x))) with h | h
        · exact h
        · rcases List.mem_cons.mp (hp.symm.mem_iff.mp (List.mem_cons_self (a := y))) with g | g
          · exact g.symm
          · exact lex_total (O := itemOrd) x y (b1 x h) (a1 y g)
      subst e
      rw [ih (List.Perm.cons_inv hp) a2 b2]
section
variable {X : Cx} {pins : List (Addr × Obj)} {σ : L2.St} {H F : Hp} {s : Shared} {w : World} {K : PySem.W.Frag}
theorem items_key : ∀ {r : List D} {cs : List V} {its : List Value} {ks : List Bool}, Reps K w F r cs → Vals cs its → rowKs r = some ks → ∀ (shape : Nat → Bool) (i : Nat), (∀ j, j < ks.length → shape (i + j) = ks.getD j false) → tupItems shape i its = some (rowS r)
  | [], cs, its, ks, h, v, _, shape, i, _ => by
    rw [show cs = [] from h] at v
    cases v; rfl
  | d :: r, cs, its, ks, ⟨c, cr, e, g1, g2⟩, v, hk, shape, i, hs => by
    subst e
    cases v with
    | cons rv vt =>
      obtain ⟨b, b1, b2⟩ := Option.bind_eq_some_iff.mp (show (cellK d).bind _ = some ks from hk)
      obtain ⟨k1, b3, rfl⟩ := Option.map_eq_some_iff.mp b2
      have h0 := hs 0 (by simp)
      have ih := items_key g2 vt b3 shape (i + 1) fun j hj => by
        have := hs (j + 1) (by simp; omega)
        rw [show i + (j + 1) = i + 1 + j by omega] at this
        rw [this]; rfl
      rw [Nat.add_zero] at h0
      cases d with
      | int n =>
        cases b1
        obtain rfl : c = .int n := g1
        obtain ⟨t, rfl⟩ := rv
        have h0' : shape i = false := h0
        show (if shape i = true then none else (tupItems shape (i + 1) _).map (Sum.inl n :: ·)) = _
        rw [h0', if_neg Bool.false_ne_true, ih]; rfl
      | str l =>
        cases b1
        obtain ⟨rfl, _⟩ := g1
        obtain ⟨t, rfl⟩ := rv
        have h0' : shape i = true := h0
        show (if shape i = true then (tupItems shape (i + 1) _).map (Sum.inr (tx l).cps.toList :: ·) else none) = _
        rw [h0', if_pos rfl, ih]; rfl
      | _ => cases b1
def shp (ks : List Bool) (i : Nat) : Bool := ks.getD i false
/-- a row as it stands in a heap -/
theorem row_key (I : L2.Inv X pins σ H s) (hs : Same F H) {r : List D} {v : V} {u : Value} {k : Bool} {ks : List Bool} (hr : Rep X.K w F (.tup r) v) (rv : RelV v u) (hk : rowKs r = some (k :: ks)) :
    ∃ a o, u = .ref a ∧ s.heap.get? a = some o ∧ ∀ h' : Heap, h'.get? a = some o → tupKey h' (shp (k :: ks)) u = some (rowS r) ∧ ∃ f, TupOf h' (shp (k :: ks)) u f := by
  obtain ⟨a, cs, rfl, sq, hc⟩ := hr
  cases rv
  obtain ⟨its, vv, ⟨o, ho, hcl, n, hd⟩, _⟩ := I.tuple (Same.tup hs sq)
  refine ⟨a, o, rfl, ho, fun h' ho' => ?_⟩
  have hi := items_key hc vv hk (shp (k :: ks)) 0 fun j _ => by rw [Nat.zero_add]; rfl
  constructor
  · unfold tupKey
    simp only
    rw [ho']
    simp only
    rw [hd]
    exact hi
  · cases r with
    | nil => cases hk
    | cons d r =>
      obtain ⟨c, cr, e, g1, g2⟩ := hc
      subst e
      cases vv with
      | cons r1 vt =>
        rename_i u1 us
        obtain ⟨b, b1, b2⟩ := Option.bind_eq_some_iff.mp (show (cellK d).bind _ = some (k :: ks) from hk)
        obtain ⟨k1, b3, b4⟩ := Option.map_eq_some_iff.mp b2
        injection b4 with b5 b6
        subst b5
        refine ⟨u1, a, o, _, n, rfl, ho', hcl, hd, by simp, fun z => ?_, fun z => ?_⟩
        · have z' : b = false := z
          subst z'
          cases d with
          | int i =>
            obtain rfl : c = .int i := g1
            obtain ⟨t, rfl⟩ := r1
            exact ⟨_, _, rfl⟩
          | _ => cases b1
        · have z' : b = true := z
          subst z'
          cases d with
          | str l =>
            obtain ⟨rfl, _⟩ := g1
            obtain ⟨t, rfl⟩ := r1
            exact ⟨_, _, rfl⟩
          | _ => cases b1
theorem tups_of {h : Heap} {shape : Nat → Bool} : ∀ {vs : List Value}, (∀ v ∈ vs, ∃ f, TupOf h shape v f) → ∃ fs, TupsOf h shape vs fs ∧ fs.length = vs.length
  | [], _ => ⟨[], .nil, rfl⟩
  | v :: vs, h => by
    obtain ⟨f, hf⟩ := h v List.mem_cons_self
    obtain ⟨fs, h1, h2⟩ := tups_of fun u hu => h u (List.mem_cons_of_mem _ hu)
    exact ⟨f :: fs, .cons hf h1, by simp [h2]⟩
def keyV (h : Heap) (ks : List Bool) (v : Value) : List Cell := (tupKey h (shp ks) v).getD []
theorem swo_rows (h : Heap) (ks : List Bool) : SrtO.Swo fun v u => LtK (keyV h ks v) (keyV h ks u) := ⟨fun x y h => ltK_asym h, fun x y z h1 h2 => ltK_trans h1 h2⟩
theorem vals_rows : ∀ {rs : List (List D)} {vs : List V} {us : List Value}, Reps K w F (rs.map D.tup) vs → Vals vs us → ∀ u ∈ us, ∃ v, ∃ r ∈ rs, RelV v u ∧ Rep K w F (.tup r) v
  | [], vs, us, h, v, u, hu => by
    rw [show vs = [] from h] at v
    cases v; cases hu
  | r :: rs, vs, us, ⟨c, cr, e, g1, g2⟩, v, u, hu => by
    subst e
    cases v with
    | cons r1 vt =>
      rcases List.mem_cons.mp hu with rfl | hu
      · exact ⟨c, r, List.mem_cons_self, r1, g1⟩
      · obtain ⟨v', r', h1, h2, h3⟩ := vals_rows g2 vt u hu
        exact ⟨v', r', List.mem_cons_of_mem _ h1, h2, h3⟩
theorem keys_rows {key : Value → List Cell} : ∀ {rs : List (List D)} {vs : List V} {us : List Value}, Reps K w F (rs.map D.tup) vs → Vals vs us → (∀ r ∈ rs, ∀ v u, RelV v u → Rep K w F (.tup r) v → key u = rowS r) → us.map key = rs.map rowS
  | [], vs, us, h, v, _ => by
    rw [show vs = [] from h] at v
    cases v; rfl
  | r :: rs, vs, us, ⟨c, cr, e, g1, g2⟩, v, hk => by
    subst e
    cases v with
    | cons r1 vt =>
      rw [List.map_cons, List.map_cons, hk r List.mem_cons_self _ _ r1 g1, keys_rows g2 vt fun q hq => hk q (List.mem_cons_of_mem _ hq)]
theorem out_rows {key : Value → List Cell} {ks : List Bool} : ∀ {out : List Value} {rs : List (List D)}, out.map key = rs.map rowS → (∀ r ∈ rs, rowKs r = some ks) → (∀ u ∈ out, ∃ v r, RelV v u ∧ Rep K w F (.tup r) v ∧ rowKs r = some ks ∧ key u = rowS r) → ∃ vs, Vals vs out ∧ Reps K w F (rs.map D.tup) vs
  | [], [], _, _, _ => ⟨[], .nil, rfl⟩
  | [], _ :: _, h, _, _ => by cases h
  | _ :: _, [], h, _, _ => by cases h
  | u :: out, r :: rs, h, hk, hu => by
    rw [List.map_cons, List.map_cons] at h
    injection h with h1 h2
    obtain ⟨v, q, g1, g2, g3, g4⟩ := hu u List.mem_cons_self
    obtain ⟨vs, i1, i2⟩ := out_rows h2 (fun x hx => hk x (List.mem_cons_of_mem _ hx)) fun x hx => hu x (List.mem_cons_of_mem _ hx)
    have e := rowS_inj g3 (hk r List.mem_cons_self) (g4.symm.trans h1)
    subst e
    exact ⟨v :: vs, .cons g1 i1, v, vs, rfl, g2, i2⟩
theorem call_sortedR : CallR X (.builtin "sorted") (fun xs H Q => ∃ F a vs rs k ks, xs = [.ref a] ∧ Same F H ∧ F a = some (.lst vs) ∧ Reps X.K X.w F (rs.map D.tup) vs ∧ (∀ r ∈ rs, rowKs r = some (k :: ks)) ∧ rs.length ≤ 4000 ∧
    ∀ p ws, H p = none → Reps X.K X.w F ((srtR rs).map D.tup) ws → Q (.ref p) (upd H p (.lst ws))) := by
  intro pins s σ H xs us Q I r ⟨F, a, vs, rs, k, ks, ex, hs, hF, hr, hk, hl, q⟩
  subst ex
  obtain ⟨u, rfl, rx⟩ := vals1 r
  cases rx
  obtain ⟨its, rv, p, _⟩ := I.list (SqL.of (hs _ _ hF))
  have hlen : its.length = rs.length := by have h1 := rv.length; have h2 := hr.length; rw [List.length_map] at h2; omega
  have hz : its.length ≤ sizeLine := by rw [sizeLine_eq]; omega
  have key1 : ∀ r ∈ rs, ∀ v u, RelV v u → Rep X.K X.w F (.tup r) v → keyV s.heap (k :: ks) u = rowS r := fun r hx v u h1 h2 => by
    obtain ⟨b, o, rfl, ho, hh⟩ := row_key I hs h2 h1 (hk r hx)
    unfold keyV
    rw [(hh s.heap ho).1]; rfl
  have each := vals_rows hr rv
  refine SrtO.sorted_ord (swo_rows s.heap (k :: ks)) p.isList hz (fun h2 h1 b hb kk h' keep => ?_) fun out hso hst => ?_
  · have ht : ∀ v ∈ its, tupKey h' (shp (k :: ks)) v = some (keyV s.heap (k :: ks) v) ∧ ∃ f, TupOf h' (shp (k :: ks)) v f := fun v hv => by
      obtain ⟨vv, r, hx, g1, g2⟩ := each v hv
      obtain ⟨c, o, rfl, ho, hh⟩ := row_key I hs g2 g1 (hk r hx)
      obtain ⟨z1, z2⟩ := kk c o ho
      obtain ⟨w1, w2⟩ := hh h' (keep c o z1 z2)
      refine ⟨?_, w2⟩
      rw [w1]
      unfold keyV
      rw [(hh s.heap ho).1]; rfl
    obtain ⟨fs, f1, f2⟩ := tups_of fun v hv => (ht v hv).2
    refine ⟨tuples' true, fun Q E hq => tup_kind (s := { s with heap := h' }) (by omega) f1 hq, fun x y hx hy => ?_⟩
    exact tup_ltAt (s := { s with heap := h' }) true _ _ _ _ _ _ (ht _ hx).1 (ht _ hy).1 ⟨rfl, rfl⟩
  · have hp : (out.map (keyV s.heap (k :: ks))).Perm ((srtR rs).map rowS) := by
      refine (hst.perm.map _).trans ?_
      rw [keys_rows hr rv key1]
      exact ((srtR_perm rs).map rowS).symm
    have hsr : (out.map (keyV s.heap (k :: ks))).Pairwise (fun x y => LtK y x = false) := List.Pairwise.map _ (fun _ _ h => h) hso
    have e := cells_unique hp hsr (srtR_sorted rs hk)
    obtain ⟨ws, w1, w2⟩ := out_rows (K := X.K) (w := X.w) (F := F) (ks := k :: ks) e (fun r hx => hk r ((srtR_perm rs).mem_iff.mp hx)) fun u hu => by
      obtain ⟨v, r, hx, g1, g2⟩ := each u (hst.perm.mem_iff.mp hu)
      exact ⟨v, r, g1, g2, hk r hx, key1 r hx v u g1 g2⟩
    obtain ⟨c, hc⟩ := sortedAll_at s.heap its out.toArray
    have hwl : ws.length ≤ sizeLine := by
      have h1 := w2.length
      rw [List.length_map, (srtR_perm rs).length_eq] at h1
      rw [sizeLine_eq]; omega
    obtain ⟨J, hn⟩ := end_lst (s' := { s with heap := sortedAll s.heap its out.toArray }) I (fun b o e => sortedAll_old e) rfl rfl (Nat.le_succ _) hwl w1 hc
    exact ⟨.ref _, _, J, rfl, q _ ws hn w2⟩
theorem rowsOf_eq : ∀ {xs : List D} {rs : List (List D)}, rowsOf xs = some rs → xs = rs.map D.tup
  | [], rs, h => by cases h; rfl
  | .tup r :: l, rs, h => by
    obtain ⟨q, h1, rfl⟩ := Option.map_eq_some_iff.mp (show (rowsOf l).map _ = some rs from h)
    rw [rowsOf_eq h1]; rfl
  | .non :: _, _, h => by cases h
  | .bl _ :: _, _, h => by cases h
  | .int _ :: _, _, h => by cases h
  | .str _ :: _, _, h => by cases h
  | .lst _ :: _, _, h => by cases h
  | .dic _ _ :: _, _, h => by cases h
  | .scr _ :: _, _, h => by cases h
  | .gdc _ _ :: _, _, h => by cases h
  | .adr _ :: _, _, h => by cases h
theorem cr_sortedX (hcalm : X.calm = true) : CallR X (.builtin "sorted") (rdn1 X.K X.w Ev.sorted) := by
  intro pins s σ H xs us Q I r ⟨F, d, v, ex, hs, hd, q⟩
  unfold Ev.sorted at q
  split at q
  · rename_i ds
    split at q
    · rename_i rs hrs
      unfold sortRows at hrs
      split at hrs
      · rename_i r1 rest hro
        split at hrs
        · rename_i k ks hkk
          split at hrs
          · rename_i hc
            rw [Bool.and_eq_true, decide_eq_true_eq] at hc
            injection hrs with hrs
            subst hrs
            have hk : ∀ x ∈ r1 :: rest, rowKs x = some (k :: ks) := fun x hx => by
              have := List.all_eq_true.mp hc.1 x hx
              simpa using this
            have ed := rowsOf_eq hro
            obtain ⟨a, vs, rfl, hF, hr⟩ := hd
            rw [ed] at hr
            exact call_sortedR pins s σ H _ us Q I r ⟨F, a, vs, r1 :: rest, k, ks, ex, hs, hF, hr, hk, by have := hc.2; rw [ed, List.length_map] at this; exact this, fun p ws hp hw => q p ws hp hw⟩
          · cases hrs
        · cases hrs
      · cases hrs
    · exact cr_sorted' hcalm pins s σ H xs us Q I r ⟨F, _, v, ex, hs, hd, q⟩
  · exact cr_sorted' hcalm pins s σ H xs us Q I r ⟨F, _, v, ex, hs, hd, q⟩
end
end Ev

/-! Sets of rows: tuples of numbers and texts, fewer than 64 unlike ones. -/
namespace Ev
namespace Rw
open PySem PySem.Spec L2 PyProof.Rows
/-- the cells of a row -/
abbrev Cl := List Key
abbrev hsh (P : Program) (w : World) (k : Cl) : Int := tupleKeyHash (mixKind P w) k
abbrev Is (P : Program) (w : World) (h : Heap) (k : Cl) (a : Addr) : Prop := IsTupleKey (mixKind P w) h k a
section
variable {P : Program} {w : World} {A : Around} {E : Value → Shared → Prop} {s : Shared}
theorem items_plain {k : Cl} {vs : List Value} (h : ItemsAre (mixKind P w) k vs) : ∀ v ∈ vs, (∃ i t, v = Value.int i t) ∨ ∃ x t, v = Value.str x t := by
  induction h with
  | nil => intro v hv; cases hv
  | cons h1 _ ih =>
    intro v hv
    rcases List.mem_cons.mp hv with rfl | hv
    · rcases keyIs_shape h1 with ⟨i, t, _, e⟩ | ⟨x, t, _, e⟩
      · exact .inl ⟨i, t, e⟩
      · exact .inr ⟨x, t, e⟩
    · exact ih v hv
theorem class_cell (n : Nat) {v : Value} (h : (∃ i t, v = Value.int i t) ∨ ∃ x t, v = Value.str x t) : ofAClassStatement n v = pure false := by
  rcases h with ⟨i, t, rfl⟩ | ⟨x, t, rfl⟩ <;> cases n <;> rfl
theorem hash_cell (n : Nat) {v : Value} (h : (∃ i t, v = Value.int i t) ∨ ∃ x t, v = Value.str x t) : ∃ b, hashByValue n v = pure b := by
  rcases h with ⟨i, t, rfl⟩ | ⟨x, t, rfl⟩
  · exact ⟨true, by cases n <;> rfl⟩
  · exact ⟨false, by cases n <;> rfl⟩
theorem class_row {k : Cl} {b : Addr} {Q : Bool → Shared → Prop} (hk : Is P w s.heap k b) (h : Q false s) : wpAny (model P w) A (ofAClassStatement 8 (.ref b)) Q E s := by
  have hT := hk.typeIs
  obtain ⟨o, its, n, ho, _, hd, hi⟩ := hk
  have all := items_plain hi
  unfold ofAClassStatement
  refine wpAny_bind (wpAny_typeOf hT ?_)
  have e : (("tuple" : String) == "tuple") = true := by decide
  simp only [e, if_true, Bool.not_true, Bool.false_eq_true, if_false]
  try refine wpAny_bind (wpAny_pure ?_)
  try simp only [Bool.not_true, Bool.false_eq_true, if_false]
  show wpAny _ _ (seqItems? (.ref b) >>= _) _ _ s
  refine wpAny_bind (wpAny_seqItems ho hd ?_)
  refine wpAny_bind ?_
  show wpAny _ _ (forIn its _ _) _ _ s
  rw [← Array.forIn_toList]
  refine wpAny_forIn_list _ (fun rest r s' => r.1 = none ∧ s' = s ∧ ∀ v ∈ rest, v ∈ its.toList) _ ?_ ?_ _ _ ⟨rfl, rfl, fun _ z => z⟩
  · rintro v rest r s' ⟨_, rfl, sub⟩
    rw [class_cell _ (all v (sub v List.mem_cons_self))]
    refine wpAny_bind (wpAny_pure ?_)
    rw [if_neg Bool.false_ne_true]
    exact wpAny_pure ⟨rfl, rfl, fun u z => sub u (List.mem_cons_of_mem _ z)⟩
  · rintro ⟨r1, r2⟩ s' ⟨hr, rfl, _⟩
    obtain rfl : r1 = none := hr
    exact wpAny_pure h
theorem hash_row {k : Cl} {b : Addr} {Q : Bool → Shared → Prop} (hk : Is P w s.heap k b) (h : ∀ z, Q z s) : wpAny (model P w) A (hashByValue 8 (.ref b)) Q E s := by
  have hT := hk.typeIs
  obtain ⟨o, its, n, ho, _, hd, hi⟩ := hk
  have all := items_plain hi
  unfold hashByValue
  refine wpAny_bind (wpAny_specialOf hT F.slot_tuple_hash.lookup ?_)
  show wpAny _ _ (seqItems? (.ref b) >>= _) _ _ s
  refine wpAny_bind (wpAny_seqItems ho hd ?_)
  refine wpAny_bind ?_
  show wpAny _ _ (forIn its _ _) _ _ s
  rw [← Array.forIn_toList]
  refine wpAny_forIn_list _ (fun rest r s' => r.1 = none ∧ s' = s ∧ ∀ v ∈ rest, v ∈ its.toList) _ ?_ ?_ _ _ ⟨rfl, rfl, fun _ z => z⟩
  · rintro v rest r s' ⟨_, rfl, sub⟩
    obtain ⟨z, e⟩ := hash_cell 7 (all v (sub v List.mem_cons_self))
    rw [e]
    refine wpAny_bind (wpAny_pure ?_)
    cases z with
    | false =>
      rw [if_pos (show (!false) = true from rfl)]
      refine wpAny_pure ?_
      exact wpAny_pure (h _)
    | true =>
      rw [if_neg (by decide)]
      exact wpAny_pure ⟨rfl, rfl, fun u z => sub u (List.mem_cons_of_mem _ z)⟩
  · rintro ⟨r1, r2⟩ s' ⟨hr, rfl, _⟩
    obtain rfl : r1 = none := hr
    exact wpAny_pure (h _)
/-- a search among rows shows nothing -/
theorem seen_row {k : Cl} {b : Addr} {Q : Bool → Shared → Prop} (hk : Is P w s.heap k b) {ys : List Value} (hy : ∀ y ∈ ys, ∃ k' c, y = Value.ref c ∧ Is P w s.heap k' c) (h : Q false s) :
    wpAny (model P w) A (searchCouldBeSeen (.ref b) ys) Q E s := by
  unfold searchCouldBeSeen
  refine wpAny_bind ?_
  refine wpAny_forIn_list _ (fun rest r s' => r.1 = none ∧ s' = s ∧ ∀ y ∈ rest, y ∈ ys) _ ?_ ?_ _ _ ⟨rfl, rfl, fun _ z => z⟩
  · rintro v rest r s' ⟨_, rfl, sub⟩
    obtain ⟨k', c, rfl, hc⟩ := hy v (sub v List.mem_cons_self)
    have sub' : ∀ y ∈ rest, y ∈ ys := fun u z => sub u (List.mem_cons_of_mem _ z)
    dsimp only
    by_cases hv : (b == c || (carriedByValue (.ref b) && carriedByValue (.ref c))) = true
    · exact wp_if_pos hv (wpAny_pure ⟨rfl, rfl, sub'⟩)
    · refine wp_if_neg hv ?_
      refine wpAny_bind (wpAny_eqIsQuiet_tuple hk ?_)
      rw [if_neg (by decide)]
      refine wpAny_bind (wpAny_eqIsQuiet_tuple hc ?_)
      rw [if_neg (by decide)]
      refine wpAny_bind (class_row hk ?_)
      rw [if_neg (by decide)]
      refine wpAny_bind (class_row hc ?_)
      rw [if_neg (by decide)]
      exact wpAny_pure ⟨rfl, rfl, sub'⟩
  · rintro ⟨r1, r2⟩ s' ⟨hr, rfl, _⟩
    obtain rfl : r1 = none := hr
    exact wpAny_pure h

/-! ### the set -/
def ents (P : Program) (w : World) (L : List (Addr × Cl)) : List (Int × Value) := L.map fun p => (hsh P w p.2, Value.ref p.1)
structure St (P : Program) (w : World) (h : Heap) (a : Addr) (L : List (Addr × Cl)) (es : Array (Int × Value)) (ep : Nat) (t : SetTable) : Prop where
  ob : ∃ o, h.get? a = some o ∧ o.ExactSet ∧ o.data = .set es ep t
  rows : es.toList = ents P w L
  tab : TabOk t (L.map fun p => hsh P w p.2)
  nd : (L.map (·.2)).Nodup
  tup : ∀ p ∈ L, Is P w h p.2 p.1
  led : w.params.followText "set-order" = true ∨ t.led = true
  room : L.length * 5 < t.mask * 3
  few : L.length < 64
variable {a : Addr} {L : List (Addr × Cl)} {es : Array (Int × Value)} {ep : Nat} {t : SetTable}
theorem ents_len {es : Array (Int × Value)} {L : List (Addr × Cl)} (h : es.toList = ents P w L) : es.size = L.length := by
  rw [← Array.length_toList, h, ents, List.length_map]
theorem ents_at {es : Array (Int × Value)} {L : List (Addr × Cl)} (h : es.toList = ents P w L) {i : Nat} {p : Addr × Cl} (e : L[i]? = some p) : es[i]? = some (hsh P w p.2, Value.ref p.1) := by
  rw [← Array.getElem?_toList, h, ents, List.getElem?_map, e]; rfl
theorem St.fits (R : St P w s.heap a L es ep t) : t.fits es.size = true := by
  have h1 := R.tab.sz
  have h2 := ents_len R.rows
  have h3 := R.room
  rw [List.length_map] at h1
  unfold SetTable.fits SetTable.fill
  rw [R.tab.dm, Bool.and_eq_true, beq_iff_eq, decide_eq_true_eq]
  exact ⟨by omega, by show t.place.size + 0 ≤ t.mask; omega⟩
theorem St.gw (R : St P w s.heap a L es ep t) : ¬ t.gaveWay = true := by
  unfold SetTable.gaveWay
  rw [mask_odd R.tab.mok]
  decide
abbrev pth (t : SetTable) (h : Int) (c : Nat) : SetTable.Probe := nth t.mask (runAt t.mask (SetTable.bits h % (t.mask + 1)) (SetTable.bits h)) c
theorem pth_dm (t : SetTable) (h : Int) (c : Nat) : (pth t h c).dummy = none := by
  have key : ∀ (n : Nat) (p : SetTable.Probe), p.dummy = none → (nth t.mask p n).dummy = none := by
    intro n
    induction n with
    | zero => intro p h; exact h
    | succ n ih =>
      intro p h
      refine ih (adv t.mask p) ?_
      unfold adv
      split <;> exact h
  exact key c _ rfl
/-- the search from the c-th step on -/
theorem look_on (R : St P w s.heap a L es ep t) {x : Addr} {k : Cl} (hx : Is P w s.heap k x) (hu : A.units < cLine) {K : Nat} (hKf : K < 10 * SetTable.turns t.mask)
    (hK : way t.mask (hsh P w k) K ∉ t.place.toList) (hKb : ∀ c, c < K → way t.mask (hsh P w k) c ∈ t.place.toList) {Q : SetFound → Shared → Prop}
    (hin : k ∈ L.map (·.2) → Q (.there none) s) (hout : k ∉ L.map (·.2) → Q (.free (way t.mask (hsh P w k) K) false) s) :
    ∀ (f c : Nat) (stand : Option SetTable.Probe), stand.getD (t.probeStart (hsh P w k)) = pth t (hsh P w k) c → c ≤ K → K - c < f →
      (∀ (i : Nat) p, L[i]? = some p → p.2 = k → ∃ c', c ≤ c' ∧ c' < K ∧ t.place.toList[i]? = some (way t.mask (hsh P w k) c')) →
      wpAny (model P w) A (setSearchFrom a (.ref x) (hsh P w k) true f stand) Q E s := by
  intro f
  induction f with
  | zero => intro c stand _ _ hf; exact absurd hf (Nat.not_lt_zero _)
  | succ f ih =>
    intro c stand hst hc hf hre
    obtain ⟨o, ho, hex, hd⟩ := R.ob
    generalize hh : hsh P w k = H at *
    rw [setSearchFrom_succ]
    refine wpAny_bind (wpAny_setState_of ho hd R.fits ?_)
    dsimp only
    refine wp_if_neg R.gw ?_
    try refine wpAny_bind (wpAny_pure ?_)
    have sh : ∀ q, nth t.mask (pth t H c) q = pth t H (c + q) := fun q => (nth_add t.mask c _ q).symm
    have e1 : ∀ q, (nth t.mask (pth t H c) q).j = way t.mask H (c + q) := fun q => congrArg SetTable.Probe.j (sh q)
    have hcK : c + (K - c) = K := by omega
    have spec := go_spec t R.tab.ris R.tab.dm (fun i => (es[i]?.map (·.1)).getD 0) H (10 * SetTable.turns t.mask) (K - c) _ (pth_dm t H c) (by omega)
      (fun q hq => by rw [e1]; exact hKb (c + q) (by omega)) (by rw [e1, hcK]; exact hK)
    have at_ : ∀ (i : Nat) p, L[i]? = some p → (fun i => (es[i]?.map (·.1)).getD 0) i = hsh P w p.2 := fun i p hp => by
      show (es[i]?.map (·.1)).getD 0 = _
      rw [ents_at R.rows hp]; rfl
    rcases spec with ⟨q, i, hq, hi, hhi, hno, hpr⟩ | ⟨hno, hpr⟩
    · have hpr' : t.probe (fun i => (es[i]?.map (·.1)).getD 0) H (stand.getD (t.probeStart H)) = some (.candidate (way t.mask H (c + q)) i (pth t H (c + (q + 1)))) := by
        rw [hst, ← e1, ← sh]
        exact hpr
      rw [hpr']
      dsimp only
      rw [e1] at hi
      have hil : i < L.length := by
        have h1 := (List.getElem?_eq_some_iff.mp hi).1
        have h2 := R.tab.sz
        rw [List.length_map] at h2
        rw [Array.length_toList] at h1
        omega
      obtain ⟨p, hp⟩ : ∃ p, L[i]? = some p := ⟨_, List.getElem?_eq_getElem hil⟩
      have hmem : p ∈ L := List.mem_of_getElem? hp
      have rest : wpAny (model P w) A (searchRest a (.ref x) H true f es t (way t.mask H (c + q)) i (pth t H (c + (q + 1)))) Q E s := by
        unfold searchRest
        rw [ents_at R.rows hp]
        dsimp only
        refine wpAny_bind (wpAny_holding (wpAny_eqBool_tuple hu (R.tup p hmem) hx ?_))
        refine wpAny_bind (wpAny_setState_of ho hd R.fits ?_)
        dsimp only
        by_cases hkk : p.2 = k
        · exact wp_if_pos (by simp [hkk]) (wpAny_pure (hin (List.mem_map.mpr ⟨p, hmem, hkk⟩)))
        · refine wp_if_neg (by simp [hkk]) ?_
          try refine wpAny_bind (wpAny_pure ?_)
          rw [L2.sameMem]
          dsimp only
          have hsl : t.slot (way t.mask H (c + q)) = .live i := slot_live R.tab.ris hi
          simp only [if_true, hsl, ents_at R.rows hp]
          refine wpAny_bind (wpAny_isSame_ref_self (wpAny_bind (wpAny_pure ?_)))
          simp only [if_true]
          refine wp_if_neg (by simp [hkk]) ?_
          refine ih (c + (q + 1)) _ rfl (by omega) (by omega) fun i0 p0 h0 hk0 => ?_
          obtain ⟨c', a1, a2, a3⟩ := hre i0 p0 h0 hk0
          refine ⟨c', ?_, a2, a3⟩
          rcases Nat.lt_trichotomy c' (c + q) with z | z | z
          · exact absurd ((at_ i0 p0 h0).trans (by rw [hk0, hh])) (hno (c' - c) i0 (by omega) (by rw [e1, show c + (c' - c) = c' by omega]; exact a3))
          · exfalso
            rw [z] at a3
            have s0 := slot_live R.tab.ris a3
            rw [hsl] at s0
            injection s0 with s0
            rw [← s0, hp] at h0
            exact hkk ((congrArg Prod.snd (Option.some.inj h0)).trans hk0)
          · omega
      by_cases hl : t.led = true
      · refine wp_if_neg (by simp [hl]) ?_
        try refine wpAny_bind (wpAny_pure ?_)
        exact rest
      · refine wp_if_pos (by simp [hl]) ?_
        refine wpAny_bind (seen_row hx (fun y hy => ?_) ?_)
        · obtain ⟨e, he, rfl⟩ := List.mem_map.mp hy
          have he1 : e ∈ es ∧ e.1 = H := by simpa using he
          have he2 : e ∈ es.toList := by simpa using he1.1
          rw [R.rows] at he2
          obtain ⟨p2, hp2, rfl⟩ := List.mem_map.mp he2
          exact ⟨p2.2, p2.1, rfl, R.tup p2 hp2⟩
        · refine wp_if_neg (by decide) ?_
          try refine wpAny_bind (wpAny_pure ?_)
          exact rest
    · have hpr' : t.probe (fun i => (es[i]?.map (·.1)).getD 0) H (stand.getD (t.probeStart H)) = some (.empty (way t.mask H K) none) := by
        have e2 : way t.mask H K = (nth t.mask (pth t H c) (K - c)).j := by rw [e1, hcK]
        rw [hst, e2]
        exact hpr
      rw [hpr']
      dsimp only
      refine wpAny_pure (hout fun hm => ?_)
      obtain ⟨p0, h0, hk0⟩ := List.mem_map.mp hm
      obtain ⟨i0, hi0, e0⟩ := List.getElem_of_mem h0
      have h00 : L[i0]? = some p0 := by rw [List.getElem?_eq_getElem hi0, e0]
      obtain ⟨c', a1, a2, a3⟩ := hre i0 p0 h00 hk0
      exact hno (c' - c) i0 (by omega) (by rw [e1, show c + (c' - c) = c' by omega]; exact a3) ((at_ i0 p0 h00).trans (by rw [hk0, hh]))
/-- the search for one more -/
theorem look_at (R : St P w s.heap a L es ep t) {x : Addr} {k : Cl} (hx : Is P w s.heap k x) (hu : A.units < cLine) {Q : SetFound → Shared → Prop}
    (hin : k ∈ L.map (·.2) → Q (.there none) s)
    (hout : ∀ K, k ∉ L.map (·.2) → way t.mask (hsh P w k) K ∉ t.place.toList → (∀ c, c < K → way t.mask (hsh P w k) c ∈ t.place.toList) → Q (.free (way t.mask (hsh P w k) K) false) s) :
    wpAny (model P w) A (setSearch a (.ref x) (hsh P w k) true) Q E s := by
  have hroom := R.room
  obtain ⟨K, hKf, hK, hKb⟩ := R.tab.first (by rw [List.length_map]; omega) (hsh P w k)
  have hbig : K < 100000 := by
    have : 10 * SetTable.turns t.mask ≤ 1420 := by
      unfold SetTable.turns
      rcases R.tab.mok with e | e | e <;> omega
    omega
  unfold setSearch
  refine look_on R hx hu hKf hK hKb hin (fun hn => hout K hn hK hKb) 100000 0 none rfl (Nat.zero_le _) (by omega) fun i p hp hk => ?_
  have hi : (L.map fun p => hsh P w p.2)[i]? = some (hsh P w k) := by rw [List.getElem?_map, hp, ← hk]; rfl
  have hil : i < t.place.toList.length := by
    have h1 := (List.getElem?_eq_some_iff.mp hp).1
    have h2 := R.tab.sz
    rw [List.length_map] at h2
    rw [Array.length_toList]
    omega
  have hj := List.getElem?_eq_getElem hil
  obtain ⟨c, hc, e⟩ := R.tab.before hK hi hj
  exact ⟨c, Nat.zero_le _, hc, by rw [hj, e]⟩
end
end Rw
end Ev

/-! Sets of rows: one more, all of a list. -/
namespace Ev
namespace Rw
open PySem PySem.Spec L2 PyProof.Rows
section
variable {P : Program} {w : World} {A : Around} {E : Value → Shared → Prop} {s : Shared}
/-- a row is not the set -/
theorem is_same {h h' : Heap} {k : Cl} {a b : Addr} {o : Obj} {es : Array (Int × Value)} {ep : Nat} {t : SetTable} (hb : Is P w h k b) (ho : h.get? a = some o) (hd : o.data = .set es ep t) (hs : Heap.SameBut a h h') : Is P w h' k b := by
  obtain ⟨o', its, n, ho', hc, hd', hi⟩ := hb
  refine ⟨o', its, n, (hs.2 b ?_).trans ho', hc, hd', hi⟩
  rintro rfl
  obtain rfl : o' = o := Option.some.inj (ho'.symm.trans ho)
  rw [hd] at hd'
  exact nomatch hd'
theorem is_keep {h h' : Heap} {k : Cl} {b : Addr} (x : Is P w h k b) (hk : ∀ c o, h.get? c = some o → h'.get? c = some o) : Is P w h' k b := by
  obtain ⟨o, its, n, ho, r⟩ := x
  exact ⟨o, its, n, hk b o ho, r⟩
/-- a part of the places, each once -/
theorem pick_rows (L : List (Addr × Cl)) (es : Array (Int × Value)) (order : Array Nat) (hr : es.toList = ents P w L) (hp : order.toList.Perm (List.range L.length)) :
    ∃ L2, (order.filterMap (es[·]?)).toList = ents P w L2 ∧ L2.Perm L ∧ (L2.map fun p => hsh P w p.2) = order.toList.map fun i => (es.map (·.1)).getD i 0 := by
  have key : ∀ l : List Nat, (∀ i ∈ l, i < L.length) → l.filterMap (fun i => es[i]?) = ents P w (l.filterMap fun i => L[i]?) ∧ ((l.filterMap fun i => L[i]?).map fun p => hsh P w p.2) = l.map fun i => (es.map (·.1)).getD i 0 := by
    intro l
    induction l with
    | nil => intro _; exact ⟨rfl, rfl⟩
    | cons i l ih =>
      intro hl
      have hi := List.getElem?_eq_getElem (hl i List.mem_cons_self)
      have he := ents_at hr hi
      obtain ⟨e1, e2⟩ := ih fun j hj => hl j (List.mem_cons_of_mem _ hj)
      rw [List.filterMap_cons_some he, List.filterMap_cons_some hi, e1, List.map_cons, List.map_cons, e2]
      refine ⟨rfl, ?_⟩
      have e5 : (es.map (·.1))[i]? = some (hsh P w (L[i]'(hl i List.mem_cons_self)).2) := by rw [Array.getElem?_map, he]; rfl
      rw [Array.getD_eq_getD_getElem?, e5]; rfl
  obtain ⟨e1, e2⟩ := key order.toList fun i hi => List.mem_range.mp (hp.mem_iff.mp hi)
  refine ⟨order.toList.filterMap fun i => L[i]?, by first | (rw [Array.toList_filterMap]; exact e1) | simpa using e1, ?_, e2⟩
  have h1 := hp.filterMap fun i => L[i]?
  have h2 : ∀ n, n ≤ L.length → (List.range n).filterMap (fun i => L[i]?) = L.take n := by
    intro n
    induction n with
    | zero => intro _; rfl
    | succ n ih =>
      intro hn
      rw [List.range_succ, List.filterMap_append, ih (by omega), List.take_succ, List.getElem?_eq_getElem hn, List.filterMap_cons_some (List.getElem?_eq_getElem hn)]; rfl
  rw [h2 _ (Nat.le_refl _), List.take_length] at h1
  exact h1
variable {a : Addr} {L : List (Addr × Cl)} {es : Array (Int × Value)} {ep : Nat} {t : SetTable}
/-- the table laid anew -/
theorem relay {o : Obj} (ho : s.heap.get? a = some o) (hex : o.ExactSet) (hd : o.data = .set es ep t) (hrows : es.toList = ents P w L) (hsz : t.place.size = es.size) (hdm : t.dummies = #[]) (hfl : es.size ≤ t.mask)
    (nd : (L.map (·.2)).Nodup) (tup : ∀ p ∈ L, Is P w s.heap p.2 p.1) (ld : w.params.followText "set-order" = true ∨ t.led = true) (few : L.length < 64) {wanted M : Nat}
    (hw : SetTable.sizeAbove wanted - 1 = M) (hM : MaskOk M) (hw2 : SetTable.sizeAbove wanted ≤ 128) (hn : L.length * 5 < M * 3) {Q : Unit → Shared → Prop}
    (hQ : ∀ h' L' es' ep' t', Heap.SameBut a s.heap h' → St P w h' a L' es' ep' t' → L'.Perm L → Q () { s with heap := h' }) : wpAny (model P w) A (setRelay a wanted) Q E s := by
  have hsl := ents_len hrows
  have hfits : t.fits es.size = true := by
    unfold SetTable.fits SetTable.fill
    rw [hdm, Bool.and_eq_true, beq_iff_eq, decide_eq_true_eq]
    exact ⟨hsz, by show t.place.size + 0 ≤ t.mask; omega⟩
  obtain ⟨t', order, e, hp, T, em, el, _, ed⟩ := relaid_ok t (hs := es.map (·.1)) (wanted := wanted) hw hM (by rw [Array.size_map, hsl]; omega)
  rw [Array.size_map, hsl] at hp
  obtain ⟨L2, r1, r2, r3⟩ := pick_rows L es order hrows hp
  rw [← r3] at T
  have hs2 : (order.filterMap (es[·]?)).size = es.size := by rw [ents_len r1, r2.length_eq, hsl]
  rw [setRelay_eq]
  refine wpAny_bind (wpAny_setState_of ho hd hfits ?_)
  dsimp only
  refine wp_if_neg (by rw [sizeLine_eq]; omega) ?_
  try refine wpAny_bind (wpAny_pure ?_)
  rw [e]
  dsimp only
  refine wpAny_bind ?_
  refine wp_if_neg (by rw [hs2]; simp) ?_
  try refine wpAny_bind (wpAny_pure ?_)
  refine wpAny_pure ?_
  dsimp only
  refine wpAny_storeSet_of ho hd ?_ (by rw [hs2, hsl, sizeLine_eq]; omega)
  have sb : Heap.SameBut a s.heap (s.heap.update a (Obj.putSet (order.filterMap (es[·]?)) t')) := Heap.SameBut.update ..
  exact hQ _ L2 _ (ep + 1) t' sb ⟨⟨_, store_at ho hd, ⟨hex.1, hex.2.1, hex.2.2⟩, rfl⟩, r1, T, (r2.map (·.2)).nodup_iff.mpr nd, fun p hpm => is_same (tup p (r2.mem_iff.mp hpm)) ho hd sb, by rw [el]; exact ld, by rw [r2.length_eq, em]; exact hn, by rw [r2.length_eq]; exact few⟩ r2
/-- one more -/
theorem add_row (R : St P w s.heap a L es ep t) {x : Addr} {k : Cl} (hx : Is P w s.heap k x) (hu : A.units < cLine) (hfew : k ∉ L.map (·.2) → L.length + 1 < 64) {Q : Bool → Shared → Prop}
    (hQ : ∀ b h' L' es' ep' t', Heap.SameBut a s.heap h' → St P w h' a L' es' ep' t' → (k ∈ L.map (·.2) → L' = L) → (k ∉ L.map (·.2) → L'.Perm ((x, k) :: L)) → Q b { s with heap := h' }) :
    wpAny (model P w) A (setAddHashed a (.ref x) (hsh P w k)) Q E s := by
  obtain ⟨o, ho, hex, hd⟩ := R.ob
  have hsl := ents_len R.rows
  have hroom := R.room
  unfold setAddHashed
  refine wpAny_holding ?_
  rw [show (100000 : Nat) = 99999 + 1 from rfl, setAddHashedIn_succ]
  refine wpAny_bind (wpAny_setState_of ho hd R.fits ?_)
  dsimp only
  refine wp_if_neg (by simp [byScan, Value.scannable]) ?_
  try refine wpAny_bind (wpAny_pure ?_)
  refine wpAny_bind (look_at R hx hu (fun hm => ?_) fun K hm hK hb => ?_)
  · exact wpAny_pure (hQ false s.heap L es ep t (Heap.SameBut.refl a s.heap) R (fun _ => rfl) fun z => absurd hm z)
  · have hfew := hfew hm
    dsimp only
    refine wpAny_bind (wpAny_setState_of ho hd R.fits ?_)
    dsimp only
    obtain ⟨q1, q2, q3, q4, q5, _, _, _, q9⟩ := R.tab.put hK hb
    generalize hpt : t.put (way t.mask (hsh P w k) K) = pt at q1 q3 q4 q5 q9 ⊢
    obtain ⟨t0, p⟩ := pt
    dsimp only at q1 q3 q4 q5 q9 ⊢
    have hin : (SetTable.insertAt es p (hsh P w k, Value.ref x)).toList = ents P w (L.take p ++ (x, k) :: L.drop p) := by
      rw [SetTable.toList_insertAt, R.rows]
      unfold ents
      rw [List.map_append, List.map_cons, List.map_take, List.map_drop]
    rw [← q1] at q2 q3
    have pm : (L.take p ++ (x, k) :: L.drop p).Perm ((x, k) :: L) := by
      have h : (L.take p ++ (x, k) :: L.drop p).Perm ((x, k) :: (L.take p ++ L.drop p)) := List.perm_middle
      rw [List.take_append_drop] at h
      exact h
    have q3 : TabOk t0 ((L.take p ++ (x, k) :: L.drop p).map fun p => hsh P w p.2) := by
      rw [List.map_append, List.map_cons, List.map_take, List.map_drop]
      exact q3
    generalize SetTable.insertAt es p (hsh P w k, Value.ref x) = es1 at hin ⊢
    generalize L.take p ++ (x, k) :: L.drop p = L1 at pm q3 hin
    have hlen : L1.length = L.length + 1 := pm.length_eq
    have hes : es1.size = L.length + 1 := by rw [ents_len hin, hlen]
    have nd1 : (L1.map (·.2)).Nodup := (pm.map (·.2)).nodup_iff.mpr (by rw [List.map_cons]; exact List.nodup_cons.mpr ⟨hm, R.nd⟩)
    have go : ∀ t1 : SetTable, t1.place = t0.place → t1.dummies = t0.dummies → t1.mask = t0.mask → t1.led = t0.led → wpAny (model P w) A (do
        storeSet a es1 t1
        if (!false && t1.tooFull) = true then do
            setRelay a (SetTable.grown (es.size + 1))
            pure true
          else pure true) Q E s := by
      intro t1 z1 z2 z3 z4
      have T1 : TabOk t1 (L1.map fun p => hsh P w p.2) := ⟨by rw [z1]; exact q3.ris, by rw [z2]; exact q3.dm, by rw [z1]; exact q3.sz, by rw [z3]; exact q3.mok, by rw [z1, z3]; exact q3.bd, by rw [z1, z3]; exact q3.reach⟩
      have ld1 : w.params.followText "set-order" = true ∨ t1.led = true := by rw [z4, q5]; exact R.led
      have fill1 : t1.fill = L.length + 1 := by
        have : t1.fill = t0.fill := by unfold SetTable.fill; rw [z1, z2]
        rw [this, q9, List.length_map]
      refine wpAny_bind (wpAny_storeSet_of ho hd ?_ (by rw [hes, sizeLine_eq]; omega))
      have sb : Heap.SameBut a s.heap (s.heap.update a (Obj.putSet es1 t1)) := Heap.SameBut.update ..
      have ho1 := store_at (es' := es1) (t' := t1) ho hd
      generalize s.heap.update a (Obj.putSet es1 t1) = h1 at sb ho1 ⊢
      have tup1 : ∀ p ∈ L1, Is P w h1 p.2 p.1 := fun p hp => by
        rcases List.mem_cons.mp (pm.mem_iff.mp hp) with rfl | hp
        · exact is_same hx ho hd sb
        · exact is_same (R.tup p hp) ho hd sb
      by_cases hf : t1.tooFull = true
      · refine wp_if_pos (by simp [hf]) ?_
        refine wpAny_bind ?_
        have hfull : (L.length + 1) * 5 ≥ t1.mask * 3 := by
          have h := hf
          unfold SetTable.tooFull at h
          rw [decide_eq_true_eq, fill1] at h
          exact h
        have hsz1 : t1.place.size = es1.size := by
          have h := T1.sz
          rw [List.length_map, hlen] at h
          rw [h, hes]
        have two : (t.mask = 7 ∧ L.length = 4) ∨ (t.mask = 31 ∧ L.length = 18) := by
          rw [z3, q4] at hfull
          rcases R.tab.mok with e | e | e
          · left; rw [e] at hroom hfull; exact ⟨e, by omega⟩
          · right; rw [e] at hroom hfull; exact ⟨e, by omega⟩
          · exfalso; rw [e] at hfull; omega
        have big : ∀ M, SetTable.sizeAbove (SetTable.grown (L.length + 1)) - 1 = M → MaskOk M → SetTable.sizeAbove (SetTable.grown (L.length + 1)) ≤ 128 → (L.length + 1) * 5 < M * 3 →
            wpAny (model P w) A (setRelay a (SetTable.grown (es.size + 1))) (fun _ s' => wpAny (model P w) A (pure true) Q E s') E { s with heap := h1 } := fun M b1 b2 b3 b4 => by
          rw [hsl]
          refine relay (s := { s with heap := h1 }) ho1 ⟨hex.1, hex.2.1, hex.2.2⟩ rfl hin hsz1 T1.dm (by rw [hes, z3, q4]; rcases two with ⟨e, e2⟩ | ⟨e, e2⟩ <;> omega) nd1 tup1 ld1 (by rw [hlen]; exact hfew) b1 b2 b3 (by rw [hlen]; exact b4) ?_
          intro h2 L2 es2 ep2 t2 sb2 R2 pm2
          exact wpAny_pure (hQ true h2 L2 es2 ep2 t2 (sb.trans sb2) R2 (fun z => absurd z hm) fun _ => pm2.trans pm)
        rcases two with ⟨_, e2⟩ | ⟨_, e2⟩
        · exact big 31 (by rw [e2, size_20]) (.inr (.inl rfl)) (by rw [e2, size_20]; decide) (by omega)
        · exact big 127 (by rw [e2, size_76]) (.inr (.inr rfl)) (by rw [e2, size_76]; decide) (by omega)
      · refine wp_if_neg (by simp [hf]) ?_
        refine wpAny_pure (hQ true h1 L1 es1 (ep + 1) t1 sb ⟨⟨_, ho1, ⟨hex.1, hex.2.1, hex.2.2⟩, rfl⟩, hin, T1, nd1, tup1, ld1, ?_, by rw [hlen]; exact hfew⟩ (fun z => absurd z hm) fun _ => pm)
        have h := hf
        unfold SetTable.tooFull at h
        rw [decide_eq_true_eq, fill1] at h
        rw [hlen]
        omega
    by_cases hpl : t0.plain = true
    · refine wp_if_pos hpl ?_
      refine wpAny_bind (hash_row hx fun z => ?_)
      cases z
      · exact go { t0 with plain := false } rfl rfl rfl rfl
      · exact go t0 rfl rfl rfl rfl
    · refine wp_if_neg hpl ?_
      refine wpAny_bind (wpAny_pure ?_)
      exact (go t0 rfl rfl rfl rfl)
end
end Rw
end Ev

/-! set(list of rows), sorted. -/
namespace Ev
namespace Rw
open PySem PySem.Spec L2 PyProof.Rows
theorem metGo_up {B : Type} [DecidableEq B] : ∀ (l acc : List B), acc.length ≤ (metGo acc l).length
  | [], acc => Nat.le_refl _
  | x :: l, acc => by
    have h := metGo_up l (if x ∈ acc then acc else acc ++ [x])
    refine Nat.le_trans ?_ h
    split
    · exact Nat.le_refl _
    · simp
theorem met_up {B : Type} [DecidableEq B] (l r : List B) : (met l).length ≤ (met (l ++ r)).length := by
  unfold met
  rw [metGo_app]
  exact metGo_up r _
theorem met_take {B : Type} [DecidableEq B] (l : List B) (i : Nat) : (met (l.take i)).length ≤ (met l).length := by
  conv => rhs; rw [← List.take_append_drop i l]
  exact met_up _ _
/-- what the set has of the first i -/
structure Has (ks : List (Addr × Cl)) (i : Nat) (L : List (Addr × Cl)) : Prop where
  sub : ∀ p ∈ L, p ∈ ks
  all : (L.map (·.2)).Perm (met ((ks.take i).map (·.2)))
theorem Has.zero (ks : List (Addr × Cl)) : Has ks 0 [] := ⟨fun p h => (by cases h), by simp [met, metGo]⟩
theorem Has.next {ks L L' : List (Addr × Cl)} {i : Nat} {x : Addr × Cl} (g : Has ks i L) (h : ks[i]? = some x) (c1 : x.2 ∈ L.map (·.2) → L' = L) (c2 : x.2 ∉ L.map (·.2) → L'.Perm (x :: L)) : Has ks (i + 1) L' := by
  have e : (ks.take (i + 1)).map (·.2) = (ks.take i).map (·.2) ++ [x.2] := by rw [List.take_succ, h, List.map_append]; rfl
  by_cases hm : x.2 ∈ L.map (·.2)
  · obtain rfl := c1 hm
    refine ⟨g.sub, ?_⟩
    rw [e, met_snoc, if_pos (g.all.mem_iff.mp hm)]
    exact g.all
  · have pm := c2 hm
    refine ⟨fun p hp => ?_, ?_⟩
    · rcases List.mem_cons.mp (pm.mem_iff.mp hp) with rfl | z
      · exact List.mem_of_getElem? h
      · exact g.sub p z
    · rw [e, met_snoc, if_neg (fun z => hm (g.all.mem_iff.mpr z))]
      refine (pm.map (·.2)).trans ?_
      rw [List.map_cons]
      exact ((g.all.cons x.2)).trans (List.perm_append_singleton _ _).symm
section
variable {P : Program} {w : World} {A : Around} {E : Value → Shared → Prop} {s : Shared}
theorem St.keep {h h' : Heap} {a : Addr} {L : List (Addr × Cl)} {es : Array (Int × Value)} {ep : Nat} {t : SetTable} (R : St P w h a L es ep t) (ha : ∀ o, h.get? a = some o → h'.get? a = some o) (ht : ∀ p ∈ L, Is P w h' p.2 p.1) : St P w h' a L es ep t := by
  obtain ⟨o, ho, r⟩ := R.ob
  exact ⟨⟨o, ha o ho, r⟩, R.rows, R.tab, R.nd, ht, R.led, R.room, R.few⟩
theorem St.new {h : Heap} {a : Addr} (ho : h.get? a = some { cls := .type "set", dict := none, data := .set #[] 0 (.fresh 0 0 (!w.params.followText "set-order")) }) : St P w h a [] #[] 0 (.fresh 0 0 (!w.params.followText "set-order")) :=
  ⟨⟨_, ho, ⟨rfl, rfl, rfl⟩, rfl⟩, rfl, ⟨List.Pairwise.nil, rfl, rfl, .inl rfl, fun x hx => (by cases hx), fun i h j hi => (by simp at hi)⟩, List.nodup_nil, fun p hp => (by cases hp), by
    show _ ∨ (!w.params.followText "set-order") = true
    cases w.params.followText "set-order"
    · exact .inr rfl
    · exact .inl rfl, by show 0 * 5 < 7 * 3; decide, by show 0 < 64; decide⟩
/-- rows put to a new set, one by one -/
theorem set_loop {I : Addr} {fp wr : List Addr} {G : Array GenState → Array GenState → Prop} {n : Nat} {Pv : Nat → Value → Prop} {Sx : Nat → Shared → Prop} {R : Result → Shared → Prop}
    (W : WalksS P w A.in1 I fp wr G n Pv Sx) (S : Addr) (hSf : S ∉ fp) (ks : List (Addr × Cl)) (hn : n = ks.length) (hfew : (met (ks.map (·.2))).length < 64) (hval : ∀ i v, Pv i v → ∃ p, ks[i]? = some p ∧ v = .ref p.1)
    (h0 : Heap) (hk : ∀ p ∈ ks, Is P w h0 p.2 p.1) (hS0 : h0.get? S = none) (hw0 : ∀ b ∈ wr, h0.get? b = none) (hu : A.in1.units < cLine) :
    ∀ (k i : Nat) (s : Shared), n - i = k → i ≤ n → Sx i s → (∀ b o, h0.get? b = some o → s.heap.get? b = some o) → (∃ L es ep t, St P w s.heap S L es ep t ∧ Has ks i L) →
      (∀ s' L es ep t, Moved (S :: wr) G s s' → St P w s'.heap S L es ep t → Has ks n L → (∀ b o, h0.get? b = some o → s'.heap.get? b = some o) → R (.ok (.ret .none)) s') →
      codeAny (model P w) A (.builtin "set.update.loop" ⟨[.ref S, .ref I], []⟩) R s := by
  have notw : S ∉ wr := fun h => hSf (W.sub _ h)
  have sub : ∀ b ∈ wr, b ∈ S :: wr := fun b hb => List.mem_cons_of_mem _ hb
  have kp : ∀ {s s' : Shared}, Moved wr G s s' → (∀ b o, h0.get? b = some o → s.heap.get? b = some o) → ∀ b o, h0.get? b = some o → s'.heap.get? b = some o := fun hm z b o e =>
    hm.heap b o (fun hb => by rw [hw0 b hb] at e; cases e) (z b o e)
  intro k
  induction k with
  | zero =>
    intro i s hk' hi hst hkp ⟨L, es, ep, t, hS, g⟩ hR
    obtain rfl : i = n := by omega
    refine codeAny_builtin PyProof.Rows.F.entry_set_update_loop ?_
    rw [Around.under_plainId PyProof.Rows.F.plain_set_update_loop _]
    show wpAny _ A.in1 (pyNext (.ref I) >>= _) _ _ s
    refine wpAny_bind (W.done s _ _ hst fun s' hm => ?_)
    show wpAny _ A.in1 (ret Value.none) _ _ s'
    have hkp' := kp hm hkp
    exact wpAny_pure (hR s' L es ep t (hm.mono sub) (hS.keep (fun o e => hm.heap S o notw e) fun p hp => is_keep (hk p (g.sub p hp)) hkp') g hkp')
  | succ k ih =>
    intro i s hk' hi hst hkp ⟨L, es, ep, t, hS, g⟩ hR
    have hlt : i < n := by omega
    refine codeAny_builtin PyProof.Rows.F.entry_set_update_loop ?_
    rw [Around.under_plainId PyProof.Rows.F.plain_set_update_loop _]
    show wpAny _ A.in1 (pyNext (.ref I) >>= _) _ _ s
    refine wpAny_bind (W.item i s _ _ hlt hst fun v s' hP hst' hm => ?_)
    obtain ⟨p, hp, rfl⟩ := hval i v hP
    have hkp' := kp hm hkp
    have hS' : St P w s'.heap S L es ep t := hS.keep (fun o e => hm.heap S o notw e) fun q hq => is_keep (hk q (g.sub q hq)) hkp'
    have hx : Is P w s'.heap p.2 p.1 := is_keep (hk p (List.mem_of_getElem? hp)) hkp'
    have room : p.2 ∉ L.map (·.2) → L.length + 1 < 64 := fun hm => by
      have e : (ks.take (i + 1)).map (·.2) = (ks.take i).map (·.2) ++ [p.2] := by rw [List.take_succ, hp, List.map_append]; rfl
      have h1 : (met ((ks.take (i + 1)).map (·.2))).length = L.length + 1 := by
        rw [e, met_snoc, if_neg (fun z => hm (g.all.mem_iff.mpr z)), List.length_append, ← g.all.length_eq, List.length_map]; rfl
      have h2 := met_take (ks.map (·.2)) (i + 1)
      rw [← List.map_take] at h2
      omega
    show wpAny _ A.in1 (holding [Value.ref p.1] (setAdd S (.ref p.1)) >>= _) _ _ s'
    refine wpAny_bind (wpAny_holding ?_)
    unfold setAdd
    refine wpAny_holding ?_
    refine wpAny_bind (wpAny_pyHash_tuple hu hx ?_)
    refine add_row (s := { s' with toks := s'.toks + (p.2.length + 1) }) hS' hx hu room fun b h' L' es' ep' t' hsb hS2 c1 c2 => ?_
    have hkp2 : ∀ b o, h0.get? b = some o → h'.get? b = some o := fun b o e => (hsb.2 b (fun z => by rw [z, hS0] at e; cases e)).trans (hkp' b o e)
    refine wpAny_pure ⟨plainId_quiet PyProof.Rows.F.plain_set_update_loop _, ih (i + 1) _ (by omega) hlt (W.frame _ s' _ _ hst' (Nat.le_add_right _ _) fun b hb o e => ?_) hkp2 ⟨L', es', ep', t', hS2, g.next hp c1 c2⟩ fun s'' L2 es2 ep2 t2 hm'' hS'' g'' hkp'' => ?_⟩
    · rw [hsb.2 b (fun h : b = S => hSf (by rw [← h]; exact hb))]; exact e
    · refine hR s'' L2 es2 ep2 t2 (Moved.trans W.gtrans ((hm.mono sub).then_heap (Nat.le_add_right _ _) fun b o hb e => ?_) hm'') hS'' g'' hkp''
      rw [hsb.2 b (fun h : b = S => hb (by rw [h]; exact List.mem_cons_self))]; exact e
/-- set(list of rows) -/
theorem set_rows {l : Addr} {items : Array Value} (ks : List (Addr × Cl)) {Q : Value → Shared → Prop} (hh : A.handled = none) (hl : s.heap.IsList l items) (hit : items.toList = ks.map fun p => Value.ref p.1)
    (hk : ∀ p ∈ ks, Is P w s.heap p.2 p.1) (hfew : (met (ks.map (·.2))).length < 64) (hu : A.units + 3 < cLine)
    (h : ∀ (h' : Heap) (tk : Nat) L es ep t, St P w h' s.heap.objs.size L es ep t → Has ks ks.length L → (∀ b o, s.heap.get? b = some o → h'.get? b = some o) → Q (.ref s.heap.objs.size) { s with heap := h', toks := tk }) :
    wpAny (model P w) A (call (.type "set") [.ref l]) Q E s := by
  have hisz : items.size = ks.length := by
    have q := congrArg List.length hit
    rw [Array.length_toList, List.length_map] at q
    exact q
  obtain ⟨cc, tl, hmro⟩ := PySem.F.called_set.mro
  have m0 := PySem.F.called_set.made
  have m1 := PySem.F.called_set.sub
  refine wpAny_call (codeAny_of_tree ?_)
  show wpAny _ _ (callAny (.type "set") _) _ _ _
  refine wpAny_pure ⟨Code.quiet_builtin _ (by decide +kernel), codeAny_builtin PySem.F.entry_type_call ?_⟩
  rw [Around.under_plain (weight_type_call_type "set" [.ref l] []) rfl]
  have m2 := PySem.F.called_set.notType
  have m3 := PySem.F.called_set.canCreate
  have m4 := PySem.F.typeCall_set_1 (.ref l)
  repeat (any_goals (first | assumption | wp_step))
  refine codeAny_mono (code_set_led1 (.ref l) (E := E) (Q₁ := fun obj s₁ => obj = .ref s.heap.objs.size ∧
    s₁ = { s with heap := s.heap.push { cls := .type "set", dict := none, data := .set #[] 0 (.fresh 0 0 (!w.params.followText "set-order")) } }) ⟨rfl, rfl⟩) fun r s₁ hr => ?_
  cases r with
  | error e => exact hr
  | ok fl =>
    cases fl with
    | ret obj =>
      obtain ⟨rfl, rfl⟩ := hr
      generalize hH : s.heap.push { cls := .type "set", dict := none, data := .set #[] 0 (.fresh 0 0 (!w.params.followText "set-order")) } = H1
      have hS : H1.get? s.heap.objs.size = some { cls := .type "set", dict := none, data := .set #[] 0 (.fresh 0 0 (!w.params.followText "set-order")) } := by rw [← hH]; exact Heap.get?_push_size _ rfl
      have hz1 : H1.objs.size = s.heap.objs.size + 1 := by rw [← hH, Heap.size_push]
      have old : ∀ b o, s.heap.get? b = some o → H1.get? b = some o := fun b o e => by rw [← hH]; exact Heap.get?_push_of_some _ e
      have hT : Shared.TypeIs { s with heap := H1 } (.ref s.heap.objs.size) "set" := ⟨_, hS, rfl⟩
      have q1 := PySem.F.called_set.init.lookup
      have q2 := PySem.F.called_set.init.bind (.ref s.heap.objs.size)
      repeat (any_goals (first | assumption | wp_step))
      refine codeAny_mono (codeAny_call_builtin (R := wants (fun r s₂ => r = .none ∧ ∃ h' tk L es ep t, s₂ = { s with heap := h', toks := tk } ∧ St P w h' s.heap.objs.size L es ep t ∧ Has ks ks.length L ∧
          (∀ b o, s.heap.get? b = some o → h'.get? b = some o)) E) PySem.F.called_set.init.plain PySem.F.entry_set_init (check_set_init_1 hT ?_)) fun r₂ s₂ hr₂ => ?_
      · have hl1 : H1.IsList l items := by
          obtain ⟨ol, hol, hcl, nl, hdl⟩ := hl
          exact ⟨ol, old _ _ hol, hcl, nl, hdl⟩
        have hlS : l < s.heap.objs.size := by
          obtain ⟨ol, hol, _⟩ := hl
          exact Heap.lt_size hol
        obtain ⟨ol, hol, hcl, nl, hdl⟩ := id hl1
        obtain ⟨ocls, odict, odata, oslots⟩ := ol
        simp only at hcl hdl
        subst hcl
        subst hdl
        have r1 := PySem.F.sub_list_set
        have r2 := PySem.F.sub_list_frozenset
        have r3 : (Value.type "list" == Value.type "dict") = false := by decide
        unfold Builtin.«set.__init__» noKeywords Builtin.Frozenset.updateFrom
        generalize hPI : pyIter = PI
        wp_walk
        subst hPI
        refine wpAny_pyIter_list hl1 ?_
        refine wpAny_bind (wpAny_runValue ?_)
        have hh3 : A.in1.in1.in1.handled = none := by simp [hh]
        have hneI : l ≠ H1.objs.size := by rw [hz1]; exact Nat.ne_of_lt (Nat.lt_succ_of_lt hlS)
        have hSf : s.heap.objs.size ∉ [H1.objs.size, l] := by
          rw [hz1]
          simp only [List.mem_cons, List.mem_singleton, List.not_mem_nil, or_false, not_or]
          exact ⟨Nat.ne_of_lt (Nat.lt_succ_self _), Nat.ne_of_gt hlS⟩
        have hval : ∀ (i : Nat) (v : Value), items[i]? = some v → ∃ p, ks[i]? = some p ∧ v = .ref p.1 := fun i v hv => by
          have q : items.toList[i]? = some v := by rw [Array.getElem?_toList]; exact hv
          rw [hit, List.getElem?_map] at q
          obtain ⟨p, e1, e2⟩ := Option.map_eq_some_iff.mp q
          exact ⟨p, e1, e2.symm⟩
        have none_of : ∀ b, s.heap.objs.size ≤ b → s.heap.get? b = none := fun b hb => by
          cases q : s.heap.get? b with
          | none => rfl
          | some o => exact absurd (Nat.lt_of_lt_of_le (Heap.lt_size q) hb) (Nat.lt_irrefl _)
        refine set_loop ((Walks.list hh3 _ l hneI items).toS) s.heap.objs.size hSf ks hisz hfew hval s.heap hk (none_of _ (Nat.le_refl _)) (fun b hb => none_of b (by
            rw [List.mem_singleton.mp hb, hz1]
            exact Nat.le_succ _)) hu (items.size - 0) 0 _ (by omega) (Nat.zero_le _)
          ⟨⟨_, Heap.get?_push_size _ rfl, rfl, rfl⟩, (hl1.push _)⟩ (fun b o e => Heap.get?_push_of_some _ (old b o e)) ?hS0 ?hR
        case hS0 =>
          have hget : (H1.push { cls := .type "list_iterator", data := .fields #[.ref l, .int 0 0] }).get? s.heap.objs.size = some { cls := .type "set", dict := none, data := .set #[] 0 (.fresh 0 0 (!w.params.followText "set-order")) } := Heap.get?_push_of_some _ hS
          exact ⟨[], #[], 0, _, St.new hget, Has.zero ks⟩
        case hR =>
          intro s' L es ep t hm hS' g' hkp
          obtain ⟨h', g2, d', tk', os'⟩ := s'
          have eg : g2 = s.gens := hm.gens
          have ed : d' = s.drawn := hm.drawn
          have eo : os' = s.os := hm.os
          subst eg
          subst ed
          subst eo
          show wpAny _ _ _ _ _ _
          refine wpAny_pure ?_
          show wpAny _ _ (ret Value.none) _ _ _
          rw [hisz] at g'
          exact wpAny_pure ⟨rfl, h', tk', L, es, ep, t, rfl, hS', g', hkp⟩
      · cases r₂ with
        | error e => exact hr₂
        | ok fl₂ =>
          cases fl₂ with
          | ret r =>
            obtain ⟨rfl, h', tk, L, es, ep, t, rfl, hS', g', hk'⟩ := hr₂
            repeat (any_goals (first | assumption | wp_step))
            exact h _ _ _ _ _ _ hS' g' hk'
          | _ => exact hr₂.elim
    | _ => exact hr.elim
/-- sorted(set of rows) -/
theorem sorted_set {ad : Addr} {L : List (Addr × Cl)} {es : Array (Int × Value)} {ep : Nat} {t : SetTable} {ltv : Value → Value → Bool} {Q : Value → Shared → Prop} (O : SrtO.Swo ltv) (R : St P w s.heap ad L es ep t) (hh : A.handled = none)
    (hS : ∀ (vs : List Value) (s1 : Shared) (b : Addr), (∀ c o, s.heap.get? c = some o → s1.heap.get? c = some o) → s.heap.objs.size ≤ b → vs.Perm (L.map fun p => Value.ref p.1) → 2 ≤ vs.length → SrtO.SortableO P w A.in1.in1 s1 b vs ltv)
    (hQ : ∀ s' p (out : List Value) (c : Nat), (∀ b ob, s.heap.get? b = some ob → s'.heap.get? b = some ob) → s'.gens = s.gens → s'.os = s.os → s.heap.objs.size ≤ p →
      s'.heap.get? p = some (seqObj "list" out.toArray c) → SrtO.Srtd ltv out → out.Perm (L.map fun p => Value.ref p.1) → Q (.ref p) s') :
    wpAny (model P w) A (call (.builtin "sorted") [.ref ad]) Q E s := by
  obtain ⟨ob, g1, g2, g3⟩ := R.ob
  have hsz := ents_len R.rows
  have hfew := R.few
  refine Calls.call_function_entry kind_sorted plain_sorted entry_sorted (args_sorted1 _) ?_
  unfold Builtin.«sorted»
  refine wpAny_bind (m := checkCount "sorted" 1 1 _) (wpAny_pure ?_)
  refine wpAny_bind (collect_set (A := A.in1) hh ⟨ob, g1, g2.1, g3⟩ R.fits (by unfold scanBound; omega) R.tab.ris R.led fun s1 vs k1 hz e1 o1 pm => ?_)
  have hes : es.toList.map (·.2) = L.map fun q => Value.ref q.1 := by
    rw [R.rows, ents, List.map_map]; rfl
  rw [hes] at pm
  have hle : vs.length ≤ sizeLine := by rw [pm.length_eq, List.length_map, sizeLine_eq]; omega
  refine wpAny_bind (wpAny_newList ?_ hle)
  have hoL : (s1.heap.push (seqObj "list" vs.toArray 0)).get? s1.heap.objs.size = some (seqObj "list" vs.toArray 0) := Heap.get?_push_size _ rfl
  refine wpAny_bind (wpAny_holding (wpAny_call_entry slot_list_sort ⟨_, hoL, rfl⟩ entry_list_sort (SrtO.list_sort_ord O hoL hle (fun h2 => hS vs _ _ (fun c o e => Heap.get?_push_of_some _ (k1 c o e)) hz pm h2) fun out a1 a2 => ⟨_, rfl, ?_⟩) (args_list_sort _)))
  obtain ⟨c, hc⟩ := sortedHeap_at (vs := vs) (out := out.toArray) hoL
  refine wpAny_pure ⟨_, rfl, hQ _ s1.heap.objs.size out c (fun b u e => ?_) e1 o1 hz hc a1 (a2.perm.trans pm)⟩
  have q := k1 b u e
  have hlt := Heap.lt_size q
  show (sortedHeap (s1.heap.push (seqObj "list" vs.toArray 0)) s1.heap.objs.size vs out.toArray).get? b = some u
  rw [sortedHeap_old (Nat.ne_of_lt hlt) (by rw [size_push']; exact Nat.lt_succ_of_lt hlt)]
  exact Heap.get?_push_of_some _ q
end
end Rw
end Ev

/-! Rows and their keys. -/
namespace Ev
open PySem PySem.Spec L2 PyProof.Rows RZ
def kyC : Cell → Key
  | .inl i => .inl i
  | .inr l => .inr (tx l)
def unkyC : Key → Cell
  | .inl i => .inl i
  | .inr x => .inr x.cps.toList
theorem unky_ky (c : Cell) : unkyC (kyC c) = c := by
  cases c <;> rfl
def rowK (c : List Cell) : Rw.Cl := c.map kyC
def unrowK (c : Rw.Cl) : List Cell := c.map unkyC
theorem unrow_row (c : List Cell) : unrowK (rowK c) = c := by
  unfold unrowK rowK
  rw [List.map_map]
  conv => rhs; rw [← List.map_id c]
  exact List.map_congr_left fun x _ => unky_ky x
theorem rowK_inj (a b : List Cell) (h : rowK a = rowK b) : a = b := by rw [← unrow_row a, h, unrow_row]
theorem perm_rowK {a b : List (List Cell)} (h : (a.map rowK).Perm (b.map rowK)) : a.Perm b := by
  have e2 : ∀ l : List (List Cell), (l.map rowK).map unrowK = l := fun l => by
    rw [List.map_map]
    conv => rhs; rw [← List.map_id l]
    exact List.map_congr_left fun x _ => unrow_row x
  have := h.map unrowK
  rw [e2, e2] at this
  exact this
theorem metGo_inj {A B : Type} [DecidableEq A] [DecidableEq B] (f : A → B) (hf : ∀ a b, f a = f b → a = b) : ∀ (l acc : List A), metGo (acc.map f) (l.map f) = (metGo acc l).map f
  | [], acc => rfl
  | x :: l, acc => by
    show metGo (if f x ∈ acc.map f then acc.map f else acc.map f ++ [f x]) (l.map f) = (metGo (if x ∈ acc then acc else acc ++ [x]) l).map f
    have e : f x ∈ acc.map f ↔ x ∈ acc := by
      constructor
      · intro h
        obtain ⟨y, hy, e⟩ := List.mem_map.mp h
        rw [← hf _ _ e]; exact hy
      · intro h; exact List.mem_map.mpr ⟨x, h, rfl⟩
    by_cases h : x ∈ acc
    · rw [if_pos (e.mpr h), if_pos h]; exact metGo_inj f hf l acc
    · rw [if_neg (fun z => h (e.mp z)), if_neg h]
      have := metGo_inj f hf l (acc ++ [x])
      rw [List.map_append] at this
      exact this
theorem met_inj {A B : Type} [DecidableEq A] [DecidableEq B] (f : A → B) (hf : ∀ a b, f a = f b → a = b) (l : List A) : met (l.map f) = (met l).map f := metGo_inj f hf l []
theorem rowS_rowD (c : List Cell) : rowS (rowD c) = c := by
  unfold rowS rowD
  rw [List.map_map]
  conv => rhs; rw [← List.map_id c]
  exact List.map_congr_left fun x _ => by cases x <;> rfl
theorem rowD_rowS : ∀ {r : List D} {ks : List Bool}, rowKs r = some ks → rowD (rowS r) = r
  | [], _, _ => rfl
  | d :: r, ks, h => by
    obtain ⟨b, b1, b2⟩ := Option.bind_eq_some_iff.mp (show (cellK d).bind _ = some ks from h)
    obtain ⟨k1, b3, rfl⟩ := Option.map_eq_some_iff.mp b2
    show cellD (cellS d) :: rowD (rowS r) = d :: r
    rw [rowD_rowS b3]
    cases d <;> first | rfl | (cases b1; done)
section
variable {X : Cx} {pins : List (Addr × Obj)} {σ : L2.St} {H F : Hp} {s : Shared} {w : World} {K : PySem.W.Frag}
theorem items_is {P : Program} {w' : World} : ∀ {r : List D} {cs : List V} {its : List Value} {ks : List Bool}, Reps K w F r cs → Vals cs its → rowKs r = some ks → ItemsAre (mixKind P w') (rowK (rowS r)) its
  | [], cs, its, ks, h, v, _ => by
    rw [show cs = [] from h] at v
    cases v; exact .nil
  | d :: r, cs, its, ks, ⟨c, cr, e, g1, g2⟩, v, hk => by
    subst e
    cases v with
    | cons rv vt =>
      obtain ⟨b, b1, b2⟩ := Option.bind_eq_some_iff.mp (show (cellK d).bind _ = some ks from hk)
      obtain ⟨k1, b3, rfl⟩ := Option.map_eq_some_iff.mp b2
      have ih := items_is (P := P) (w' := w') g2 vt b3
      cases d with
      | int n =>
        obtain rfl : c = .int n := g1
        obtain ⟨t, rfl⟩ := rv
        exact .cons (mixKind_int _ _ _ _) ih
      | str l =>
        obtain ⟨rfl, _⟩ := g1
        obtain ⟨t, rfl⟩ := rv
        exact .cons (mixKind_str _ _ _ _) ih
      | _ => cases b1
theorem row_is (I : L2.Inv X pins σ H s) (hs : Same F H) {r : List D} {v : V} {u : Value} {ks : List Bool} (hr : Rep X.K w F (.tup r) v) (rv : RelV v u) (hk : rowKs r = some ks) :
    ∃ a, u = .ref a ∧ Rw.Is X.prog X.w s.heap (rowK (rowS r)) a := by
  obtain ⟨a, cs, rfl, sq, hc⟩ := hr
  cases rv
  obtain ⟨its, vv, ⟨o, ho, hcl, n, hd⟩, _⟩ := I.tuple (Same.tup hs sq)
  exact ⟨a, rfl, o, its.toArray, n, ho, hcl, hd, by simpa using items_is hc vv hk⟩
theorem rows_keys (I : L2.Inv X pins σ H s) (hs : Same F H) {ks : List Bool} : ∀ {rs : List (List D)} {vs : List V} {us : List Value}, Reps X.K w F (rs.map D.tup) vs → Vals vs us → (∀ r ∈ rs, rowKs r = some ks) →
    ∃ kk : List (Addr × Rw.Cl), us = kk.map (fun p => Value.ref p.1) ∧ kk.map (·.2) = (rs.map rowS).map rowK ∧ ∀ p ∈ kk, Rw.Is X.prog X.w s.heap p.2 p.1
  | [], vs, us, h, v, _ => by
    rw [show vs = [] from h] at v
    cases v
    exact ⟨[], rfl, rfl, fun p hp => by cases hp⟩
  | r :: rs, vs, us, ⟨c, cr, e, g1, g2⟩, v, hk => by
    subst e
    cases v with
    | cons r1 vt =>
      obtain ⟨kk, h1, h2, h3⟩ := rows_keys I hs g2 vt fun q hq => hk q (List.mem_cons_of_mem _ hq)
      obtain ⟨a, rfl, ha⟩ := row_is I hs g1 r1 (hk r List.mem_cons_self)
      refine ⟨(a, rowK (rowS r)) :: kk, by rw [List.map_cons, h1], by rw [List.map_cons, List.map_cons, List.map_cons, h2], fun p hp => ?_⟩
      rcases List.mem_cons.mp hp with rfl | hp
      · exact ha
      · exact h3 p hp
/-- sorted(set(l)), l a list of rows -/
theorem sortset_rows {a : Addr} {vs : List V} {rs : List (List D)} {k : Bool} {ks : List Bool} {Q : VK} {E : Value → Shared → Prop} {QQ : Value → Shared → Prop} (calm : X.calm = true) (hu : X.A.units + 65 < cLine) (I1 : L2.Inv X pins σ H s) (hs : Same F H) (hF : F a = some (.lst vs)) (hr : Reps X.K X.w F (rs.map D.tup) vs)
    (hk : ∀ r ∈ rs, rowKs r = some (k :: ks)) (hfew : (met (rs.map rowS)).length < 64)
    (q : ∀ p ws, H p = none → Reps X.K X.w F ((srtR ((met (rs.map rowS)).map rowD)).map D.tup) ws → Q (.ref p) (upd H p (.lst ws)))
    (hq : ∀ v s', L2.EP X pins σ Q v s' → QQ v s') :
    wpAny (model X.prog X.w) X.A (call (.type "set") [.ref a]) (fun v s' => wpAny (model X.prog X.w) X.A (call (.builtin "sorted") [v]) QQ E s') E s := by
  obtain ⟨its, rv, pl, _⟩ := I1.list (SqL.of (hs _ _ hF))
  obtain ⟨kk, k1, k2, k3⟩ := rows_keys I1 hs hr rv hk
  have em : met (kk.map (·.2)) = (met (rs.map rowS)).map rowK := by rw [k2]; exact met_inj rowK rowK_inj _
  refine Rw.set_rows kk (I1.ok.hd calm) pl.isList (by rw [← k1]) k3 (by rw [em, List.length_map]; exact hfew) (by omega) fun h' tk L es ep t R g kp => ?_
  have I2 : L2.Inv X pins σ H { s with heap := h', toks := tk } := I1.kept kp
  have each := vals_rows hr rv
  have key1 : ∀ r ∈ rs, ∀ v u, RelV v u → Rep X.K X.w F (.tup r) v → keyV h' (k :: ks) u = rowS r := fun r hx v u h1 h2 => by
    obtain ⟨b, o, rfl, ho, hh⟩ := row_key I2 hs h2 h1 (hk r hx)
    unfold keyV
    rw [(hh h' ho).1]; rfl
  have hin : ∀ p ∈ L, Value.ref p.1 ∈ its := fun p hp => by rw [k1]; exact List.mem_map.mpr ⟨p, g.sub p hp, rfl⟩
  have keyL : ∀ p ∈ L, rowK (keyV h' (k :: ks) (Value.ref p.1)) = p.2 := fun p hp => by
    obtain ⟨v, r, hx, g1, g2⟩ := each _ (hin p hp)
    rw [key1 r hx v _ g1 g2]
    obtain ⟨b, e, hb⟩ := row_is I2 hs g2 g1 (hk r hx)
    injection e with e
    subst e
    exact hb.inj (R.tup p hp)
  have permK : (L.map fun p => keyV h' (k :: ks) (Value.ref p.1)).Perm (met (rs.map rowS)) := by
    have e1 : L.map (·.2) = (L.map fun p => keyV h' (k :: ks) (Value.ref p.1)).map rowK := by
      rw [List.map_map]
      exact List.map_congr_left fun p hp => (keyL p hp).symm
    have z := g.all
    rw [List.take_length, em, e1] at z
    exact perm_rowK z
  refine Rw.sorted_set (swo_rows h' (k :: ks)) R (I2.ok.hd calm) (fun us s3 b kp3 hb pm h2 h'' keep => ?_) fun s' pp out c kp3 e1 o1 hp hc hso pm => hq _ _ ?_
  · have ht : ∀ v ∈ us, tupKey h'' (shp (k :: ks)) v = some (keyV h' (k :: ks) v) ∧ ∃ f, TupOf h'' (shp (k :: ks)) v f := fun v hv => by
      obtain ⟨p, hp, rfl⟩ := List.mem_map.mp (pm.mem_iff.mp hv)
      obtain ⟨vv, r, hx, g1, g2⟩ := each _ (hin p hp)
      obtain ⟨d, o, ed, ho, hh⟩ := row_key I2 hs g2 g1 (hk r hx)
      injection ed with ed
      subst ed
      have ho' : h'.get? p.1 = some o := ho
      obtain ⟨w1, w2⟩ := hh h'' (keep p.1 o (fun z => by
        have h1 : p.1 < h'.objs.size := Heap.lt_size ho'
        have hb' : h'.objs.size ≤ b := hb
        rw [z] at h1
        exact absurd (Nat.lt_of_lt_of_le h1 hb') (Nat.lt_irrefl _)) (kp3 _ _ ho'))
      refine ⟨?_, w2⟩
      rw [w1]
      unfold keyV
      rw [(hh h' ho').1]; rfl
    obtain ⟨fs, f1, f2⟩ := tups_of fun v hv => (ht v hv).2
    refine ⟨tuples' true, fun Q E hq => tup_kind (s := { s3 with heap := h'' }) (by omega) f1 hq, fun x y hx hy => ?_⟩
    exact tup_ltAt (s := { s3 with heap := h'' }) true _ _ _ _ _ _ (ht _ hx).1 (ht _ hy).1 ⟨rfl, rfl⟩
  · have hk' : ∀ x ∈ (met (rs.map rowS)).map rowD, rowKs x = some (k :: ks) := fun x hx => by
      obtain ⟨c, hc, rfl⟩ := List.mem_map.mp hx
      have hc' : c ∈ rs.map rowS := by
        rcases List.mem_map.mp (permK.mem_iff.mpr hc) with ⟨p, hp, rfl⟩
        obtain ⟨v, r, hx, g1, g2⟩ := each _ (hin p hp)
        rw [key1 r hx v _ g1 g2]
        exact List.mem_map_of_mem hx
      obtain ⟨r, hr, rfl⟩ := List.mem_map.mp hc'
      rw [rowD_rowS (hk r hr)]
      exact hk r hr
    have hp2 : (out.map (keyV h' (k :: ks))).Perm ((srtR ((met (rs.map rowS)).map rowD)).map rowS) := by
      refine (pm.map _).trans ?_
      rw [List.map_map]
      refine (show (L.map fun p => keyV h' (k :: ks) (Value.ref p.1)).Perm _ from permK.trans ?_)
      refine List.Perm.trans ?_ ((srtR_perm _).map rowS).symm
      rw [List.map_map]
      have e2 : (met (rs.map rowS)).map (rowS ∘ rowD) = met (rs.map rowS) := by
        conv => rhs; rw [← List.map_id (met (rs.map rowS))]
        exact List.map_congr_left fun x _ => rowS_rowD x
      rw [e2]
    have hsr : (out.map (keyV h' (k :: ks))).Pairwise (fun x y => LtK y x = false) := List.Pairwise.map _ (fun _ _ h => h) hso
    have e := cells_unique hp2 hsr (srtR_sorted _ hk')
    obtain ⟨ws, w1, w2⟩ := out_rows (K := X.K) (w := X.w) (F := F) (ks := k :: ks) e (fun r hx => hk' r ((srtR_perm _).mem_iff.mp hx)) fun u hu => by
      obtain ⟨p, hp, rfl⟩ := List.mem_map.mp (pm.mem_iff.mp hu)
      obtain ⟨v, r, hx, g1, g2⟩ := each _ (hin p hp)
      exact ⟨v, r, g1, g2, hk r hx, key1 r hx v _ g1 g2⟩
    have hwl : ws.length ≤ sizeLine := by
      have h1 := w2.length
      rw [List.length_map, (srtR_perm _).length_eq, List.length_map] at h1
      rw [sizeLine_eq]; omega
    obtain ⟨J, hn⟩ := end_lst I2 kp3 e1 o1 hp hwl w1 hc
    exact ⟨.ref pp, _, J, rfl, q _ ws hn w2⟩
end
end Ev

/-! sorted(set(l)). -/
namespace Ev
open PySem PySem.Spec L2 PyProof.Rows RZ
theorem dSortset0_ne (d : D) (k : Nat) : dSortset0 d ≠ .ex k := by unfold dSortset0; split <;> first | (intro h; cases h; done) | (split <;> first | (intro h; cases h; done) | (split <;> first | (intro h; cases h; done) | (split <;> (intro h; cases h))))
theorem dSortset_ne (d : D) (k : Nat) : dSortset d ≠ .ex k := by
  unfold dSortset
  split
  · split
    · intro h; cases h
    · exact dSortset0_ne _ _
  · exact dSortset0_ne _ _
theorem metGo_mem {A : Type} [DecidableEq A] {b : A} : ∀ (l acc : List A), b ∈ metGo acc l → b ∈ acc ∨ b ∈ l
  | [], acc, h => .inl h
  | x :: l, acc, h => by
    rcases metGo_mem l (if x ∈ acc then acc else acc ++ [x]) h with h1 | h1
    · split at h1
      · exact .inl h1
      · rcases List.mem_append.mp h1 with h2 | h2
        · exact .inl h2
        · exact .inr (by rw [List.mem_singleton.mp h2]; exact List.mem_cons_self)
    · exact .inr (List.mem_cons_of_mem _ h1)
theorem met_mem {A : Type} [DecidableEq A] {b : A} {l : List A} (h : b ∈ met l) : b ∈ l := by
  rcases metGo_mem l [] h with h | h
  · cases h
  · exact h
theorem vals_at {xs : List V} {us : List Value} (r : Vals xs us) : ∀ (i : Nat) (v : Value), us[i]? = some v → ∃ x, xs[i]? = some x ∧ RelV x v := by
  induction r with
  | nil => intro i v h; simp at h
  | cons h t ih =>
    intro i v hv
    cases i with
    | zero => cases hv; exact ⟨_, rfl, h⟩
    | succ i => exact ih i v hv
section
variable {nm : Nm} {X : Cx} {C : Ct} {a : Expr} {ta : E} {p p2 q pos : Pos}
theorem s_sortset (G : Gd nm X C) (hg : Gl X "sorted") (hg2 : Gl X "set") (ha : PE X a (C.rd ta)) (ns : NoStar a) : PE X (.Call (.Name "sorted" p) [.Call (.Name "set" p2) [a] [] q] [] pos) (C.rd (.bi1 .sortset ta)) := by
  have hm : X.mg "sorted" = none := G.blt _ (by decide +kernel)
  have hm2 : X.mg "set" = none := G.blt _ (by decide +kernel)
  have na := ns [] X.env
  refine ⟨fun pins s σ H Q I ⟨env, F, he, hs, qq⟩ => ?_⟩
  have key : C.rd ta σ H fun v H1 => ∃ F1 d, Ext F H F1 H1 ∧ Rep C.K C.w F1 d v ∧ fin C.K C.w (dSortset d) F1 H1 Q (fun c H' => C.W (.ref (C.ca c)) none σ H') :=
    ⟨env, F, he, hs, fin_bind (show fin C.K C.w ((ev C.glob C.fn ta env).bind fun x => dSortset x) F H Q _ from qq) fun d v F1 H1 e1 x1 r1 q1 => ⟨F1, d, x1, r1, q1⟩⟩
  refine Call_ (ld_blt I.toInv hg hm boot_sorted ?_)
  refine PyProof.Rows.callWith_builtin1 (PyProof.Rows.args_cons ?_ rfl) rfl rfl
  refine Call_ (ld_blt I.toInv hg2 hm2 boot_set ?_)
  refine PyProof.Rows.callWith_type1 (PyProof.Rows.args_cons (thn (ha.run pins s σ H _ I key) fun v s1 ⟨x, H1, I1, r1, F1, d, x1, rd, q1⟩ => PyProof.Rows.args_nil ?_) na) na rfl
  have q1 : (∃ ds rs, d = .lst ds ∧ setRows ds = some rs ∧ fin C.K C.w (.ok (.lst (rs.map D.tup))) F1 H1 Q (fun c H' => C.W (.ref (C.ca c)) none σ H')) ∨ fin C.K C.w (dSortset0 d) F1 H1 Q (fun c H' => C.W (.ref (C.ca c)) none σ H') := by
    unfold dSortset at q1
    split at q1
    · split at q1
      · rename_i ds _ rs hrs
        exact .inl ⟨ds, rs, rfl, hrs, q1⟩
      · exact .inr q1
    · exact .inr q1
  first | refine upE I1.tk ?_ | refine up1 I1.tk ?_ | refine up2 I1.tk ?_ | refine up3 I1.tk ?_
  replace I1 := I1.toInv
  rcases q1 with ⟨ds, rs0, rfl, hrs, q1⟩ | q1
  · unfold setRows at hrs
    split at hrs <;> first | (cases hrs; done) | skip
    rename_i r0 rest hro
    split at hrs <;> first | (cases hrs; done) | skip
    rename_i k ks hkk
    split at hrs <;> first | (cases hrs; done) | skip
    rename_i hc
    rw [Bool.and_eq_true, Bool.and_eq_true, decide_eq_true_eq, decide_eq_true_eq] at hc
    injection hrs with hrs
    subst hrs
    have hk : ∀ x ∈ r0 :: rest, rowKs x = some (k :: ks) := fun x hx => by
      have := List.all_eq_true.mp hc.1.1 x hx
      simpa using this
    have ed := rowsOf_eq hro
    obtain ⟨l, vs, rfl, hF, hr⟩ := rd
    cases r1
    rw [ed] at hr
    have hK : C.K = X.K := G.hK.symm
    have hw : C.w = X.w := G.hw.symm
    rw [hK, hw] at hr q1
    exact thn (sortset_rows G.calm G.hu I1 x1.inH hF hr hk hc.2 (fun p ws hn hw => fin_lst q1 x1.inH hw p hn) fun v s' z => z) fun v s2 z => PyProof.Rows.args_nil z
  unfold dSortset0 at q1
  split at q1 <;> first | exact False.elim q1 | skip
  split at q1 <;> first | exact False.elim q1 | skip
  rename_i xs hsm
  obtain ⟨l, vs, rfl, hF, hr⟩ := rd
  cases r1
  obtain ⟨its, r, pl, hz⟩ := I1.list (SqL.of (x1.inH _ _ hF))
  have hlen : its.toArray.size = vs.length := by rw [List.size_toArray, ← r.length]
  have hls := hr.length
  have hb : its.toArray.size + 1 < scanBound := by rw [hlen, ← hls]; unfold scanBound; omega
  split at q1
  · rename_i ks hks
    have e1 := ints_of hks hr
    subst e1
    have hkl : ks.length = its.toArray.size := by rw [hlen, List.length_map]
    refine set_ofG (knd := intKind X.prog X.w) 0 (I1.ok.hd G.calm) pl.isList hkl (fun i v hv => ?_) hb fun h' tk hS hk => ?_
    · obtain ⟨x, hx, rx⟩ := vals_at r i v (by simpa using hv)
      rw [List.getElem?_map] at hx
      obtain ⟨k, hk, rfl⟩ := Option.map_eq_some_iff.mp hx
      obtain ⟨t, rfl⟩ := rx
      rw [List.getD_eq_getElem?_getD, hk]
      exact ⟨intKind_is _ _ _ _, rfl⟩
    · refine PyProof.Rows.args_nil ?_
      have I2 : L2.Inv X pins σ H1 { s1 with heap := h', toks := tk } := I1.kept fun b o e => hk b o (Heap.lt_size e) e
      refine sorted_setG SrtO.swo_int hS (I2.ok.hd G.calm) (fun us s3 b pk h2 => SrtO.ints_sortable (SrtO.ints_iv (kyv_ints pk)) h2) fun s' pp out c k g o hp hg0 hs0 pk => ?_
      obtain ⟨z1, z2, z3⟩ := ints_end (kyv_ints pk) hs0 pk
      have e2 := ints_unique (z2.trans (srtI_perm (met ks)).symm) z3 (srtI_upw _)
      rw [e2] at z1
      have hl2 : ((srtI (met ks)).map V.int).length ≤ sizeLine := by
        have := met_len ks
        rw [List.length_map, (srtI_perm _).length_eq, sizeLine_eq]
        unfold scanBound at hb
        omega
      obtain ⟨J, hn⟩ := end_lst I2 k g o hp hl2 (vals_of_ints z1) hg0
      exact ⟨.ref pp, _, J, rfl, fin_lst (show fin C.K C.w (.ok (.lst ((srtI (met ks)).map D.int))) F1 H1 Q _ from q1) x1.inH (ints_reps _) pp hn⟩
  · split at q1 <;> first | exact False.elim q1 | skip
    rename_i ss hss
    obtain ⟨e1, e2⟩ := strs_of hss hr
    subst e1
    have hkl : (ss.map tx).length = its.toArray.size := by rw [hlen]; simp
    refine set_ofG (knd := PySem.strKind X.prog X.w) Str.empty (I1.ok.hd G.calm) pl.isList hkl (fun i v hv => ?_) hb fun h' tk hS hk => ?_
    · obtain ⟨x, hx, rx⟩ := vals_at r i v (by simpa using hv)
      rw [List.getElem?_map] at hx
      obtain ⟨k, hk, rfl⟩ := Option.map_eq_some_iff.mp hx
      obtain ⟨t, rfl⟩ := rx
      rw [List.getD_eq_getElem?_getD, hk]
      exact ⟨strKind_is _ _ _ _, rfl⟩
    · refine PyProof.Rows.args_nil ?_
      have I2 : L2.Inv X pins σ H1 { s1 with heap := h', toks := tk } := I1.kept fun b o e => hk b o (Heap.lt_size e) e
      refine sorted_setG swo_str hS (I2.ok.hd G.calm) (fun us s3 b pk h2 => strs_sortable (kyv_strs pk) h2) fun s' pp out c k g o hp hg0 hs0 pk => ?_
      obtain ⟨ys, z1, z2, z3⟩ := strs_end (kyv_strs pk) hs0 pk
      rw [met_tx] at z2
      have e3 : ys = (srtS (met ss)).map tx := by
        have hp2 : (ys.map fun x => x.cps.toList).Perm (srtS (met ss)) := by
          have := z2.map fun x : Str => x.cps.toList
          rw [List.map_map] at this
          refine this.trans ?_
          have e : ((met ss).map ((fun x : Str => x.cps.toList) ∘ tx)) = met ss := by
            conv => rhs; rw [← List.map_id (met ss)]
            exact List.map_congr_left fun _ _ => rfl
          rw [e]
          exact (srtS_perm _).symm
        have e := upw_unique hp2 z3 (srtS_upw _)
        have e2 : ys = (ys.map fun x => x.cps.toList).map tx := by
          rw [List.map_map]
          conv => lhs; rw [← List.map_id ys]
          exact List.map_congr_left fun x _ => rfl
        rw [e2, e]
      rw [e3] at z1
      have hl2 : (((srtS (met ss)).map tx).map V.str).length ≤ sizeLine := by
        have := met_len ss
        rw [List.length_map] at hkl
        rw [List.length_map, List.length_map, (srtS_perm _).length_eq, sizeLine_eq]
        unfold scanBound at hb
        omega
      obtain ⟨J, hn⟩ := end_lst I2 k g o hp hl2 (vals_of_strs z1) hg0
      have hmem : ∀ b ∈ met ss, okc b = true := fun b hb => e2 b (met_mem hb)
      exact ⟨.ref pp, _, J, rfl, fin_lst (show fin C.K C.w (.ok (.lst ((srtS (met ss)).map D.str))) F1 H1 Q _ from q1) x1.inH (strs_reps _ (srtS_okc hmem)) pp hn⟩
end
end Ev

/-! dict(zip(..)) of lists and tuples: the pairs of a zip that are held. -/
namespace Ev
open PySem L2 PyProof.Rows RZ
section
variable {prog : Program} {w : World} {A : Around} {E : Value → Shared → Prop} {s : Shared} {z TI TO T i1 i2 : Addr} {f1 f2 : List Addr} {n1 n2 i : Nat} {P1 P2 : Nat → Value → Prop} {S1 S2 : Nat → Heap → Prop} {f : Bool} {oT : Obj}
theorem zh_item {Q : Value → Shared → Prop} (S : ZipSep2 z TI TO i1 i2 f1 f2) (D1 : Draws prog w A i1 f1 n1 P1 S1) (D2 : Draws prog w A i2 f2 n2 P2 S2)
    (zz : IsZipHeld s.heap z TI TO T f) (zT : s.heap.get? T = some oT) (zI : IsTupOf2 s.heap TI (.ref i1) (.ref i2)) (a1 : S1 i s.heap) (a2 : S2 i s.heap) (l1 : i < n1) (l2 : i < n2)
    (q : ∀ x1 x2 h' tk, P1 i x1 → P2 i x2 → IsZipHeld h' z TI TO T true → S1 (i + 1) h' → S2 (i + 1) h' → IsTupOf2 h' s.heap.objs.size x1 x2 → (∀ c o, c ≠ z → c ≠ i1 → c ≠ i2 → s.heap.get? c = some o → h'.get? c = some o) → Q (.ref s.heap.objs.size) { s with heap := h', toks := tk }) :
    wpAny (model prog w) A (Builtin.«zip.__next__» ⟨[.ref z], []⟩) (fun fin s' => ∃ v, fin = .done (.ret v) ∧ Q v s') E s := by
  have zi1 := S.zi1
  have zi2 := S.zi2
  have i12 : i1 ≠ i2 := fun e => S.sep1_2 (by rw [e]; exact S.mem2)
  show wpAny _ _ (field (.ref z) 2 >>= _) _ _ s
  refine wpAny_bind (wpAny_field zz rfl (x := .bool false) rfl ?_)
  show wpAny _ _ (field (.ref z) 3 >>= _) _ _ s
  refine wpAny_bind (wpAny_field zz rfl (x := .ref TI) rfl (wpAny_bind (wpAny_seqItems zI rfl ?_)))
  show wpAny _ _ (Builtin.SmallTypes.ownedTupleIsFree (.ref z) >>= _) _ _ s
  refine wpAny_bind (wpAny_tupleHeld_zip zz zT fun g1 z1 s1 => ?_)
  simp only [Bool.false_eq_true, if_false]
  refine wpAny_bind ?_
  rw [← Array.forIn_toList]
  simp only [List.forIn_cons, List.forIn_nil]
  refine wpAny_bind (wpAny_bind (wpAny_holding ?_))
  show wpAny _ _ (Builtin.SmallTypes.nextOf (.ref i1) >>= _) _ _ { s with heap := g1 }
  refine wpAny_bind (D1.item i { s with heap := g1 } _ _ l1 (D1.over a1 s1 S.zf1) fun x1 g2 t2 p1 b1 s2 => wpAny_pure (wpAny_pure ?_))
  refine wpAny_bind (wpAny_bind (wpAny_holding ?_))
  show wpAny _ _ (Builtin.SmallTypes.nextOf (.ref i2) >>= _) _ _ { s with heap := g2, toks := t2 }
  refine wpAny_bind (D2.item i { s with heap := g2, toks := t2 } _ _ l2 (D2.over (D2.over a2 s1 S.zf2) s2 S.sep1_2) fun x2 g3 t3 p2 b2 s3 => wpAny_pure (wpAny_pure (wpAny_pure ?_)))
  show wpAny _ _ (newTuple [x1, x2] >>= _) _ _ { s with heap := g3, toks := t3 }
  refine wpAny_bind (wpAny_newTuple ?_)
  have sz : g3.objs.size = s.heap.objs.size := by rw [s3.1, s2.1, s1.1]
  have z3 : IsZipHeld g3 z TI TO T true := s3.extBut _ _ zi2 (s2.extBut _ _ zi1 z1)
  have kk : ∀ c o, c ≠ z → c ≠ i1 → c ≠ i2 → s.heap.get? c = some o → g3.get? c = some o := fun c o c1 c2 c3 e => s3.extBut _ _ c3 (s2.extBut _ _ c2 (s1.extBut _ _ c1 e))
  have b3 : S1 (i + 1) g3 := D1.over b1 s3 S.sep2_1
  refine wpAny_pure ⟨_, rfl, ?_⟩
  show Q (.ref g3.objs.size) _
  have pp : IsTupOf2 (g3.push { cls := .type "tuple", data := .seq #[x1, x2] }) g3.objs.size x1 x2 := Heap.get?_push_size _ rfl
  rw [sz] at pp ⊢
  exact q x1 x2 _ t3 p1 p2 (Heap.get?_push_of_some _ z3) (D1.frame _ _ _ b3 fun b _ o e => Heap.get?_push_of_some _ e) (D2.frame _ _ _ b2 fun b _ o e => Heap.get?_push_of_some _ e) pp fun c o c1 c2 c3 e => Heap.get?_push_of_some _ (kk c o c1 c2 c3 e)
theorem zh_end {Q : Fin → Shared → Prop} (S : ZipSep2 z TI TO i1 i2 f1 f2) (D1 : Draws prog w A i1 f1 n1 P1 S1) (D2 : Draws prog w A i2 f2 n2 P2 S2)
    (zz : IsZipHeld s.heap z TI TO T f) (zT : s.heap.get? T = some oT) (zI : IsTupOf2 s.heap TI (.ref i1) (.ref i2)) (a1 : S1 i s.heap) (a2 : S2 i s.heap) (l1 : i ≤ n1) (l2 : i ≤ n2) (l3 : i = n1 ∨ i = n2)
    (q : ∀ h' tk e, (∀ c o, c ≠ z → c ≠ i1 → c ≠ i2 → s.heap.get? c = some o → h'.get? c = some o) → (∃ o, h'.get? e = some o ∧ o.cls = .type "StopIteration") → E (.ref e) { s with heap := h', toks := tk }) :
    wpAny (model prog w) A (Builtin.«zip.__next__» ⟨[.ref z], []⟩) Q E s := by
  show wpAny _ _ (field (.ref z) 2 >>= _) _ _ s
  refine wpAny_bind (wpAny_field zz rfl (x := .bool false) rfl ?_)
  show wpAny _ _ (field (.ref z) 3 >>= _) _ _ s
  refine wpAny_bind (wpAny_field zz rfl (x := .ref TI) rfl (wpAny_bind (wpAny_seqItems zI rfl ?_)))
  show wpAny _ _ (Builtin.SmallTypes.ownedTupleIsFree (.ref z) >>= _) _ _ s
  refine wpAny_bind (wpAny_tupleHeld_zip zz zT fun g1 z1 s1 => ?_)
  simp only [Bool.false_eq_true, if_false]
  refine wpAny_bind ?_
  rw [← Array.forIn_toList]
  simp only [List.forIn_cons, List.forIn_nil]
  refine wpAny_bind (wpAny_bind (wpAny_holding ?_))
  show wpAny _ _ (Builtin.SmallTypes.nextOf (.ref i1) >>= _) _ _ { s with heap := g1 }
  by_cases hi : i = n1
  · subst hi
    refine wpAny_bind (D1.done { s with heap := g1 } _ _ (D1.over a1 s1 S.zf1) fun g2 e s2 he => ?_)
    exact q g2 s.toks e (fun c o c1 c2 _ x => s2 _ _ c2 (s1.extBut _ _ c1 x)) he
  · have e2 : i = n2 := by rcases l3 with h | h; exact absurd h hi; exact h
    refine wpAny_bind (D1.item i { s with heap := g1 } _ _ (by omega) (D1.over a1 s1 S.zf1) fun x1 g2 t2 p1 b1 s2 => wpAny_pure (wpAny_pure ?_))
    refine wpAny_bind (wpAny_bind (wpAny_holding ?_))
    show wpAny _ _ (Builtin.SmallTypes.nextOf (.ref i2) >>= _) _ _ { s with heap := g2, toks := t2 }
    have b2 : S2 n2 g2 := by rw [← e2]; exact D2.over (D2.over a2 s1 S.zf2) s2 S.sep1_2
    refine wpAny_bind (D2.done { s with heap := g2, toks := t2 } _ _ b2 fun g3 e s3 he => ?_)
    exact q g3 t2 e (fun c o c1 c2 c3 x => s3 _ _ c3 (s2.extBut _ _ c2 (s1.extBut _ _ c1 x))) he
theorem zh_next {Q : Option Value → Shared → Prop} (S : ZipSep2 z TI TO i1 i2 f1 f2) (D1 : Draws prog w A.in1 i1 f1 n1 P1 S1) (D2 : Draws prog w A.in1 i2 f2 n2 P2 S2)
    (zz : IsZipHeld s.heap z TI TO T f) (zT : s.heap.get? T = some oT) (zI : IsTupOf2 s.heap TI (.ref i1) (.ref i2)) (a1 : S1 i s.heap) (a2 : S2 i s.heap) (l1 : i < n1) (l2 : i < n2)
    (q : ∀ x1 x2 h' tk, P1 i x1 → P2 i x2 → IsZipHeld h' z TI TO T true → S1 (i + 1) h' → S2 (i + 1) h' → IsTupOf2 h' s.heap.objs.size x1 x2 → (∀ c o, c ≠ z → c ≠ i1 → c ≠ i2 → s.heap.get? c = some o → h'.get? c = some o) → Q (some (.ref s.heap.objs.size)) { s with heap := h', toks := tk }) :
    wpAny (model prog w) A (pyNext (.ref z)) Q E s := by
  have tz : s.TypeIs (.ref z) "zip" := ⟨_, zz, rfl⟩
  unfold pyNext
  exact wpAny_bind (wpAny_attempt (wpAny_callSpecial?_slot (name := Str.ofString "__next__") tz F.slot_zip_next (wpAny_call_entry F.slot_zip_next tz F.entry_zip_next
    (zh_item S D1 D2 zz zT zI a1 a2 l1 l2 fun x1 x2 h' tk y1 y2 y3 y4 y5 y6 y7 => wpAny_pure (q x1 x2 h' tk y1 y2 y3 y4 y5 y6 y7)) (F.args_zip_next_1 _))))
theorem zh_stop {Q : Option Value → Shared → Prop} (S : ZipSep2 z TI TO i1 i2 f1 f2) (D1 : Draws prog w A.in1 i1 f1 n1 P1 S1) (D2 : Draws prog w A.in1 i2 f2 n2 P2 S2)
    (zz : IsZipHeld s.heap z TI TO T f) (zT : s.heap.get? T = some oT) (zI : IsTupOf2 s.heap TI (.ref i1) (.ref i2)) (a1 : S1 i s.heap) (a2 : S2 i s.heap) (l1 : i ≤ n1) (l2 : i ≤ n2) (l3 : i = n1 ∨ i = n2)
    (q : ∀ h' tk, (∀ c o, c ≠ z → c ≠ i1 → c ≠ i2 → s.heap.get? c = some o → h'.get? c = some o) → Q none { s with heap := h', toks := tk }) : wpAny (model prog w) A (pyNext (.ref z)) Q E s := by
  have tz : s.TypeIs (.ref z) "zip" := ⟨_, zz, rfl⟩
  unfold pyNext
  refine wpAny_bind (wpAny_attempt (wpAny_callSpecial?_slot (name := Str.ofString "__next__") tz F.slot_zip_next (wpAny_call_entry F.slot_zip_next tz F.entry_zip_next
    (zh_end S D1 D2 zz zT zI a1 a2 l1 l2 l3 fun h' tk e hk he => ?_) (F.args_zip_next_1 _))))
  obtain ⟨o, ho, hc⟩ := he
  exact wpAny_bind (wpAny_isInstance (T := "StopIteration") (b := true) ⟨o, ho, hc⟩ isSubtype_stop (wpAny_pure (q _ _ hk)))
end
end Ev

/-! dict(zip(..)) of lists and tuples: what dict walks. -/
namespace Ev
open PySem L2 PyProof.Rows RZ
theorem HeldB.at {b : Bool} {h h' : Heap} {a : Addr} {items : Array Value} (x : HeldB b h a items) (k : ∀ o, h.get? a = some o → h'.get? a = some o) : HeldB b h' a items := by
  cases b
  · exact Heap.IsTuple.at x k
  · exact Heap.IsList.at x k
section
variable {prog : Program} {w : World}
theorem pa_zip (b1 b2 : Bool) (z TI TO i1 i2 l1 l2 : Addr) (S : ZipSep2 z TI TO i1 i2 [i1, l1] [i2, l2]) (xs ys : Array Value) :
    PairArg prog w "zip" z [z, TI, TO, i1, i2, l1, l2] [z, TO, i1, i2] (min xs.size ys.size) (fun i k v => xs[i]? = some k ∧ ys[i]? = some v)
      (fun h => IsZip h z TI TO .none ∧ IsTupOf2 h TI (.ref i1) (.ref i2) ∧ (∃ a b, IsTupOf2 h TO a b) ∧ (ItAt b1 h i1 l1 0 ∧ HeldB b1 h l1 xs) ∧ (ItAt b2 h i2 l2 0 ∧ HeldB b2 h l2 ys)) where
  type := fun s ok => ⟨_, ok.1, rfl⟩
  notDict := by decide
  keep := fun h h' ⟨zz, zI, ⟨a, b, zO⟩, ⟨a1, a2⟩, ⟨c1, c2⟩⟩ k => ⟨k _ _ zz, k _ _ zI, ⟨a, b, k _ _ zO⟩, ⟨a1.at fun o e => k _ o e, a2.at fun o e => k _ o e⟩, ⟨c1.at fun o e => k _ o e, c2.at fun o e => k _ o e⟩⟩
  there := fun h ⟨zz, zI, ⟨a, b, zO⟩, ⟨a1, a2⟩, ⟨c1, c2⟩⟩ c hc => by
    obtain ⟨o1, e1, _⟩ := a1.obj
    obtain ⟨o2, e2, _⟩ := a2.obj
    obtain ⟨o3, e3, _⟩ := c1.obj
    obtain ⟨o4, e4, _⟩ := c2.obj
    have hc' : c = z ∨ c = TI ∨ c = TO ∨ c = i1 ∨ c = i2 ∨ c = l1 ∨ c = l2 := by simpa using hc
    rcases hc' with rfl | rfl | rfl | rfl | rfl | rfl | rfl
    · exact ⟨_, zz⟩
    · exact ⟨_, zI⟩
    · exact ⟨_, zO⟩
    · exact ⟨_, e1⟩
    · exact ⟨_, e3⟩
    · exact ⟨_, e2⟩
    · exact ⟨_, e4⟩
  sub := fun c hc => by
    have hc' : c = z ∨ c = TO ∨ c = i1 ∨ c = i2 := by simpa using hc
    rcases hc' with rfl | rfl | rfl | rfl <;> simp
  noKeys := fun A s Q E hA ok q => getAttrOr_miss_zip ok.1 rfl rfl rfl zip_no_keys (by decide +kernel) hA q
  iter := fun A s d Q E hA ⟨zz, zI, ⟨a, b, zO⟩, ⟨a1, a2⟩, ⟨c1, c2⟩⟩ hd hdf q => by
    simp only [List.mem_cons, List.not_mem_nil, or_false, not_or] at hdf
    obtain ⟨dz, dTI, dTO, di1, di2, dl1, dl2⟩ := hdf
    have D1 := draws_B (prog := prog) (w := w) (A := A.in1) hA b1 i1 l1 (a2.ne a1) xs
    have D2 := draws_B (prog := prog) (w := w) (A := A.in1) hA b2 i2 l2 (c2.ne c1) ys
    refine wpAny_pyIter_zip zz (q z [z, TO, i1, i2] (fun i h => IsTupOf2 h TI (.ref i1) (.ref i2) ∧ (ItAt b1 h i1 l1 i ∧ HeldB b1 h l1 xs) ∧ (ItAt b2 h i2 l2 i ∧ HeldB b2 h l2 ys) ∧
      ((IsZip h z TI TO .none ∧ ∃ a b, IsTupOf2 h TO a b) ∨ ∃ T f oT, IsZipHeld h z TI TO T f ∧ h.get? T = some oT ∧ T ≠ z ∧ T ≠ i1 ∧ T ≠ i2 ∧ T ≠ d)) s.heap s.toks ?_
      ⟨zI, ⟨a1, a2⟩, ⟨c1, c2⟩, .inl ⟨zz, a, b, zO⟩⟩ (fun _ _ e => e) fun b hb => .inl hb)
    refine ⟨fun hm => ?_, fun i h1 h2 ⟨w1, ⟨w2, w3⟩, ⟨w4, w5⟩, w6⟩ k => ?_, fun i s1 Q1 E1 hi ⟨w1, w2, w3, w6⟩ hds q1 => ?_, fun s1 Q1 E1 ⟨w1, w2, w3, w6⟩ q1 => ?_⟩
    · have : d = z ∨ d = TO ∨ d = i1 ∨ d = i2 := by simpa using hm
      rcases this with e | e | e | e
      · exact dz e
      · exact dTO e
      · exact di1 e
      · exact di2 e
    · refine ⟨k _ _ (Ne.symm dTI) w1, ⟨w2.at fun o e => k _ o (Ne.symm di1) e, w3.at fun o e => k _ o (Ne.symm dl1) e⟩, ⟨w4.at fun o e => k _ o (Ne.symm di2) e, w5.at fun o e => k _ o (Ne.symm dl2) e⟩, ?_⟩
      rcases w6 with ⟨g1, x, y, g2⟩ | ⟨T, f, oT, g1, g2, r1, r2, r3, r4⟩
      · exact .inl ⟨k _ _ (Ne.symm dz) g1, x, y, k _ _ (Ne.symm dTO) g2⟩
      · exact .inr ⟨T, f, oT, k _ _ (Ne.symm dz) g1, k _ _ r4 g2, r1, r2, r3, r4⟩
    · have hx : i < xs.size := by omega
      have hy : i < ys.size := by omega
      have lt : ∀ {c o}, s1.heap.get? c = some o → s1.heap.objs.size ≠ c := fun e => Nat.ne_of_gt (Heap.lt_size e)
      have m1 : s1.heap.objs.size ≠ i1 := let ⟨_, e, _⟩ := w2.1.obj; lt e
      have m2 : s1.heap.objs.size ≠ i2 := let ⟨_, e, _⟩ := w3.1.obj; lt e
      rcases w6 with ⟨g1, x, y, g2⟩ | ⟨T, f, oT, g1, g2, r1, r2, r3, r4⟩
      · refine wpAny_pyNext_zipD2_item S D1 D2 g1 w1 g2 w2 w3 hx hy fun x1 x2 h' tk p1 p2 k1 k2 k3 k4 k5 k6 hk => ?_
        exact q1 s1.heap.objs.size x1 x2 h' tk ⟨p1, p2⟩ (.inl ⟨_, k5, rfl, _, rfl⟩) ⟨hk _ _ S.TIz S.TITO S.TIi1 S.TIi2 w1, k3, k4, .inr ⟨s1.heap.objs.size, false, _, k1, k5, lt g1, m1, m2, Nat.ne_of_gt hds⟩⟩
          fun c o hc e => hk c o (fun x => hc (by simp [x])) (fun x => hc (by simp [x])) (fun x => hc (by simp [x])) (fun x => hc (by simp [x])) e
      · refine zh_next S D1 D2 g1 g2 w1 w2 w3 hx hy fun x1 x2 h' tk p1 p2 k1 k3 k4 k5 hk => ?_
        exact q1 s1.heap.objs.size x1 x2 h' tk ⟨p1, p2⟩ (.inl ⟨_, k5, rfl, _, rfl⟩) ⟨hk _ _ S.TIz S.TIi1 S.TIi2 w1, k3, k4, .inr ⟨T, true, oT, k1, hk _ _ r1 r2 r3 g2, r1, r2, r3, r4⟩⟩
          fun c o hc e => hk c o (fun x => hc (by simp [x])) (fun x => hc (by simp [x])) (fun x => hc (by simp [x])) e
    · have e0 : min xs.size ys.size = xs.size ∨ min xs.size ys.size = ys.size := by omega
      rcases w6 with ⟨g1, x, y, g2⟩ | ⟨T, f, oT, g1, g2, r1, r2, r3, r4⟩
      · exact wpAny_pyNext_zipD2_end S D1 D2 g1 w1 g2 w2 w3 (by omega) (by omega) e0 fun h' tk hk => q1 h' tk fun c o hc e => hk c o (fun x => hc (by simp [x])) (fun x => hc (by simp [x])) (fun x => hc (by simp [x])) (fun x => hc (by simp [x])) e
      · exact zh_stop S D1 D2 g1 g2 w1 w2 w3 (by omega) (by omega) e0 fun h' tk hk => q1 h' tk fun c o hc e => hk c o (fun x => hc (by simp [x])) (fun x => hc (by simp [x])) (fun x => hc (by simp [x])) e
end
end Ev

/-! dict(zip(a, b)). -/
namespace Ev
open PySem PySem.Spec L2 PyProof.Rows RZ
section
variable {K : PySem.W.Frag} {w : World} {F H : Hp}
theorem items_sq {d : D} {v : V} {xs : List D} (hs : Same F H) (h : items d = some xs) (r : Rep K w F d v) : ∃ b l vs, v = .ref l ∧ SqB K b H l vs ∧ Reps K w F xs vs := by
  cases d with
  | tup ys =>
    cases h
    obtain ⟨a, vs, rfl, h1, h2⟩ := r
    exact ⟨false, a, vs, rfl, Same.tup hs h1, h2⟩
  | lst ys =>
    cases h
    obtain ⟨a, vs, rfl, h1, h2⟩ := r
    exact ⟨true, a, vs, rfl, SqL.of (hs _ _ h1), h2⟩
  | _ => cases h
theorem keys_rep : ∀ {xs : List D} {ks : List Ky} {vs : List V}, keys xs = some ks → Reps K w F xs vs → vs = ks.map fun k => kV (kyK k)
  | [], ks, vs, h, r => by cases h; exact r
  | x :: xs, ks, vs, h, ⟨v, r, e, g1, g2⟩ => by
    obtain ⟨k, h1, h2⟩ := Option.bind_eq_some_iff.mp (show (kyOf x).bind _ = some ks from h)
    obtain ⟨qs, h3, rfl⟩ := Option.map_eq_some_iff.mp h2
    rw [e, keys_rep h3 g2, ky_of h1 g1]; rfl
theorem zip_kvW : ∀ {ks : List Key} {vs : List V} {us : List Value}, Vals vs us → KV (ks.zip vs) (ks.zip us)
  | [], _, _, _ => by simp; exact .nil
  | k :: ks, _, _, .nil => by simp; exact .nil
  | k :: ks, _, _, .cons r t => .cons ⟨rfl, r⟩ (zip_kvW t)
theorem zip_reps : ∀ {ks : List Ky} {ys : List D} {vs : List V}, Reps K w F ys vs → ((ks.map kyK).zip vs).map (·.1) = (ks.zip ys).map (fun p => kyK p.1) ∧ Reps K w F ((ks.zip ys).map (·.2)) (((ks.map kyK).zip vs).map (·.2))
  | [], _, _, _ => ⟨rfl, rfl⟩
  | k :: ks, [], vs, h => by rw [show vs = [] from h]; exact ⟨rfl, rfl⟩
  | k :: ks, y :: ys, vs, ⟨v, r, e, g1, g2⟩ => by
    obtain ⟨i1, i2⟩ := zip_reps (ks := ks) g2
    rw [e]
    refine ⟨?_, v, _, rfl, g1, i2⟩
    exact congrArg (kyK k :: ·) i1
end
section
variable {nm : Nm} {X : Cx} {C : Ct} {a b : Expr} {ta tb : E} {pos p p2 q : Pos}
theorem s_dictzip (G : Gd nm X C) (hg : Gl X "dict") (hg2 : Gl X "zip") (ha : PA X [a, b] (C.rds [ta, tb])) (ns : NoStar a) (ns2 : NoStar b) : PE X (.Call (.Name "dict" p) [.Call (.Name "zip" p2) [a, b] [] q] [] pos) (C.rd (.bi2 .dictzip ta tb)) := by
  have hm : X.mg "dict" = none := G.blt _ (by decide +kernel)
  have hm2 : X.mg "zip" = none := G.blt _ (by decide +kernel)
  have hK := G.hK
  refine ⟨fun pins s σ H Q I ⟨env, F, he, hs, qq⟩ => ?_⟩
  have key : C.rds [ta, tb] σ H fun vs H1 => ∃ F1 d e, Ext F H F1 H1 ∧ Reps C.K C.w F1 [d, e] vs ∧ fin C.K C.w (dDictzip d e) F1 H1 Q (fun c H' => C.W (.ref (C.ca c)) none σ H') := by
    refine ⟨env, F, he, hs, ?_⟩
    have qq' : fin C.K C.w ((ev C.glob C.fn ta env).bind fun x => (ev C.glob C.fn tb env).bind fun y => dDictzip x y) F H Q _ := qq
    have ee : evs C.glob C.fn [ta, tb] env = (ev C.glob C.fn ta env).bind fun d => ((ev C.glob C.fn tb env).bind fun e => .ok [e]).bind fun ds => .ok (d :: ds) := rfl
    rw [ee]
    cases e1 : ev C.glob C.fn ta env with
    | no => rw [e1] at qq'; exact qq'
    | ex c => rw [e1] at qq'; exact qq'
    | ok d =>
      rw [e1] at qq'
      cases e2 : ev C.glob C.fn tb env with
      | no => rw [e2] at qq'; exact qq'
      | ex c => rw [e2] at qq'; exact qq'
      | ok e =>
        rw [e2] at qq'
        intro vs F1 H1 x1 r1
        exact ⟨F1, d, e, x1, r1, fin_mono x1 (show fin C.K C.w (dDictzip d e) F H Q _ from qq')⟩
  refine Call_ (ld_blt I.toInv hg hm PyProof.Rows.boot_dict ?_)
  refine PyProof.Rows.callWith_type1 (PyProof.Rows.args_cons ?_ rfl) rfl rfl
  refine Call_ (ld_blt I.toInv hg2 hm2 PyProof.Rows.boot_zip ?_)
  refine PyProof.Rows.callWith_type1 (thn (ha.run q pins s σ H _ I key) fun us s1 ⟨vs, H1, I1, r1, F1, d, e, x1, rd, q1⟩ => ?_) (ns [b] X.env) (noStars_any (es := [b]) ⟨ns2, trivial⟩)
  first | refine upE I1.tk ?_ | refine up1 I1.tk ?_ | refine up2 I1.tk ?_ | refine up3 I1.tk ?_
  replace I1 := I1.toInv
  unfold dDictzip at q1
  split at q1 <;> first | exact False.elim q1 | skip
  rename_i xs ys hx hy
  split at q1 <;> first | exact False.elim q1 | skip
  rename_i hsm
  split at q1 <;> first | exact False.elim q1 | skip
  rename_i ks hks
  rw [Bool.and_eq_true] at hsm
  have hn2 : ys.length ≤ 1000 := by simpa [small] using hsm.2
  obtain ⟨v, r, rfl, g1, v2, r', rfl, g2, h5⟩ := rd
  obtain rfl : r' = [] := h5
  obtain ⟨b1, l1, vs1, rfl, q3, w1⟩ := items_sq x1.inH hx g1
  obtain ⟨b2, l2, vs2, rfl, q4, w2⟩ := items_sq x1.inH hy g2
  rw [← hK] at q3 q4
  cases r1 with
  | cons ra rr =>
    cases rr with
    | cons rb rr =>
      cases rr; cases ra; cases rb
      obtain ⟨its1, rv1, p1⟩ := q3.held I1
      obtain ⟨its2, rv2, p2⟩ := q4.held I1
      have ek := keys_rep hks w1
      subst ek
      have lt1 : l1 < s1.heap.objs.size := let ⟨_, e, _⟩ := p1.obj; Heap.lt_size e
      have lt2 : l2 < s1.heap.objs.size := let ⟨_, e, _⟩ := p2.obj; Heap.lt_size e
      refine zip_begins2 (begins_B b1 l1 its1.toArray) (begins_B b2 l2 its2.toArray) p1 p2 fun h' hz hTI hTO h1 h2 hsz hk => ?_
      refine PyProof.Rows.args_nil ?_
      have S := zip_sep2 (N := s1.heap.objs.size) (fp1 := [l1]) (fp2 := [l2]) (by simpa using lt1) (by simpa using lt2)
      have hP := pa_zip (prog := X.prog) (w := X.w) b1 b2 _ _ _ _ _ l1 l2 S its1.toArray its2.toArray
      have hl1 : its1.length = ks.length := by have := rv1.length; simpa using this.symm
      have hl2 := rv2.length
      have hl3 := w2.length
      have hkl : ((ks.map kyK).zip its2).length = min its1.toArray.size its2.toArray.size := by simp [hl1]
      have hat : ∀ (i : Nat) (k v : Value), its1.toArray[i]? = some k ∧ its2.toArray[i]? = some v → ∃ kk, ((ks.map kyK).zip its2)[i]? = some (kk, v) ∧ (mixKind X.prog X.w).is kk k = true := fun i k v ⟨e1, e2⟩ => by
        have e1' : its1[i]? = some k := by simpa using e1
        have e2' : its2[i]? = some v := by simpa using e2
        have hi : i < ks.length := by rw [← hl1]; exact (List.getElem?_eq_some_iff.mp e1').1
        obtain ⟨x, hx1, hx2⟩ := vals_at rv1 i k e1'
        rw [List.getElem?_map, List.getElem?_eq_getElem hi] at hx1
        cases hx1
        refine ⟨kyK ks[i], ?_, kV_is hx2⟩
        rw [List.getElem?_zip_eq_some]
        exact ⟨by rw [List.getElem?_map, List.getElem?_eq_getElem hi]; rfl, e2'⟩
      have rel : KV ((ks.map kyK).zip vs2) ((ks.map kyK).zip its2) := zip_kvW rv2
      obtain ⟨z1, z2⟩ := zip_reps (ks := ks) w2
      have hsz2 : ((ks.map kyK).zip vs2).length ≤ 1000 := by rw [List.length_zip]; omega
      refine PySem.call_dict_pairs (s := { s1 with heap := h' }) (knd := mixKind X.prog X.w) (kvs := (ks.map kyK).zip its2) hP (I1.ok.hd G.calm) ⟨hz, hTI, ⟨_, _, hTO⟩, ⟨ItAt.of h1, p1.at fun o e => hk _ o e⟩, ⟨ItAt.of h2, p2.at fun o e => hk _ o e⟩⟩ ⟨hkl, hat⟩ ?_ fun h'' tk hd' k => ?_
      · rw [← hkl, ← rel.length, sizeLine_eq]; omega
      · have hle : s1.heap.objs.size ≤ h'.objs.size := by rw [hsz]; omega
        have hms : (h'.objs.size == sysModules) = false := beq_eq_false_iff_ne.mpr (Nat.ne_of_gt (Nat.lt_of_lt_of_le I1.big hle))
        have hlen : (mergeK [] ((ks.map kyK).zip vs2)).length ≤ sizeLine := by
          refine Nat.le_trans (length_mergeK _ []) ?_
          rw [List.length_nil, Nat.zero_add, sizeLine_eq]; omega
        obtain ⟨i0, i1, i2⟩ := puts_rel (ks.zip ys) ((ks.map kyK).zip vs2) [] [] [] z1 z2 rfl List.nodup_nil rfl
        have hfr : H1 h'.objs.size = none := I1.hok.fresh hle
        refine ⟨.ref h'.objs.size, upd H1 h'.objs.size (.dK (mergeK [] ((ks.map kyK).zip vs2))), I1.laid (t' := tk) (fun c o e => k c o (fun z => ?_) (hk c o e)) hle (show ObjOk X.prog X.w _ _ _ (.dK (mergeK [] ((ks.map kyK).zip vs2))) from ⟨hlen, hms, merged [] ((ks.map kyK).zip its2), KV.merge rel .nil, hd'⟩), rfl, ?_⟩
        · have hc := Heap.lt_size e
          have e4 : c = s1.heap.objs.size + 4 ∨ c = s1.heap.objs.size + 3 ∨ c = s1.heap.objs.size ∨ c = s1.heap.objs.size + 1 := by simpa using z
          rcases e4 with e4 | e4 | e4 | e4 <;> rw [e4] at hc
          · exact absurd hc (Nat.not_lt.mpr (Nat.le_add_right _ _))
          · exact absurd hc (Nat.not_lt.mpr (Nat.le_add_right _ _))
          · exact absurd hc (Nat.lt_irrefl _)
          · exact absurd hc (Nat.not_lt.mpr (Nat.le_add_right _ _))
        · exact q1 (.ref h'.objs.size) _ _ (Ext.new1 (.dK (mergeK [] ((ks.map kyK).zip vs2))) x1.inH hfr) ⟨h'.objs.size, _, rfl, upd_same, i1, i0, Reps.mono (same_upd (x1.inH.free hfr)) _ _ i2⟩
end
end Ev

/-! min and max of two. -/
namespace Ev
open PySem L2 PyProof.Rows RZ
section
variable {nm : Nm} {X : Cx} {C : Ct} {a b : Expr} {ta tb : E} {pos p : Pos}
theorem mm_core {f : D → D → R D} {t : E} {g : Int → Int → Int} (hf : ∀ d e, (∃ i j, d = .int i ∧ e = .int j ∧ f d e = .ok (.int (g i j))) ∨ f d e = .no) (hev : ∀ env, ev C.glob C.fn t env = (ev C.glob C.fn ta env).bind fun x => (ev C.glob C.fn tb env).bind fun y => f x y) {σ : L2.St} {H : Hp} {Q : VK} (h : C.rd t σ H Q) :
    C.rds [ta, tb] σ H fun vs H1 => ∃ i j, vs = [.int i, .int j] ∧ Q (.int (g i j)) H1 := by
  obtain ⟨env, F, he, hs, q⟩ := h
  rw [hev env] at q
  refine ⟨env, F, he, hs, ?_⟩
  have ee : evs C.glob C.fn [ta, tb] env = (ev C.glob C.fn ta env).bind fun d => ((ev C.glob C.fn tb env).bind fun e => .ok [e]).bind fun ds => .ok (d :: ds) := rfl
  rw [ee]
  cases e1 : ev C.glob C.fn ta env with
  | no => rw [e1] at q; exact q
  | ex c => rw [e1] at q; exact q
  | ok d =>
    rw [e1] at q
    cases e2 : ev C.glob C.fn tb env with
    | no => rw [e2] at q; exact q
    | ex c => rw [e2] at q; exact q
    | ok e =>
      rw [e2] at q
      intro vs F1 H1 x1 r1
      have q1 : fin C.K C.w (f d e) F1 H1 Q _ := fin_mono x1 q
      rcases hf d e with ⟨i, j, rfl, rfl, hfe⟩ | hfe
      · rw [hfe] at q1
        obtain ⟨v, r, rfl, g1, u, r', rfl, g2, h5⟩ := r1
        obtain rfl : v = .int i := g1
        obtain rfl : u = .int j := g2
        obtain rfl : r' = [] := h5
        exact ⟨i, j, rfl, fin_ok q1 x1.inH rfl⟩
      · rw [hfe] at q1
        exact False.elim q1
theorem dMin_c (d e : D) : (∃ i j, d = .int i ∧ e = .int j ∧ dMin d e = .ok (.int (if j < i then j else i))) ∨ dMin d e = .no := by
  cases d <;> cases e <;> first | exact .inl ⟨_, _, rfl, rfl, rfl⟩ | exact .inr rfl
theorem dMax_c (d e : D) : (∃ i j, d = .int i ∧ e = .int j ∧ dMax d e = .ok (.int (if j > i then j else i))) ∨ dMax d e = .no := by
  cases d <;> cases e <;> first | exact .inl ⟨_, _, rfl, rfl, rfl⟩ | exact .inr rfl
theorem s_min (G : Gd nm X C) (hg : Gl X "min") (ha : PA X [a, b] (C.rds [ta, tb])) (ns : NoStar a) (ns2 : NoStar b) : PE X (.Call (.Name "min" p) [a, b] [] pos) (C.rd (.bi2 .min2 ta tb)) :=
  PE.weak (pe_callB (call_min2 G.calm) hg (G.blt _ (by decide +kernel)) rfl ha (by decide) (by decide) (ns [b] X.env) (noStars_any (es := [b]) ⟨ns2, trivial⟩)) fun σ H Q h => mm_core dMin_c (fun _ => rfl) h
theorem s_max (G : Gd nm X C) (hg : Gl X "max") (ha : PA X [a, b] (C.rds [ta, tb])) (ns : NoStar a) (ns2 : NoStar b) : PE X (.Call (.Name "max" p) [a, b] [] pos) (C.rd (.bi2 .max2 ta tb)) :=
  PE.weak (pe_callB (call_max2 G.calm) hg (G.blt _ (by decide +kernel)) rfl ha (by decide) (by decide) (ns [b] X.env) (noStars_any (es := [b]) ⟨ns2, trivial⟩)) fun σ H Q h => mm_core dMax_c (fun _ => rfl) h
end
end Ev

/-! A row asked of a dict whose keys are texts and numbers: it is not there. -/
namespace Ev
open PySem PySem.Spec L2 PyProof.Rows RZ
section
variable {P : Program} {w : World} {A : Around} {E : Value → Shared → Prop} {s : Shared}
theorem tells_row {a : Addr} {k : Rw.Cl} {stored : List Value} {Q : Bool → Shared → Prop} (hkey : Rw.Is P w s.heap k a) (hst : ∀ v ∈ stored, carriedByValue v = true) (h : Q false s) : wpAny (model P w) A (tableMayTell (.ref a) stored) Q E s := by
  unfold tableMayTell
  split
  · exact wpAny_pure h
  · refine wpAny_bind (wpAny_eqIsQuiet_tuple hkey ?_)
    simp only [Bool.not_true, Bool.false_eq_true, if_false]
    refine wpAny_bind ?_
    refine wpAny_forIn_list _ (fun rest r s' => s' = s ∧ r = (none, ()) ∧ ∀ v ∈ rest, v ∈ stored) _ ?_ ?_ _ _ ⟨rfl, rfl, fun _ z => z⟩
    · rintro x rest r s' ⟨rfl, rfl, sub⟩
      rw [eqIsQuiet_byValue _ (hst x (sub x List.mem_cons_self))]
      refine wpAny_bind (wpAny_pure ?_)
      simp only [Bool.not_true, Bool.false_eq_true, if_false]
      exact wpAny_pure ⟨rfl, rfl, fun v hv => sub v (List.mem_cons_of_mem _ hv)⟩
    · rintro r s' ⟨rfl, rfl, _⟩
      exact wpAny_pure h
theorem find_miss {d a : Addr} {o : Obj} {es : Array DictEntry} {ep : Nat} {k : Rw.Cl} {hs : Int} {Q : Option Nat → Shared → Prop} (hu : A.units < cLine) (hkey : Rw.Is P w s.heap k a)
    (ho : s.heap.get? d = some o) (hd : o.data = .dict es ep) (hes : ∀ e ∈ es, (∃ i t, e.key = .int i t) ∨ ∃ x t, e.key = .str x t) (h : Q none s) :
    wpAny (model P w) A (dictFind d (.ref a) hs) Q E s := by
  have hcar : ∀ e ∈ es, carriedByValue e.key = true := fun e he => by
    rcases hes e he with ⟨i, t, q⟩ | ⟨x, t, q⟩ <;> (rw [q]; rfl)
  have hany : ¬ (es.any fun e => e.key == Value.ref a && e.hash != hs) = true := by
    rw [← Array.any_toList, List.any_eq_true]
    rintro ⟨e, hin, hc⟩
    rw [Bool.and_eq_true, beq_iff_eq] at hc
    rcases hes e (Array.mem_toList_iff.mp hin) with ⟨i, t, q⟩ | ⟨x, t, q⟩ <;> (rw [q] at hc; exact nomatch hc.1)
  have hst : ∀ v ∈ (placesWithHash es.size (fun i => es[i]?.map (·.hash)) hs).filterMap (fun i => es[i]?.map (·.key)), carriedByValue v = true := by
    intro v hv
    obtain ⟨i, _, hi⟩ := List.mem_filterMap.mp hv
    obtain ⟨e, he, rfl⟩ := Option.map_eq_some_iff.mp hi
    exact hcar e (Array.mem_of_getElem? he)
  have hTup : s.heap.IsTuple a (hkey.choose_spec.choose) := by
    obtain ⟨n, g1, g2, g3, _⟩ := hkey.choose_spec.choose_spec
    exact ⟨_, g1, g2, n, g3⟩
  unfold dictFind
  try with_reducible refine wpAny_holding ?_
  refine wpAny_bind (wpAny_dictEntries ho hd ?_)
  dsimp only
  rw [if_neg (show ¬ ((Value.ref a :: (placesWithHash es.size (fun i => es[i]?.map (·.hash)) hs).filterMap (fun i => es[i]?.map (·.key))).all carriedByValue) = true by simp [carriedByValue])]
  rw [if_neg hany]
  generalize hS : (placesWithHash es.size (fun i => es[i]?.map (·.hash)) hs).filterMap (fun i => es[i]?.map (·.key)) = stored at hst ⊢
  have hone : ¬ (stored == [Value.ref a]) = true := fun z => by
    rw [beq_iff_eq] at z
    have := hst (Value.ref a) (by rw [z]; exact List.mem_cons_self)
    exact absurd this (by simp [carriedByValue])
  rw [if_neg hone]
  refine wpAny_bind (tells_row hkey hst ?_)
  rw [if_neg (by simp)]
  refine wpAny_bind ?_
  refine wpAny_forIn_list _ (fun rest b s' => s' = s ∧ b = (none, none)) _ ?_ ?_ _ _ ⟨rfl, rfl⟩
  · rintro x rest b s' ⟨rfl, rfl⟩
    cases hx : es[x]? with
    | none =>
      dsimp only
      exact wpAny_pure ⟨rfl, rfl⟩
    | some e =>
      dsimp only
      by_cases hh : (e.hash == hs) = true
      · rw [if_pos hh]
        have heq : SeqAt.EqAt A s' e.key (.ref a) false := by
          rcases hes e (Array.mem_of_getElem? hx) with ⟨i, t, q⟩ | ⟨y, t, q⟩
          · rw [q]; exact SeqAt.EqAt.int_tuple i t hTup hu
          · rw [q]; exact SeqAt.EqAt.str_tuple y t hTup hu
        refine wpAny_bind (wpAny_dictEpoch ho hd (wpAny_bind (heq _ _ _ _ (wpAny_bind (wpAny_dictEpoch ho hd ?_)))))
        show wpAny _ _ (if (ep != ep) = true then _ else _) _ E _
        rw [if_neg (by simp)]
        simp only [Bool.false_eq_true, if_false]
        refine wpAny_bind (wpAny_rule ?_)
        first | rw [if_neg (by simp)] | skip
        first
          | exact wpAny_pure ⟨rfl, rfl⟩
          | exact wpAny_bind (wpAny_pure (wpAny_pure ⟨rfl, rfl⟩))
      · rw [if_neg hh]
        exact wpAny_pure ⟨rfl, rfl⟩
  · rintro b s' ⟨rfl, rfl⟩
    exact wpAny_pure h
/-- d.get(row, x) -/
theorem get_miss {d a : Addr} {vs : List (Key × Value)} {k : Rw.Cl} {x : Value} {Q : Value → Shared → Prop} (hu : A.units + 1 < cLine) (hsm : (d == sysModules) = false) (dd : s.heap.DictOf (mixKind P w) d vs) (hkey : Rw.Is P w s.heap k a) (h : ∀ t, Q x { s with toks := t }) :
    wpAny (model P w) A (call (.builtin "dict.get") [.ref d, .ref a, x]) Q E s := by
  refine wpAny_call_entry PySem.F.slot_dict_get dd.typeIs PySem.F.entry_dict_get ?_ (PySem.F.args_dict_get_3 _ _ _)
  obtain ⟨o, es, ep, ho, _, hdat, hko, _⟩ := dd
  show wpAny _ _ (dictGet d (.ref a) >>= _) _ _ s
  refine wpAny_bind ?_
  unfold dictGet
  try with_reducible refine wpAny_holding ?_
  refine wpAny_bind (wpAny_pyHash_tuple (show A.in1.units < cLine from hu) hkey (wpAny_bind (find_miss (s := { s with toks := s.toks + (k.length + 1) }) (show A.in1.units < cLine from hu) hkey ho hdat (fun e he => ?_) ?_)))
  · obtain ⟨kk, hk1, _⟩ := hko e he
    rcases keyIs_shape hk1 with ⟨i, t, _, q⟩ | ⟨y, t, _, q⟩
    · exact .inl ⟨i, t, q⟩
    · exact .inr ⟨y, t, q⟩
  · refine wpAny_pure ?_
    show wpAny _ _ (Builtin.Dict.missed d (.ref a) >>= _) _ _ _
    exact wpAny_bind (wpAny_missed_other hsm (wpAny_pure ⟨x, rfl, h _⟩))
end
end Ev

/-! d.get(k, x). -/
namespace Ev
open PySem PySem.Spec L2 PyProof.Rows RZ
theorem dGet2_ne (a y z : D) (k : Nat) : dGet2 a y z ≠ .ex k := by
  unfold dGet2
  split
  · split
    · split <;> (intro h; cases h)
    · split <;> (intro h; cases h)
  · intro h; cases h
section
variable {nm : Nm} {X : Cx} {C : Ct} {o a b : Expr} {to ta tb : E} {ap cp : Pos}
theorem s_get2 (G : Gd0 X C) (ho : PE X o (C.rd to)) (ha : PE X a (C.rd ta)) (hb : PE X b (C.rd tb)) (na : NoStar a) (nb : NoStar b) (hn : noCall0 o = true) (hline : (ap.endLine == cp.line) = true) :
    PE X (.Call (.Attribute o "get" ap) [a, b] [] cp) (C.rd (.get2 to ta tb)) := by
  have htr : backTo cp (starEach [a, b] X.env) = [(false, eval a X.env), (false, eval b X.env)] := by
    rw [na [b] X.env, nb [] X.env]; rfl
  have hfew : ((backTo cp (starEach [a, b] X.env)).all (fun x => !x.1) && (backToKw cp (keywordEach [] X.env)).all (fun x => x.1.isSome)
      && decide (([a, b] : List Expr).length + ([] : List Keyword).length + (if ([] : List Keyword).isEmpty then 0 else 1) < 30)) = true := by rw [htr]; rfl
  refine ⟨fun pins s σ H Q I ⟨env, F, he, hs, q⟩ => ?_⟩
  have q' : fin C.K C.w ((ev C.glob C.fn to env).bind fun x => if isDic x then (ev C.glob C.fn ta env).bind fun y => (ev C.glob C.fn tb env).bind fun z => dGet2 x y z else .no) F H Q _ := q
  have key : C.rd to σ H fun v H1 => ∃ F1 d, Ext F H F1 H1 ∧ Rep C.K C.w F1 d v ∧ fin C.K C.w (if isDic d then (ev C.glob C.fn ta env).bind fun y => (ev C.glob C.fn tb env).bind fun z => dGet2 d y z else .no) F1 H1 Q (fun c H' => C.W (.ref (C.ca c)) none σ H') :=
    ⟨env, F, he, hs, fin_bind q' fun d v F1 H1 e1 x1 r1 q1 => ⟨F1, d, x1, r1, q1⟩⟩
  refine wpAny_Call_method (base_of hn) hfew hline PySem.F.plainAttrs_dict PySem.F.slot_dict_get PySem.F.type_dict_get (thn (ho.run pins s σ H _ I key) fun u s1 ⟨x, H1, I1, rx, F1, d, x1, rd, q1⟩ => ?_)
  cases d with
  | dic ks ds =>
    rw [if_pos (show isDic (.dic ks ds) = true from rfl)] at q1
    obtain ⟨p, kvs, rfl, hF, hkk, hnd, hr⟩ := rd
    obtain rfl : u = Value.ref p := rx
    obtain ⟨t1, t2, hsm⟩ := isD_at I1.toInv (.inl ⟨kvs, .inl (x1.inH _ _ hF)⟩)
    refine ⟨t1, t2, ?_⟩
    rw [htr]
    have key2 : C.rd ta σ H1 fun v H2 => ∃ F2 y, Ext F1 H1 F2 H2 ∧ Rep C.K C.w F2 y v ∧ fin C.K C.w ((ev C.glob C.fn tb env).bind fun z => dGet2 (.dic ks ds) y z) F2 H2 Q (fun c H' => C.W (.ref (C.ca c)) none σ H') :=
      ⟨env, F1, he.mono x1.sub, x1.inH, fin_bind q1 fun d v F2 H2 e2 x2 r2 q2 => ⟨F2, d, x2, r2, q2⟩⟩
    refine Calls.callWith_builtin rfl (Calls.evalArgs_plain (Calls.spliced_cons (thn (ha.run pins s1 σ H1 _ I1 key2) fun iv s2 ⟨y, H2, I2, ry, F2, dy, x2, rdy, q2⟩ => ?_)))
    have key3 : C.rd tb σ H2 fun v H3 => ∃ F3 z, Ext F2 H2 F3 H3 ∧ Rep C.K C.w F3 z v ∧ fin C.K C.w (dGet2 (.dic ks ds) dy z) F3 H3 Q (fun c H' => C.W (.ref (C.ca c)) none σ H') :=
      ⟨env, F2, he.mono (x1.sub.trans x2.sub), x2.inH, fin_bind q2 fun d v F3 H3 e3 x3 r3 q3 => ⟨F3, d, x3, r3, q3⟩⟩
    refine Calls.spliced_cons (thn (hb.run pins s2 σ H2 _ I2 key3) fun fv s3 ⟨z, H3, I3, rz, F3, dz, x3, rdz, q3⟩ => Calls.spliced_nil ?_)
    refine upE I3.tk ?_
    replace I3 := I3.toInv
    have hF3 : F3 p = some (.dK kvs) := x3.sub _ _ (x2.sub _ _ hF)
    have hu : X.A.units + 1 < cLine := by have := G.hu; omega
    have rdy3 : Rep C.K C.w F3 dy y := Rep.mono x3.sub dy y rdy
    have plain : ∀ k, kyOf dy = some k → fin C.K C.w (.ok (((kyAt k ks).bind (ds[·]?)).getD dz)) F3 H3 Q (fun c H' => C.W (.ref (C.ca c)) none σ H') → wpAny (model X.prog X.w) X.A (call (.builtin "dict.get") [.ref p, iv, fv]) (L2.EP X pins σ Q) X.xe s3 := fun k hk q4 => by
      obtain rfl := ky_of hk rdy3
      have g := DGet.k (k := kyK k) (x3.inH _ _ hF3)
      refine d_get2 hu I3 g ry rz fun w' s4 I4 rw' => ⟨_, H3, I4, rw', ?_⟩
      refine fin_ok q4 x3.inH ?_
      rw [kyAt_val hkk]
      cases hj : kyAt k ks with
      | none => exact rdz
      | some j =>
        show Rep C.K C.w F3 ((ds[j]?).getD dz) (((kvs.map (·.2))[j]?).getD z)
        have hr3 : Reps C.K C.w F3 ds (kvs.map (·.2)) := Reps.mono (x2.sub.trans x3.sub) ds _ hr
        cases hd : ds[j]? with
        | none =>
          have hln := hr3.length
          have : (kvs.map (·.2))[j]? = none := by
            rw [List.getElem?_eq_none_iff] at hd ⊢
            omega
          rw [this]
          exact rdz
        | some e =>
          obtain ⟨v, hv, re⟩ := hr3.get hd
          rw [hv]
          exact re
    cases dy with
    | tup r =>
      have q4 : fin C.K C.w (if (rowKs r).isSome then .ok dz else .no) F3 H3 Q (fun c H' => C.W (.ref (C.ca c)) none σ H') := q3
      split at q4
      · rename_i hrk
        obtain ⟨kk, hkk'⟩ := Option.isSome_iff_exists.mp hrk
        rw [G.hK.symm, G.hw.symm] at rdy3
        obtain ⟨c, hc, hIs⟩ := row_is I3 x3.inH rdy3 ry hkk'
        obtain ⟨_, hsm, vs0, _, dd⟩ := dk_of I3.hok (x3.inH _ _ hF3)
        rw [hc]
        exact get_miss hu hsm dd hIs fun t => ⟨z, H3, I3.tok t, rz, fin_ok q4 x3.inH rdz⟩
      · exact False.elim q4
    | int i => exact plain (.i i) rfl q3
    | str l => exact plain (.s l) rfl q3
    | _ => exact False.elim q3
  | _ => exact False.elim q1
end
end Ev

/-! From the text's expressions to E, and that it is right. -/
namespace Ev
open PySem L2 PyProof.Rows RZ

/-- names of constants, defs, exception classes -/
structure Tb where
  gs : List Str
  fs : List (Str × Nat)
  cs : List Str
def Tb.nm (tb : Tb) : Nm := ⟨fun i => tb.gs[i]?, fun i => tb.fs[i]?, fun i => tb.cs[i]?⟩
def posOf (x : Str) : List Str → Option Nat
  | [] => none
  | y :: r => if y = x then some 0 else (posOf x r).map (· + 1)
theorem posOf_at {x : Str} : ∀ {l : List Str} {i : Nat}, posOf x l = some i → l[i]? = some x
  | [], _, h => by cases h
  | y :: r, i, h => by
    unfold posOf at h
    split at h
    · rename_i e; cases h; rw [e]; rfl
    · obtain ⟨j, hj, rfl⟩ := Option.map_eq_some_iff.mp h
      rw [List.getElem?_cons_succ]; exact posOf_at hj
def posF (x : Str) : List (Str × Nat) → Option (Nat × Nat)
  | [] => none
  | y :: r => if y.1 = x then some (0, y.2) else (posF x r).map fun p => (p.1 + 1, p.2)
theorem posF_at {x : Str} : ∀ {l : List (Str × Nat)} {i n : Nat}, posF x l = some (i, n) → l[i]? = some (x, n)
  | [], _, _, h => by cases h
  | y :: r, i, n, h => by
    unfold posF at h
    split at h
    · rename_i e; cases h; rw [← e]; rfl
    · obtain ⟨⟨j, m⟩, hj, e⟩ := Option.map_eq_some_iff.mp h
      cases e
      rw [List.getElem?_cons_succ]; exact posF_at hj

def litOf : Const → Option D
  | .none => some .non
  | .bool b => some (.bl b)
  | .int i => some (.int i)
  | .str x => if okc x.cps.toList then some (.str x.cps.toList) else none
  | _ => none
theorem litOf_ok {k : Const} {d : D} (h : litOf k = some d) : litB d k = true := by
  cases k <;> first | cases h | skip
  · rfl
  · show (_ == _) = true; simp
  · show decide _ = true; simp
  · rename_i x
    have h' : (if okc x.cps.toList then some (D.str x.cps.toList) else none) = some d := h
    split at h'
    · rename_i ho
      cases h'
      show (decide _ && okc _) = true
      rw [ho, Bool.and_true, decide_eq_true_eq]
    · cases h'
def kyOfC : Expr → Option Ky
  | .Constant (.int i) _ _ => some (.i i)
  | .Constant (.str x) _ _ => if okc x.cps.toList then some (.s x.cps.toList) else none
  | _ => none
def binOf : Operator → Option B2
  | .Add => some .add
  | .Sub => some .sub
  | .Mult => some .mul
  | .FloorDiv => some .fdiv
  | .Mod => some .mod
  | _ => none
theorem binOf_ok {o : Operator} {b : B2} (h : binOf o = some b) : o = opOf b := by cases o <;> cases h <;> rfl
def cmpOf : CmpOp → Option C2
  | .Eq => some .eq
  | .NotEq => some .ne
  | .Lt => some .lt
  | .LtE => some .le
  | .Gt => some .gt
  | .GtE => some .ge
  | .In => some .isin
  | .NotIn => some .notin
  | .Is => some .is_
  | .IsNot => some .isnot
theorem cmpOf_ok {o : CmpOp} {b : C2} (h : cmpOf o = some b) : o = cOf b := by cases o <;> cases h <;> rfl
/-- forms that are a test as any -/
def tst0 : Expr → Bool
  | .IfExp .. => false
  | _ => true
def plainT : Expr → Bool
  | .IfExp .. => false
  | .UnaryOp .. => false
  | .BoolOp .. => false
  | .Compare .. => false
  | _ => true
theorem plainT_ok {e : Expr} (h : plainT e = true) (env : PySem.Env) : ∀ whole, isTrue e env whole = (do let v ← whole; standAt e.pos; holding [v] (truthy v)) := by
  cases e <;> first | (intro _; rfl) | cases h
def notSet : Expr → Bool
  | .Set .. => false
  | _ => true
theorem notSet_in {e : Expr} (h : notSet e = true) (o : CmpOp) : behindInMarks o e = false := by
  cases e <;> first | rfl | cases h
theorem notSet_it {e : Expr} (h : notSet e = true) (env : PySem.Env) : ∀ x, foldedSetIterable e env x = pure x := by
  cases e <;> first | (intro _; rfl) | cases h

/-! ### what is had of each -/
structure Res (X : Cx) (C : Ct) (e : Expr) (t : E) : Prop where
  pe : PE X e (C.rd t)
  pt : tst0 e = true → PT X e (tB (C.rd t))
  pn : fresh t = true → PE X e (C.rn t)
  pw : ∀ op es pos, e = .BoolOp op es pos → PW X e (tB (C.rd t))
theorem Res.plain {X : Cx} {C : Ct} {e : Expr} {t : E} (h : PE X e (C.rd t)) (hp : plainT e = true) (hf : fresh t = false) : Res X C e t where
  pe := h
  pt := fun _ => pt_val h (plainT_ok hp X.env)
  pn := fun q => by rw [hf] at q; cases q
  pw := fun op es pos q => by subst q; cases hp
theorem Res.new {X : Cx} {C : Ct} {e : Expr} {t : E} (h : PE X e (C.rn t)) (hp : plainT e = true) (hf : ∀ env d, ev C.glob C.fn t env = .ok d → (∃ ds, d = .lst ds) ∨ ∃ ks ds, d = .dic ks ds) : Res X C e t where
  pe := rn_rd h hf
  pt := fun _ => pt_val (rn_rd h hf) (plainT_ok hp X.env)
  pn := fun _ => h
  pw := fun op es pos q => by subst q; cases hp
/-- what a part's reader promises -/
abbrev Rc (X : Cx) (C : Ct) (f : Expr → Option E) : Prop := ∀ e t, f e = some t → Res X C e t
def compL (f : Expr → Option E) : List Expr → Option (List E)
  | [] => some []
  | e :: es => if noStarB e then (f e).bind fun t => (compL f es).map (t :: ·) else none
theorem compL_ok {X : Cx} {C : Ct} {f : Expr → Option E} (hf : Rc X C f) : ∀ {es : List Expr} {ts : List E}, compL f es = some ts → PA X es (C.rds ts) ∧ NoStars es ∧ ts.length = es.length
  | [], ts, h => by cases h; exact ⟨s_nil, trivial, rfl⟩
  | e :: es, ts, h => by
    unfold compL at h
    split at h
    · rename_i hn
      obtain ⟨t, h1, h2⟩ := Option.bind_eq_some_iff.mp h
      obtain ⟨r, h3, rfl⟩ := Option.map_eq_some_iff.mp h2
      obtain ⟨h4, h5, h6⟩ := compL_ok hf h3
      exact ⟨s_cons (hf e t h1).pe h4 (noStar_of hn es X.env), ⟨noStar_of hn, h5⟩, by rw [List.length_cons, List.length_cons, h6]⟩
    · cases h

section
variable (tb : Tb) (N : List Str)
def cName (sc : Scope) (x : Str) : Option E :=
  if plainName x then (if locB sc x then (posOf x N).map E.var else if glB sc x then (posOf x tb.gs).map E.glo else none) else none
def cUn (f : Expr → Option E) : UnaryOp → Expr → Option E
  | .USub, a => (f a).map E.neg
  | .Not, a => if tst0 a then (f a).map E.not_ else none
  | _, _ => none
/-- the tail of a row of and, or is read as such a row -/
def cBool (f : Expr → Option E) (op : BoolOp) (pos : Pos) : List Expr → Option E
  | [a] => if tst0 a then f a else none
  | a :: b :: rest => if tst0 a then (f a).bind fun ta => (f (.BoolOp op (b :: rest) pos)).map (match op with
    | .And => E.and_ ta
    | .Or => E.or_ ta) else none
  | _ => none
def cCmp (f : Expr → Option E) (a : Expr) : List CmpOp → List Expr → Option E
  | [o], [b] => if notSet b then (cmpOf o).bind fun o' => (f a).bind fun ta => (f b).map (E.cmp o' ta) else none
  | [o, p], [b, c] => if notSet c then (cmpOf o).bind fun o' => (cmpOf p).bind fun p' => (f a).bind fun ta => (f b).bind fun tb => (f c).map (E.cmp2 o' p' ta tb) else none
  | _, _ => none
def cPart (f : Expr → Option E) : Option Expr → Option E
  | none => some .nul
  | some e => (f e).bind fun t => if t.isNul then none else some t
def cSub (f : Expr → Option E) (a : Expr) : Expr → Option E
  | .Slice none none (some (.UnaryOp .USub (.Constant (.int 1) _ _) _)) _ => (f a).map E.rev
  | .Slice lo hi none _ => (f a).bind fun ta => (cPart f lo).bind fun tl => (cPart f hi).map (E.slc ta tl)
  | i => if notSlice i then (f a).bind fun ta => (f i).map (E.idx ta) else none
def tyOf (x : Str) : Option Ty :=
  if x = "int" then some .int else if x = "bool" then some .bool else if x = "str" then some .str else if x = "tuple" then some .tuple else if x = "list" then some .list else none
def cIsi (f : Expr → Option E) (sc : Scope) : List Expr → Option E
  | [a, .Name tn _] => if noStarB a && (glB sc "isinstance" && glB sc tn) then (tyOf tn).bind fun t => (f a).map fun ta => E.isi ta t else none
  | _ => none
def b1Of (x : Str) : Option Bi :=
  if x = "len" then some .len else if x = "all" then some .all_ else if x = "int" then some .int_ else if x = "abs" then some .abs_ else if x = "str" then some .str_ else if x = "tuple" then some .tuple else if x = "list" then some .list else if x = "sum" then some .sum else if x = "dict" then some .dict else if x = "sorted" then some .sorted else none
def cBi (f : Expr → Option E) (b : Bi) : List Expr → Option E
  | [a] => if noStarB a then (f a).map (E.bi1 b) else none
  | _ => none
/-- set(a) as the one argument -/
def setArg : List Expr → Option Expr
  | [.Call (.Name s _) [a] [] _] => if s = "set" then some a else none
  | _ => none
theorem setArg_ok {args : List Expr} {a : Expr} (h : setArg args = some a) : ∃ p q, args = [.Call (.Name "set" p) [a] [] q] := by
  unfold setArg at h
  split at h
  · split at h
    · rename_i e; subst e; cases h; exact ⟨_, _, rfl⟩
    · cases h
  · cases h
/-- zip(a, b) as the one argument -/
def zipArg : List Expr → Option (Expr × Expr)
  | [.Call (.Name s _) [a, b] [] _] => if s = "zip" then some (a, b) else none
  | _ => none
theorem zipArg_ok {args : List Expr} {a b : Expr} (h : zipArg args = some (a, b)) : ∃ p q, args = [.Call (.Name "zip" p) [a, b] [] q] := by
  unfold zipArg at h
  split at h
  · split at h
    · rename_i e; subst e; cases h; exact ⟨_, _, rfl⟩
    · cases h
  · cases h
def cTupzip (f : Expr → Option E) (sc : Scope) (a b : Expr) : Option E := if glB sc "zip" then (compL f [a, b]).bind fun ts => (match ts with
  | [ta, tb] => some (.bi2 .tupzip ta tb)
  | _ => none) else none
def cDictzip (f : Expr → Option E) (sc : Scope) (a b : Expr) : Option E := if glB sc "zip" then (compL f [a, b]).bind fun ts => (match ts with
  | [ta, tb] => some (.bi2 .dictzip ta tb)
  | _ => none) else none
def cMm (f : Expr → Option E) (o : Bi) : List Expr → Option E
  | [a, b] => (compL f [a, b]).bind fun ts => (match ts with
    | [ta, tb] => some (.bi2 o ta tb)
    | _ => none)
  | _ => none
def cLenset (f : Expr → Option E) (sc : Scope) (a : Expr) : Option E := if glB sc "set" && noStarB a then (f a).map (E.bi1 .lenset) else none
def cSortset (f : Expr → Option E) (sc : Scope) (a : Expr) : Option E := if glB sc "set" && noStarB a then (f a).map (E.bi1 .sortset) else none
/-- o.m(a) -/
def cMt (f : Expr → Option E) (o : Expr) (m : Str) (ap : Pos) (e : Expr) (cp : Pos) : Option E :=
  if noStarB e && (noCall0 o && (ap.endLine == cp.line)) then (f o).bind fun to => (f e).bind fun te =>
    if m = "count" then some (.mt1 .count to te) else if m = "index" then some (.mt1 .index to te) else if m = "join" then some (.mt1 .join to te) else none
  else none
/-- one sign -/
def sign1 (y : Str) : Option Nat := match y.cps.toList with
  | [c] => some c
  | _ => none
/-- o.replace("c", "..") -/
def cRep (f : Expr → Option E) (o : Expr) (m : Str) (ap : Pos) (a b : Expr) (cp : Pos) : Option E := match a, b with
  | .Constant (.str y) _ _, .Constant (.str z) _ _ => if (m = "replace" && (noCall0 o && (ap.endLine == cp.line))) && ((!(y == z)) && okc z.cps.toList) then (sign1 y).bind fun c => (f o).map fun to => .bi1 (.rep c z.cps.toList) to else none
  | _, _ => none
/-- o.get(a, b) -/
def cGet2 (f : Expr → Option E) (o : Expr) (m : Str) (ap : Pos) (a b : Expr) (cp : Pos) : Option E :=
  if m = "get" && (noStarB a && (noStarB b && (noCall0 o && (ap.endLine == cp.line)))) then (f o).bind fun to => (f a).bind fun ta => (f b).map fun tb' => .get2 to ta tb' else none
def cCall (f : Expr → Option E) (sc : Scope) (x : Str) (args : List Expr) : Option E :=
  if plainName x && glB sc x then
    (match posF x tb.fs with
    | some (i, n) => (compL f args).bind fun ts => if ts.length = n then some (.call i ts) else none
    | none => if x = "isinstance" then cIsi f sc args else match (if x = "len" then setArg args else none) with
      | some a => cLenset f sc a
      | none => (match (if x = "sorted" then setArg args else none) with
        | some a => cSortset f sc a
        | none => (match (if x = "tuple" then zipArg args else none) with
          | some p => cTupzip f sc p.1 p.2
          | none => (match (if x = "dict" then zipArg args else none) with
            | some p => cDictzip f sc p.1 p.2
            | none => if x = "min" then cMm f .min2 args else if x = "max" then cMm f .max2 args else (match b1Of x with
              | some b => cBi f b args
              | none => none)))))
  else none
/-- what is walked, by its target -/
def isTup : Expr → Bool
  | .Tuple .. => true
  | _ => false
def iterCall : Expr → Option (Str × List Expr)
  | .Call (.Name x _) args [] _ => if x = "range" || (x = "enumerate" || x = "zip") then some (x, args) else none
  | _ => none
theorem iterCall_ok {e : Expr} {x : Str} {args : List Expr} (h : iterCall e = some (x, args)) : ∃ p pos, e = .Call (.Name x p) args [] pos := by
  unfold iterCall at h
  split at h
  · split at h
    · cases h; exact ⟨_, _, rfl⟩
    · cases h
  · cases h
def cIter (f : Expr → Option E) (sc : Scope) (tg e : Expr) : Option (Ik × List E) :=
  match iterCall e with
  | none => (f e).map fun t => (.val, [t])
  | some (x, args) => if glB sc x then (compL f args).bind fun ts => (match ts with
      | [t] => if x = "range" then some (.range, [t]) else if x = "enumerate" && isTup tg then some (.enum, [t]) else none
      | [t, u] => if x = "range" then some (.range2, [t, u]) else if x = "zip" && isTup tg then some (.zip2, [t, u]) else none
      | [t, u, v] => if x = "zip" && isTup tg then some (.zip3, [t, u, v]) else none
      | _ => none) else none
/-- targets -/
def compT (N : List Str) : Nat → Expr → Option T
  | 0, _ => none
  | n + 1, e => match e with
    | .Name x _ => (posOf x N).map T.one
    | .Tuple es _ _ => (es.mapM (compT N n)).map T.many
    | _ => none
def okIn (scope : Scope) (x : Str) : Bool := match scope.names.lookup x with
  | some .local => true
  | some .cell => true
  | _ => false
def ownOf (N : List Str) : List (Str × NameKind) → List (Str × Nat)
  | [] => []
  | (x, k) :: r => match k with
    | .local => (match posOf x N with
      | some i => (x, i) :: ownOf N r
      | none => ownOf N r)
    | .cell => (match posOf x N with
      | some i => (x, i) :: ownOf N r
      | none => ownOf N r)
    | _ => ownOf N r
def cIfs (f : Expr → Option E) : List Expr → Option (List E)
  | [] => some []
  | [c] => if tst0 c then (f c).map fun t => [t] else none
  | _ => none
def subB (a b : List Nat) : Bool := a.all fun i => decide (i ∈ b)
def cLc (f g : Expr → Option E) (sc : Scope) (elt : Expr) (scope : Scope) : List Comprehension → Option E
  | [⟨tg, iter, ifs, 0⟩] => if blkC N sc scope (ownOf N scope.names) && notSet iter then
      (cIter f sc tg iter).bind fun ka => (compT N 20 tg).bind fun t => (cIfs g ifs).bind fun cs => (g elt).bind fun te =>
        if chkT N (okIn scope) t tg && (subB (tslots t) ((ownOf N scope.names).map (·.2)) && wkOk ka.1 t) then some (.lc te t ka.1 ka.2 cs ((ownOf N scope.names).map (·.2))) else none
    else none
  | _ => none
/-- a dict of one whose key is asked for -/
def dynB : List (Option Expr) → Bool
  | [some k] => (kyOfC k).isNone
  | _ => false
def cDct1 (f : Expr → Option E) : List (Option Expr) → List Expr → Option E
  | [some k], [v] => (f k).bind fun tk => (f v).map (E.bi2 .dct1 tk)
  | _, _ => none
def cDict (f : Expr → Option E) : List (Option Expr) → List Expr → Option (List Ky × List E)
  | [], [] => some ([], [])
  | some k :: ks, v :: vs => (kyOfC k).bind fun ky => (f v).bind fun t => (cDict f ks vs).map fun p => (ky :: p.1, t :: p.2)
  | _, _ => none
def comp : Nat → Scope → Expr → Option E
  | 0, _, _ => none
  | n + 1, sc, e => match e with
    | .Name x _ => cName tb N sc x
    | .Constant k _ _ => (litOf k).map E.lit
    | .Tuple es _ _ => (compL (comp n sc) es).map E.tup
    | .List es _ => (compL (comp n sc) es).map E.lst
    | .Dict [] [] _ => some .emp
    | .Dict ks vs _ => if dynB ks then cDct1 (comp n sc) ks vs else (cDict (comp n sc) ks vs).bind fun p => if !p.1.isEmpty && p.1.length ≤ 15 then some (.dct p.1 p.2) else none
    | .BinOp a o b _ => (binOf o).bind fun o' => (comp n sc a).bind fun ta => (comp n sc b).map (E.bin o' ta)
    | .UnaryOp o a _ => cUn (comp n sc) o a
    | .BoolOp op es pos => cBool (comp n sc) op pos es
    | .Compare a os bs _ => cCmp (comp n sc) a os bs
    | .IfExp c a b _ => if tst0 c then (comp n sc c).bind fun tc => (comp n sc a).bind fun ta => (comp n sc b).map (E.ite tc ta) else none
    | .Subscript a i _ => cSub (comp n sc) a i
    | .Call (.Name x _) args [] _ => cCall tb (comp n sc) sc x args
    | .Call (.Attribute o m ap) [a] [] cp => cMt (comp n sc) o m ap a cp
    | .Call (.Attribute o m ap) [a, b] [] cp => if m = "replace" then cRep (comp n sc) o m ap a b cp else cGet2 (comp n sc) o m ap a b cp
    | .ListComp elt gs scope _ => cLc N (comp n sc) (comp n (relS scope sc)) sc elt scope gs
    | _ => none
end
end Ev

/-! replace of a written sign. -/
namespace Ev
open PySem PySem.Spec L2 PyProof.Rows RZ StrLaws
theorem replL_one (c : Nat) (z : List Nat) : ∀ l : List Nat, replL [c] z l = repl1 c z l
  | [] => replL_nil
  | d :: l => by
    have ih := replL_one c z l
    show (if (d :: l).take 1 = [c] then z ++ replS [c] z 0 l else d :: replS [c] z 0 l) = _
    have e : replS [c] z 0 l = repl1 c z l := ih
    rw [e]
    show _ = (if d = c then z else [d]) ++ repl1 c z l
    have e2 : (d :: l).take 1 = [d] := rfl
    rw [e2]
    by_cases h : d = c
    · rw [if_pos h, if_pos (by rw [h])]
    · rw [if_neg h, if_neg (by intro w; injection w with w _; exact h w)]; rfl
theorem replace_one {c : Nat} {z : Str} {y : Str} (hy : y.cps.toList = [c]) (l : List Nat) : Txt.replace (tx l) y z = tx (repl1 c z.cps.toList l) := by
  have h := replace_list (x := tx l) (y := y) (z := z) (by show 1 ≤ y.cps.size; rw [← Array.length_toList, hy]; exact Nat.le_refl _)
  rw [hy, tx_list, replL_one] at h
  generalize Txt.replace (tx l) y z = w at h
  obtain ⟨w⟩ := w
  have h' : w.toList = repl1 c z.cps.toList l := h
  rw [← h']
theorem okc_repl {c : Nat} {z l : List Nat} (hz : okc z = true) (hl : okc l = true) : okc (repl1 c z l) = true := by
  unfold okc at *
  rw [List.all_eq_true] at *
  intro x hx
  obtain ⟨d, hd, hx⟩ := List.mem_flatMap.mp hx
  split at hx
  · exact hz x hx
  · rw [List.mem_singleton.mp hx]; exact hl d hd
section
variable {X : Cx} {C : Ct} {o : Expr} {to : TE} {y z : Str} {j k : Nat} {c0 c1 ap cp : Pos}
theorem pe_rep (ho : PE X o to) (hyz : (y == z) = false) (hbase : attributeBase o "replace" X.env (eval o X.env) = eval o X.env) (hline : (ap.endLine == cp.line) = true) :
    PE X (.Call (.Attribute o "replace" ap) [.Constant (.str y) j c0, .Constant (.str z) k c1] [] cp) (fun σ H Q => to σ H fun v G => ∃ x, v = .str x ∧ x.length + (x.length + 1) * z.length ≤ 16777216 ∧ Q (.str (Txt.replace x y z)) G) := by
  refine ⟨fun _ _ _ _ _ I q => PySem.Call_method2 hbase rfl hline (ho.on I q fun v u z1 G J r ⟨x, e1, hb, w⟩ => ?_)⟩
  subst e1
  obtain ⟨t, rfl⟩ := r
  have low : 515 ≤ lowT := by decide
  have tk := J.tk
  refine ⟨"str", _, F.plainAttrs_str, F.slot_str_replace, F.type_str_replace, typeIs_str _ _ _, (fun _ e => nomatch e), Calls.callWith_builtin rfl (Calls.evalArgs_plain (Calls.spliced_cons ?_))⟩
  refine Calls.Constant_str (Calls.spliced_cons (Calls.Constant_str (Calls.spliced_nil ?_)))
  exact upE (by show lowT ≤ z1.toks + 1 + 1; omega) (PySem.SC.replace (by show z1.toks ≠ 0; omega) (by show z1.toks + 1 ≠ 0; omega) (by show z1.toks ≠ z1.toks + 1; omega) hyz hb fun t' k => ⟨.str (Txt.replace x y z), G, J.toInv.tok k, ⟨t', rfl⟩, w⟩)
end
section
variable {X : Cx} {C : Ct} {o : Expr} {to : E} {y z : Str} {j k c : Nat} {c0 c1 ap cp : Pos}
theorem s_rep (G : Gd0 X C) (ho : PE X o (C.rd to)) (hy : sign1 y = some c) (hyz : (y == z) = false) (hz : okc z.cps.toList = true) (hn : noCall0 o = true) (hline : (ap.endLine == cp.line) = true) :
    PE X (.Call (.Attribute o "replace" ap) [.Constant (.str y) j c0, .Constant (.str z) k c1] [] cp) (C.rd (.bi1 (.rep c z.cps.toList) to)) := by
  refine PE.weak (pe_rep ho hyz (base_of hn) hline) fun σ H Q ⟨env, F, he, hs, q⟩ => ?_
  have q' : fin C.K C.w ((ev C.glob C.fn to env).bind fun x => dRep c z.cps.toList x) F H Q _ := q
  refine ⟨env, F, he, hs, fin_bind q' fun d v F1 H1 e1 x1 r1 q1 => ?_⟩
  have hy' : y.cps.toList = [c] := by
    unfold sign1 at hy
    split at hy
    · rename_i e; cases hy; exact e
    · cases hy
  cases d with
  | str l =>
    obtain ⟨rfl, hok⟩ := r1
    have q2 : fin C.K C.w (if l.length ≤ 1000 && z.cps.toList.length ≤ 10 then .ok (.str (repl1 c z.cps.toList l)) else .no) F1 H1 Q _ := q1
    split at q2
    · rename_i hb
      rw [Bool.and_eq_true, decide_eq_true_eq, decide_eq_true_eq] at hb
      refine ⟨tx l, rfl, ?_, ?_⟩
      · have hz : z.length ≤ 10 := by
          show z.cps.size ≤ 10
          rw [← Array.length_toList]; exact hb.2
        have hl : (tx l).length ≤ 1000 := by rw [tx_len]; exact hb.1
        have := Nat.mul_le_mul (Nat.add_le_add_right hl 1) hz
        omega
      · rw [replace_one hy' l]
        exact fin_ok (show fin C.K C.w (.ok (.str (repl1 c z.cps.toList l))) F1 H1 Q _ from q2) x1.inH ⟨rfl, okc_repl hz hok⟩
    · exact False.elim q2
  | _ => exact False.elim q1
end
end Ev

/-! A dict of one, its key asked for. -/
namespace Ev
open PySem L2 PyProof.Rows
section
variable {X : Cx} {C : Ct}
theorem s_dct1 {pos : Pos} {ke ve : Expr} {tk tv : E} (hk : PE X ke (C.rd tk)) (hv : PE X ve (C.rd tv)) : PE X (.Dict [some ke] [ve] pos) (C.rn (.bi2 .dct1 tk tv)) := by
  refine PE.weak (pe_disp (pps_cons hk hv pps_nil) rfl rfl (by simp) (by simp)) fun σ H Q ⟨env, F, he, hs, q⟩ p hp => ?_
  have ee : ev C.glob C.fn (.bi2 .dct1 tk tv) env = (ev C.glob C.fn tk env).bind fun x => (ev C.glob C.fn tv env).bind fun y => dDct1 x y := rfl
  rw [ee] at q
  show C.rd tk σ (upd H p (.dK [])) _
  refine ⟨env, F, he, same_beside hs hp, ?_⟩
  cases e1 : ev C.glob C.fn tk env with
  | no => rw [e1] at q; exact q
  | ex c => rw [e1] at q; exact fun H' s => q H' ((same_upd hp).trans s)
  | ok d =>
    rw [e1, R.bind_ok] at q
    intro v F1 H1 x1 r1
    show C.rd tv σ H1 _
    refine ⟨env, F1, he.mono x1.sub, x1.inH, ?_⟩
    cases e2 : ev C.glob C.fn tv env with
    | no => rw [e2] at q; exact q
    | ex c => rw [e2] at q; exact fun H' s => q H' ((same_upd hp).trans (x1.same.trans s))
    | ok e =>
      rw [e2, R.bind_ok] at q
      intro u F2 H2 x2 r2
      obtain ⟨H3, rfl, hp3, x3⟩ := ext_hide hp hs (x1.trans x2)
      unfold dDct1 at q
      cases hky : kyOf d with
      | none => rw [hky] at q; exact False.elim q
      | some k =>
        rw [hky] at q
        have hv : v = kV (kyK k) := ky_of hky r1
        refine ⟨upd_same, [(kyK k, u)], by rw [hv]; rfl, by simp, ?_⟩
        rw [mergeK_new _ [] (by simp), List.nil_append, upd_twice]
        exact q p _ F2 H3 x3 hp3 rfl (by simp) ⟨u, [], rfl, r2, rfl⟩
theorem dct1_new {tk tv : E} (env : Env) (d : D) (h : ev C.glob C.fn (.bi2 .dct1 tk tv) env = .ok d) : (∃ ds, d = .lst ds) ∨ ∃ ks ds, d = .dic ks ds := by
  obtain ⟨x, h1, h2⟩ := R.bind_eq_ok (show R.bind (ev C.glob C.fn tk env) _ = .ok d from h)
  obtain ⟨y, h3, h4⟩ := R.bind_eq_ok h2
  have h5 : dDct1 x y = .ok d := h4
  unfold dDct1 at h5
  split at h5
  · cases h5; exact .inr ⟨_, _, rfl⟩
  · cases h5
end
end Ev

/-! The reading of expressions is right. -/
namespace Ev
open PySem L2 PyProof.Rows RZ

section
variable {tb : Tb} {X : Cx} {C : Ct}
theorem cName_ok (G : Gd tb.nm X C) {x : Str} {pos : Pos} {t : E} (h : cName tb X.N X.env.scope x = some t) : Res X C (.Name x pos) t := by
  unfold cName at h
  split at h
  · rename_i hp
    split at h
    · rename_i hl
      obtain ⟨i, hi, rfl⟩ := Option.map_eq_some_iff.mp h
      exact .plain (s_var (posOf_at hi) (locB_vis hl) hp) rfl rfl
    · split at h
      · rename_i hg
        obtain ⟨i, hi, rfl⟩ := Option.map_eq_some_iff.mp h
        exact .plain (s_glo G (posOf_at hi) (glB_gl hg) hp) rfl rfl
      · cases h
  · cases h
theorem cUn_ok {f : Expr → Option E} (hf : Rc X C f) {o : UnaryOp} {a : Expr} {pos : Pos} {t : E} (h : cUn f o a = some t) : Res X C (.UnaryOp o a pos) t := by
  unfold cUn at h
  split at h
  · obtain ⟨ta, h1, rfl⟩ := Option.map_eq_some_iff.mp h
    have p := s_neg (pos := pos) (hf a ta h1).pe
    exact ⟨p, fun _ => pt_val p, fun q => (by cases q), fun _ _ _ q => by cases q⟩
  · split at h
    · rename_i ht
      obtain ⟨ta, h1, rfl⟩ := Option.map_eq_some_iff.mp h
      exact ⟨s_not (hf a ta h1).pe, fun _ => st_not ((hf a ta h1).pt ht), fun q => (by cases q), fun _ _ _ q => by cases q⟩
    · cases h
  · cases h
theorem rn_one {op : BoolOp} {a : Expr} {pos : Pos} {t : E} (h : PE X a (C.rn t)) : PE X (.BoolOp op [a] pos) (C.rn t) := pe_one h
theorem cBool_ok {f : Expr → Option E} (hf : Rc X C f) {op : BoolOp} {es : List Expr} {pos : Pos} {t : E} (h : cBool f op pos es = some t) : Res X C (.BoolOp op es pos) t := by
  unfold cBool at h
  split at h
  · rename_i a
    split at h
    · rename_i ht
      have r := hf a t h
      have w : PW X (.BoolOp op [a] pos) (tB (C.rd t)) := by
        cases op with
        | And => exact pw_and1 (r.pt ht)
        | Or => exact pw_or1 (r.pt ht)
      exact ⟨pe_one r.pe, fun _ => w.pt, fun q => pe_one (r.pn q), fun _ _ _ _ => w⟩
    · cases h
  · rename_i a b rest
    split at h
    · rename_i ht
      obtain ⟨ta, h1, h2⟩ := Option.bind_eq_some_iff.mp h
      obtain ⟨tr, h3, rfl⟩ := Option.map_eq_some_iff.mp h2
      have r := hf a ta h1
      have r2 := hf _ tr h3
      cases op with
      | And =>
        have w := sw_and (pos := pos) (r.pt ht) (r2.pw _ _ _ rfl)
        exact ⟨s_and r.pe r2.pe, fun _ => w.pt, fun q => (by cases q), fun _ _ _ _ => w⟩
      | Or =>
        have w := sw_or (pos := pos) (r.pt ht) (r2.pw _ _ _ rfl)
        exact ⟨s_or r.pe r2.pe, fun _ => w.pt, fun q => (by cases q), fun _ _ _ _ => w⟩
    · cases h
  · cases h
theorem cCmp_ok (G : Gd tb.nm X C) {f : Expr → Option E} (hf : Rc X C f) {a : Expr} {os : List CmpOp} {bs : List Expr} {pos : Pos} {t : E} (h : cCmp f a os bs = some t) : Res X C (.Compare a os bs pos) t := by
  unfold cCmp at h
  split at h
  · split at h
    · rename_i hn
      obtain ⟨o', h1, h2⟩ := Option.bind_eq_some_iff.mp h
      obtain ⟨ta, h3, h4⟩ := Option.bind_eq_some_iff.mp h2
      obtain ⟨tb', h5, rfl⟩ := Option.map_eq_some_iff.mp h4
      obtain rfl := cmpOf_ok h1
      exact ⟨s_cmp G.toGd0 o' (hf _ _ h3).pe (hf _ _ h5).pe (notSet_in hn _), fun _ => st_cmp G.toGd0 o' (hf _ _ h3).pe (hf _ _ h5).pe (notSet_in hn _), fun q => (by cases q), fun _ _ _ q => by cases q⟩
    · cases h
  · split at h
    · rename_i hn
      obtain ⟨o', h1, h2⟩ := Option.bind_eq_some_iff.mp h
      obtain ⟨p', h3, h4⟩ := Option.bind_eq_some_iff.mp h2
      obtain ⟨ta, h5, h6⟩ := Option.bind_eq_some_iff.mp h4
      obtain ⟨tb', h7, h8⟩ := Option.bind_eq_some_iff.mp h6
      obtain ⟨tc, h9, rfl⟩ := Option.map_eq_some_iff.mp h8
      obtain rfl := cmpOf_ok h1
      obtain rfl := cmpOf_ok h3
      exact ⟨s_cmp2 G.toGd0 o' p' (hf _ _ h5).pe (hf _ _ h7).pe (hf _ _ h9).pe (notSet_in hn _), fun _ => st_cmp2 G.toGd0 o' p' (hf _ _ h5).pe (hf _ _ h7).pe (hf _ _ h9).pe (notSet_in hn _), fun q => (by cases q), fun _ _ _ q => by cases q⟩
    · cases h
  · cases h
theorem cPart_ok {f : Expr → Option E} (hf : Rc X C f) {o : Option Expr} {t : E} (h : cPart f o = some t) : PO X o (C.rpt t) := by
  unfold cPart at h
  split at h
  · cases h; exact s_noPart
  · obtain ⟨t', h1, h2⟩ := Option.bind_eq_some_iff.mp h
    split at h2
    · cases h2
    · rename_i hn
      cases h2
      exact s_part (hf _ _ h1).pe (by simpa using hn)
theorem cSub_ok (G : Gd tb.nm X C) {f : Expr → Option E} (hf : Rc X C f) {a i : Expr} {pos : Pos} {t : E} (h : cSub f a i = some t) : Res X C (.Subscript a i pos) t := by
  unfold cSub at h
  split at h
  · obtain ⟨ta, h1, rfl⟩ := Option.map_eq_some_iff.mp h
    exact .plain (s_rev G.toGd0 (hf _ _ h1).pe) rfl rfl
  · obtain ⟨ta, h1, h2⟩ := Option.bind_eq_some_iff.mp h
    obtain ⟨tl, h3, h4⟩ := Option.bind_eq_some_iff.mp h2
    obtain ⟨tu, h5, rfl⟩ := Option.map_eq_some_iff.mp h4
    exact .plain (s_slc G.toGd0 (hf _ _ h1).pe (cPart_ok hf h3) (cPart_ok hf h5)) rfl rfl
  · split at h
    · rename_i hn
      obtain ⟨ta, h1, h2⟩ := Option.bind_eq_some_iff.mp h
      obtain ⟨ti, h3, rfl⟩ := Option.map_eq_some_iff.mp h2
      exact .plain (s_idx G.toGd0 (hf _ _ h1).pe (hf _ _ h3).pe hn) rfl rfl
    · cases h
theorem tyOf_ok {x : Str} {t : Ty} (h : tyOf x = some t) : x = Str.ofString (tyN t) := by
  unfold tyOf at h
  split at h
  · cases h; assumption
  split at h
  · cases h; assumption
  split at h
  · cases h; assumption
  split at h
  · cases h; assumption
  split at h
  · cases h; assumption
  · cases h
theorem cIsi_ok (G : Gd tb.nm X C) {f : Expr → Option E} (hf : Rc X C f) {args : List Expr} {p pos : Pos} {t : E} (h : cIsi f X.env.scope args = some t) : Res X C (.Call (.Name "isinstance" p) args [] pos) t := by
  unfold cIsi at h
  split at h
  · split at h
    · rename_i hc
      rw [Bool.and_eq_true, Bool.and_eq_true] at hc
      obtain ⟨ty, h1, h2⟩ := Option.bind_eq_some_iff.mp h
      obtain ⟨ta, h3, rfl⟩ := Option.map_eq_some_iff.mp h2
      exact .plain (s_isi G (tyOf_ok h1) (glB_gl hc.2.1) (glB_gl hc.2.2) (hf _ _ h3).pe (noStar_of hc.1)) rfl rfl
    · cases h
  · cases h
theorem list_new {a : E} (env : Env) (d : D) (h : ev C.glob C.fn (.bi1 .list a) env = .ok d) : (∃ ds, d = .lst ds) ∨ ∃ ks ds, d = .dic ks ds := by
  obtain ⟨x, h1, h2⟩ := R.bind_eq_ok (show R.bind (ev C.glob C.fn a env) _ = .ok d from h)
  exact dList_new x d h2
theorem dDict_new (d r : D) (h : dDict d = .ok r) : (∃ ds, r = .lst ds) ∨ ∃ ks ds, r = .dic ks ds := by
  unfold dDict at h
  split at h
  · cases h; exact .inr ⟨_, _, rfl⟩
  · split at h
    · split at h
      · cases h; exact .inr ⟨_, _, rfl⟩
      · cases h
    · cases h
  · split at h
    · split at h
      · cases h; exact .inr ⟨_, _, rfl⟩
      · cases h
    · cases h
  · cases h
theorem sorted0_new (d r : D) (h : Ev.sorted0 d = .ok r) : (∃ ds, r = .lst ds) ∨ ∃ ks ds, r = .dic ks ds := by
  unfold Ev.sorted0 at h
  split at h
  · split at h
    · split at h
      · cases h; exact .inl ⟨_, rfl⟩
      · split at h
        · cases h; exact .inl ⟨_, rfl⟩
        · cases h
    · cases h
  · split at h
    · split at h
      · cases h; exact .inl ⟨_, rfl⟩
      · cases h
    · cases h
  · cases h
theorem sorted_new (d r : D) (h : Ev.sorted d = .ok r) : (∃ ds, r = .lst ds) ∨ ∃ ks ds, r = .dic ks ds := by
  unfold Ev.sorted at h
  split at h
  · split at h
    · cases h; exact .inl ⟨_, rfl⟩
    · exact sorted0_new _ _ h
  · exact sorted0_new _ _ h
theorem dict_new {a : E} (env : Env) (d : D) (h : ev C.glob C.fn (.bi1 .dict a) env = .ok d) : (∃ ds, d = .lst ds) ∨ ∃ ks ds, d = .dic ks ds := by
  obtain ⟨x, h1, h2⟩ := R.bind_eq_ok (show R.bind (ev C.glob C.fn a env) _ = .ok d from h)
  exact dDict_new x d h2
theorem sorted_new' {a : E} (env : Env) (d : D) (h : ev C.glob C.fn (.bi1 .sorted a) env = .ok d) : (∃ ds, d = .lst ds) ∨ ∃ ks ds, d = .dic ks ds := by
  obtain ⟨x, h1, h2⟩ := R.bind_eq_ok (show R.bind (ev C.glob C.fn a env) _ = .ok d from h)
  exact sorted_new x d h2
theorem cBi_ok (G : Gd tb.nm X C) {f : Expr → Option E} (hf : Rc X C f) {b : Bi} {x : Str} {args : List Expr} {p pos : Pos} {t : E} (hx : b1Of x = some b) (hg : Gl X x) (hp : plainName x = true) (h : cBi f b args = some t) : Res X C (.Call (.Name x p) args [] pos) t := by
  unfold cBi at h
  split at h
  · split at h
    · rename_i hn
      have ns := noStar_of hn
      obtain ⟨ta, h1, rfl⟩ := Option.map_eq_some_iff.mp h
      have ha := (hf _ _ h1).pe
      unfold b1Of at hx
      split at hx
      · rename_i e; subst e; cases hx
        exact .plain (s_b1 G cr_len (by decide +kernel) (by decide +kernel) hg hp dLen_ne (fun _ => rfl) ha ns) rfl rfl
      split at hx
      · rename_i e; subst e; cases hx
        exact .plain (s_b1 G (cr_all' G.calm) (by decide +kernel) (by decide +kernel) hg hp dAll_ne (fun _ => rfl) ha ns) rfl rfl
      split at hx
      · rename_i e; subst e; cases hx
        exact .plain (s_t1 G cr_int (by decide +kernel) (by decide +kernel) hg hp dInt_ne (fun _ => rfl) ha ns) rfl rfl
      split at hx
      · rename_i e; subst e; cases hx
        exact .plain (s_b1 G cr_abs (by decide +kernel) (by decide +kernel) hg hp dAbs_ne (fun _ => rfl) ha ns) rfl rfl
      split at hx
      · rename_i e; subst e; cases hx
        exact .plain (s_t1 G cr_str (by decide +kernel) (by decide +kernel) hg hp dStr_ne (fun _ => rfl) ha ns) rfl rfl
      split at hx
      · rename_i e; subst e; cases hx
        exact .plain (s_t1 G cr_tuple (by decide +kernel) (by decide +kernel) hg hp dTuple_ne (fun _ => rfl) ha ns) rfl rfl
      split at hx
      · rename_i e; subst e; cases hx
        exact .new (s_tn G cr_list (by decide +kernel) (by decide +kernel) hg hp dList_ne dList_new (fun _ => rfl) ha ns) rfl list_new
      split at hx
      · rename_i e; subst e; cases hx
        exact .plain (s_b1 G (cr_sum' G.calm) (by decide +kernel) (by decide +kernel) hg hp dSum_ne (fun _ => rfl) ha ns) rfl rfl
      split at hx
      · rename_i e; subst e; cases hx
        exact .new (s_tn G (cr_dict G.calm) (by decide +kernel) (by decide +kernel) hg hp dDict_ne dDict_new (fun _ => rfl) ha ns) rfl dict_new
      split at hx
      · rename_i e; subst e; cases hx
        exact .new (s_bn G (cr_sortedX G.calm) (by decide +kernel) (by decide +kernel) hg hp sorted_ne sorted_new (fun _ => rfl) ha ns) rfl sorted_new'
      · cases hx
    · cases h
  · cases h
theorem cCall_ok (G : Gd tb.nm X C) {f : Expr → Option E} (hf : Rc X C f) {x : Str} {args : List Expr} {p pos : Pos} {t : E} (h : cCall tb f X.env.scope x args = some t) : Res X C (.Call (.Name x p) args [] pos) t := by
  unfold cCall at h
  split at h
  · rename_i hc
    rw [Bool.and_eq_true] at hc
    split at h
    · rename_i i n hp
      obtain ⟨ts, h1, h2⟩ := Option.bind_eq_some_iff.mp h
      split at h2
      · rename_i hl
        cases h2
        obtain ⟨a1, a2, a3⟩ := compL_ok hf h1
        exact .plain (s_call G (posF_at hp) (glB_gl hc.2) hc.1 a1 a2 hl a3) rfl rfl
      · cases h2
    · split at h
      · rename_i e
        subst e
        exact cIsi_ok G hf h
      · split at h
        · rename_i a ha
          split at ha
          · rename_i ex
            subst ex
            obtain ⟨p2, q2, rfl⟩ := setArg_ok ha
            unfold cLenset at h
            split at h
            · rename_i hc2
              rw [Bool.and_eq_true] at hc2
              obtain ⟨ta, h1, rfl⟩ := Option.map_eq_some_iff.mp h
              exact .plain (s_lenset G (glB_gl hc.2) (glB_gl hc2.1) (hf _ _ h1).pe (noStar_of hc2.2)) rfl rfl
            · cases h
          · cases ha
        · split at h
          · rename_i a ha
            split at ha
            · rename_i ex
              subst ex
              obtain ⟨p2, q2, rfl⟩ := setArg_ok ha
              unfold cSortset at h
              split at h
              · rename_i hc2
                rw [Bool.and_eq_true] at hc2
                obtain ⟨ta, h1, rfl⟩ := Option.map_eq_some_iff.mp h
                exact .plain (s_sortset G (glB_gl hc.2) (glB_gl hc2.1) (hf _ _ h1).pe (noStar_of hc2.2)) rfl rfl
              · cases h
            · cases ha
          · split at h
            · rename_i p0 hp0
              split at hp0
              · rename_i ex
                subst ex
                obtain ⟨p2, q2, rfl⟩ := zipArg_ok (a := p0.1) (b := p0.2) hp0
                unfold cTupzip at h
                split at h
                · rename_i hc2
                  obtain ⟨ts, h1, h2⟩ := Option.bind_eq_some_iff.mp h
                  obtain ⟨a1, a2, a3⟩ := compL_ok hf h1
                  split at h2
                  · cases h2
                    exact .plain (s_tupzip G (glB_gl hc.2) (glB_gl hc2) a1 a2.1 a2.2.1) rfl rfl
                  · cases h2
                · cases h
              · cases hp0
            · split at h
              · rename_i p0 hp0
                split at hp0
                · rename_i ex
                  subst ex
                  obtain ⟨p2, q2, rfl⟩ := zipArg_ok (a := p0.1) (b := p0.2) hp0
                  unfold cDictzip at h
                  split at h
                  · rename_i hc2
                    obtain ⟨ts, h1, h2⟩ := Option.bind_eq_some_iff.mp h
                    obtain ⟨a1, a2, a3⟩ := compL_ok hf h1
                    split at h2
                    · cases h2
                      exact .plain (s_dictzip G (glB_gl hc.2) (glB_gl hc2) a1 a2.1 a2.2.1) rfl rfl
                    · cases h2
                  · cases h
                · cases hp0
              · split at h
                · rename_i ex
                  subst ex
                  unfold cMm at h
                  split at h
                  · obtain ⟨ts, h1, h2⟩ := Option.bind_eq_some_iff.mp h
                    obtain ⟨a1, a2, a3⟩ := compL_ok hf h1
                    split at h2
                    · cases h2
                      exact .plain (s_min G (glB_gl hc.2) a1 a2.1 a2.2.1) rfl rfl
                    · cases h2
                  · cases h
                · split at h
                  · rename_i ex
                    subst ex
                    unfold cMm at h
                    split at h
                    · obtain ⟨ts, h1, h2⟩ := Option.bind_eq_some_iff.mp h
                      obtain ⟨a1, a2, a3⟩ := compL_ok hf h1
                      split at h2
                      · cases h2
                        exact .plain (s_max G (glB_gl hc.2) a1 a2.1 a2.2.1) rfl rfl
                      · cases h2
                    · cases h
                  · split at h
                    · rename_i b hb
                      exact cBi_ok G hf hb (glB_gl hc.2) hc.1 h
                    · cases h
  · cases h
theorem cMt_ok (G : Gd0 X C) {f : Expr → Option E} (hf : Rc X C f) {o e : Expr} {m : Str} {ap cp : Pos} {t : E} (h : cMt f o m ap e cp = some t) : Res X C (.Call (.Attribute o m ap) [e] [] cp) t := by
  unfold cMt at h
  split at h
  · rename_i hc
    rw [Bool.and_eq_true, Bool.and_eq_true] at hc
    obtain ⟨to, h1, h2⟩ := Option.bind_eq_some_iff.mp h
    obtain ⟨te, h3, h4⟩ := Option.bind_eq_some_iff.mp h2
    split at h4
    · rename_i em
      subst em; cases h4
      exact .plain (s_mtL G PySem.F.slot_list_count PySem.F.type_list_count (mt_count' G.hu) (fun _ _ => rfl) mCount_ne (fun x hx => by cases x <;> first | exact ⟨_, rfl⟩ | cases hx) (hf _ _ h1).pe (hf _ _ h3).pe (noStar_of hc.1) hc.2.1 hc.2.2) rfl rfl
    · split at h4
      · rename_i em
        subst em; cases h4
        exact .plain (s_mtL G PySem.F.slot_list_index PySem.F.type_list_index (mt_index' G.hu) (fun _ _ => rfl) mIndex_ne (fun x hx => by cases x <;> first | exact ⟨_, rfl⟩ | cases hx) (hf _ _ h1).pe (hf _ _ h3).pe (noStar_of hc.1) hc.2.1 hc.2.2) rfl rfl
      · split at h4
        · rename_i em
          subst em; cases h4
          exact .plain (s_join G (hf _ _ h1).pe (hf _ _ h3).pe (noStar_of hc.1) hc.2.1 hc.2.2) rfl rfl
        · cases h4
  · cases h
theorem cRep_ok (G : Gd0 X C) {f : Expr → Option E} (hf : Rc X C f) {o a b : Expr} {m : Str} {ap cp : Pos} {t : E} (h : cRep f o m ap a b cp = some t) : Res X C (.Call (.Attribute o m ap) [a, b] [] cp) t := by
  unfold cRep at h
  split at h
  · rename_i y j c0 z k c1
    split at h
    · rename_i hc
      rw [Bool.and_eq_true, Bool.and_eq_true, Bool.and_eq_true, Bool.and_eq_true, decide_eq_true_eq, Bool.not_eq_true'] at hc
      obtain ⟨⟨hm, h1, h2⟩, h3, h4⟩ := hc
      subst hm
      obtain ⟨c, h5, h6⟩ := Option.bind_eq_some_iff.mp h
      obtain ⟨to, h7, rfl⟩ := Option.map_eq_some_iff.mp h6
      exact .plain (s_rep G (hf _ _ h7).pe h5 h3 h4 h1 h2) rfl rfl
    · cases h
  · cases h
theorem cGet2_ok (G : Gd0 X C) {f : Expr → Option E} (hf : Rc X C f) {o a b : Expr} {m : Str} {ap cp : Pos} {t : E} (h : cGet2 f o m ap a b cp = some t) : Res X C (.Call (.Attribute o m ap) [a, b] [] cp) t := by
  unfold cGet2 at h
  split at h
  · rename_i hc
    rw [Bool.and_eq_true, Bool.and_eq_true, Bool.and_eq_true, Bool.and_eq_true, decide_eq_true_eq] at hc
    obtain ⟨hm, h5, h6, h7, h8⟩ := hc
    subst hm
    obtain ⟨to, h1, h2⟩ := Option.bind_eq_some_iff.mp h
    obtain ⟨ta, h3, h4⟩ := Option.bind_eq_some_iff.mp h2
    obtain ⟨tb', h9, rfl⟩ := Option.map_eq_some_iff.mp h4
    exact .plain (s_get2 G (hf _ _ h1).pe (hf _ _ h3).pe (hf _ _ h9).pe (noStar_of h5) (noStar_of h6) h7 h8) rfl rfl
  · cases h
theorem cIter_ok (G : Gd tb.nm X C) {f : Expr → Option E} (hf : Rc X C f) {tg e : Expr} {ka : Ik × List E} (h : cIter f X.env.scope tg e = some ka) : PI X tg e (C.ri ka.1 ka.2) := by
  unfold cIter at h
  split at h
  · obtain ⟨t, h1, rfl⟩ := Option.map_eq_some_iff.mp h
    exact s_val G (hf _ _ h1).pe
  · rename_i x args hi
    obtain ⟨p, pos, rfl⟩ := iterCall_ok hi
    split at h
    · rename_i hg
      obtain ⟨ts, h1, h2⟩ := Option.bind_eq_some_iff.mp h
      obtain ⟨a1, a2, a3⟩ := compL_ok hf h1
      split at h2
      · obtain ⟨a, rfl⟩ : ∃ a, args = [a] := by
          match args, a3 with
          | [a], _ => exact ⟨a, rfl⟩
        split at h2
        · rename_i e; subst e; cases h2
          exact s_range G (glB_gl hg) a1 a2.1
        · split at h2
          · rename_i e
            rw [Bool.and_eq_true, decide_eq_true_eq] at e
            obtain ⟨e, ht⟩ := e
            subst e; cases h2
            cases tg <;> first | exact s_enum G (glB_gl hg) a1 a2.1 | cases ht
          · cases h2
      · obtain ⟨a, b, rfl⟩ : ∃ a b, args = [a, b] := by
          match args, a3 with
          | [a, b], _ => exact ⟨a, b, rfl⟩
        split at h2
        · rename_i e; subst e; cases h2
          exact s_range2 G (glB_gl hg) a1 a2.1 a2.2.1
        · split at h2
          · rename_i e
            rw [Bool.and_eq_true, decide_eq_true_eq] at e
            obtain ⟨e, ht⟩ := e
            subst e; cases h2
            cases tg <;> first | exact s_zip2 G (glB_gl hg) a1 a2.1 a2.2.1 | cases ht
          · cases h2
      · obtain ⟨a, b, c, rfl⟩ : ∃ a b c, args = [a, b, c] := by
          match args, a3 with
          | [a, b, c], _ => exact ⟨a, b, c, rfl⟩
        split at h2
        · rename_i e
          rw [Bool.and_eq_true, decide_eq_true_eq] at e
          obtain ⟨e, ht⟩ := e
          subst e; cases h2
          cases tg <;> first | exact s_zip3 G (glB_gl hg) a1 a2.1 a2.2.1 a2.2.2.1 | cases ht
        · cases h2
      · cases h2
    · cases h
theorem cIfs_ok {f : Expr → Option E} (hf : Rc X C f) {ifs : List Expr} {cs : List E} (h : cIfs f ifs = some cs) : PTs X ifs (C.rtc cs) := by
  unfold cIfs at h
  split at h
  · cases h; exact s_if0
  · split at h
    · rename_i ht
      obtain ⟨t, h1, rfl⟩ := Option.map_eq_some_iff.mp h
      exact s_if1 ((hf _ _ h1).pt ht)
    · cases h
  · cases h
theorem okIn_ok {scope sc : Scope} {x : Str} (h : okIn scope x = true) : (relS scope sc).names.lookup x = scope.names.lookup x ∧ Loc scope x := by
  unfold okIn at h
  split at h
  · rename_i e
    exact ⟨by rw [show (relS scope sc).names.lookup x = some .local from lookup_relS_keep (by decide) e, e], .inl e⟩
  · rename_i e
    exact ⟨by rw [show (relS scope sc).names.lookup x = some .cell from lookup_relS_keep (by decide) e, e], .inr e⟩
  · cases h
/-- what a comprehension's parts want -/
structure LcOk (X : Cx) (C : Ct) (elt tg iter : Expr) (ifs : List Expr) (scope : Scope) (own : List (Str × Nat)) (te : E) (t : T) (k : Ik) (args cs : List E) : Prop where
  hi : PI X tg iter (C.ri k args)
  ok : BlkOk X.N X.env.scope scope own
  hg : ∀ (s : Shared) (H : Hp) (A : Addr) (cl : List (Str × Addr)) (fp : List Addr), PG (X.blk s H scope (compEnvC scope cl A X.env) fp) tg (C.calm.gt t)
  ht : ∀ (s : Shared) (H : Hp) (A : Addr) (cl : List (Str × Addr)) (fp : List Addr), PTs (X.blk s H scope (compEnvC scope cl A X.env) fp) ifs (C.calm.rtc cs)
  he : ∀ (s : Shared) (H : Hp) (A : Addr) (cl : List (Str × Addr)) (fp : List Addr), PE (X.blk s H scope (compEnvC scope cl A X.env) fp) elt (C.calm.rd te)
  hs : ∀ x, foldedSetIterable iter X.env x = pure x
  sub : ∀ i ∈ tslots t, i ∈ own.map (·.2)
  wk : wkOk k t = true
theorem cLc_ok (G : Gd tb.nm X C) {f g : Expr → Option E} (hf : Rc X C f) {elt : Expr} {scope : Scope} {gs : List Comprehension} {t : E}
    (hg : ∀ (s : Shared) (H : Hp) (A : Addr) (cl : List (Str × Addr)) (fp : List Addr), Rc (X.blk s H scope (compEnvC scope cl A X.env) fp) C.calm g) (h : cLc X.N f g X.env.scope elt scope gs = some t) :
    ∃ tg iter ifs te tt k args cs, gs = [⟨tg, iter, ifs, 0⟩] ∧ t = .lc te tt k args cs ((ownOf X.N scope.names).map (·.2)) ∧ LcOk X C elt tg iter ifs scope (ownOf X.N scope.names) te tt k args cs := by
  unfold cLc at h
  split at h
  · rename_i tg iter ifs
    split at h
    · rename_i hb
      rw [Bool.and_eq_true] at hb
      obtain ⟨ka, h1, h2⟩ := Option.bind_eq_some_iff.mp h
      obtain ⟨tt, h3, h4⟩ := Option.bind_eq_some_iff.mp h2
      obtain ⟨cs, h5, h6⟩ := Option.bind_eq_some_iff.mp h4
      obtain ⟨te, h7, h8⟩ := Option.bind_eq_some_iff.mp h6
      split at h8
      · rename_i hc
        rw [Bool.and_eq_true] at hc
        cases h8
        refine ⟨tg, iter, ifs, te, tt, ka.1, ka.2, cs, rfl, rfl, cIter_ok G hf h1, blkOk_by hb.1, fun s H A cl fp => ?_, fun s H A cl fp => cIfs_ok (hg s H A cl fp) h5, fun s H A cl fp => (hg s H A cl fp _ _ h7).pe, notSet_it hb.2 _, fun i hi => ?_, (Bool.and_eq_true_iff.mp hc.2).2⟩
        · refine s_tgt (X := X.blk s H scope (compEnvC scope cl A X.env) fp) (C := C.calm) G.hK G.nd G.calm (ok := okIn scope) (fun x hx => ?_) tt tg hc.1
          obtain ⟨e1, e2⟩ := okIn_ok (sc := X.env.scope) hx
          have e1' : (compEnvC scope cl A X.env).scope.names.lookup x = scope.names.lookup x := e1
          refine ⟨?_, ?_⟩
          · rcases e2 with e2 | e2
            · exact .inl (e1'.trans e2)
            · exact .inr (e1'.trans e2)
          · rcases e2 with e2 | e2
            · exact .inr (e1'.trans e2)
            · refine .inl ?_
              show (scope.names.lookup x == some .cell) = true
              rw [e2]; rfl
        · exact of_decide_eq_true (List.all_eq_true.mp (Bool.and_eq_true_iff.mp hc.2).1 i hi)
      · cases h8
    · cases h
  · cases h
theorem LcOk.pe (G : Gd tb.nm X C) {elt tg iter : Expr} {ifs : List Expr} {scope : Scope} {own : List (Str × Nat)} {te : E} {t : T} {k : Ik} {args cs : List E} {pos : Pos} (L : LcOk X C elt tg iter ifs scope own te t k args cs) :
    PE X (.ListComp elt [⟨tg, iter, ifs, 0⟩] scope pos) (C.rn (.lc te t k args cs (own.map (·.2)))) :=
  PE.weak (pe_lc G.calm G.nd L.hi L.ok L.hg L.ht L.he L.hs) fun σ H Q h => lc_core' L.wk rfl L.sub h
theorem lc_new {te : E} {t : T} {k : Ik} {args cs : List E} {own : List Nat} (env : Env) (d : D) (h : ev C.glob C.fn (.lc te t k args cs own) env = .ok d) : (∃ ds, d = .lst ds) ∨ ∃ ks ds, d = .dic ks ds := by
  obtain ⟨x, h1, h2⟩ := R.bind_eq_ok (show R.bind (evs C.glob C.fn args env) _ = .ok d from h)
  obtain ⟨y, h3, h4⟩ := R.bind_eq_ok h2
  obtain ⟨z, h5, h6⟩ := R.bind_eq_ok h4
  unfold fit at h6
  split at h6
  · cases h6; exact .inl ⟨_, rfl⟩
  · cases h6
theorem lst_new {es : List E} (env : Env) (d : D) (h : ev C.glob C.fn (.lst es) env = .ok d) : (∃ ds, d = .lst ds) ∨ ∃ ks ds, d = .dic ks ds := by
  obtain ⟨x, h1, h2⟩ := R.bind_eq_ok (show R.bind (evs C.glob C.fn es env) _ = .ok d from h)
  unfold fit at h2
  split at h2
  · cases h2; exact .inl ⟨_, rfl⟩
  · cases h2
theorem dct_new {ks : List Ky} {es : List E} (env : Env) (d : D) (h : ev C.glob C.fn (.dct ks es) env = .ok d) : (∃ ds, d = .lst ds) ∨ ∃ ks ds, d = .dic ks ds := by
  obtain ⟨x, h1, h2⟩ := R.bind_eq_ok (show R.bind (evs C.glob C.fn es env) _ = .ok d from h)
  split at h2
  · cases h2; exact .inr ⟨_, _, rfl⟩
  · cases h2
theorem kyOfC_ok {e : Expr} {k : Ky} (h : kyOfC e = some k) : PE X e (C.rd (.lit (kyD k))) := by
  unfold kyOfC at h
  split at h
  · cases h; exact s_lit (by show decide _ = true; simp)
  · split at h
    · rename_i ho
      cases h
      exact s_lit (by show (decide _ && okc _) = true; rw [ho, Bool.and_true, decide_eq_true_eq])
    · cases h
  · cases h
theorem cDct1_ok {f : Expr → Option E} (hf : Rc X C f) {pos : Pos} {ks : List (Option Expr)} {vs : List Expr} {t : E} (h : cDct1 f ks vs = some t) : Res X C (.Dict ks vs pos) t := by
  unfold cDct1 at h
  split at h
  · obtain ⟨tk, h1, h2⟩ := Option.bind_eq_some_iff.mp h
    obtain ⟨tv, h3, rfl⟩ := Option.map_eq_some_iff.mp h2
    exact .plain (rn_rd (s_dct1 (hf _ _ h1).pe (hf _ _ h3).pe) dct1_new) rfl rfl
  · cases h
theorem cDict_ok {f : Expr → Option E} (hf : Rc X C f) {pos : Pos} : ∀ {kes : List (Option Expr)} {ves : List Expr} {p : List Ky × List E}, cDict f kes ves = some p → Disp X C pos kes ves p.1 p.2
  | [], [], p, h => by cases h; exact .nil
  | some k :: ks, v :: vs, p, h => by
    obtain ⟨ky, h1, h2⟩ := Option.bind_eq_some_iff.mp (show (kyOfC k).bind _ = some p from h)
    obtain ⟨t, h3, h4⟩ := Option.bind_eq_some_iff.mp h2
    obtain ⟨q, h5, rfl⟩ := Option.map_eq_some_iff.mp h4
    exact .cons (kyOfC_ok h1) (hf _ _ h3).pe (cDict_ok hf h5)
  | [], _ :: _, _, h => by cases h
  | none :: _, _, _, h => by cases h
  | some _ :: _, [], _, h => by cases h
end
theorem comp_ok {tb : Tb} : ∀ (n : Nat) {X : Cx} {C : Ct} (G : Gd tb.nm X C) (e : Expr) (t : E), comp tb X.N n X.env.scope e = some t → Res X C e t
  | 0, _, _, _, _, _, h => by cases h
  | n + 1, X, C, G, e, t, h => by
    have hf : Rc X C (comp tb X.N n X.env.scope) := fun e t h => comp_ok n G e t h
    unfold comp at h
    split at h
    · exact cName_ok G h
    · obtain ⟨d, h1, rfl⟩ := Option.map_eq_some_iff.mp h
      exact .plain (s_lit (litOf_ok h1)) rfl rfl
    · obtain ⟨ts, h1, rfl⟩ := Option.map_eq_some_iff.mp h
      exact .plain (s_tup (compL_ok hf h1).1) rfl rfl
    · obtain ⟨ts, h1, rfl⟩ := Option.map_eq_some_iff.mp h
      exact .new (s_lst (compL_ok hf h1).1) rfl lst_new
    · cases h
      exact .new s_emp rfl (fun env d hd => by cases hd; exact .inr ⟨_, _, rfl⟩)
    · split at h
      · exact cDct1_ok hf h
      obtain ⟨p, h1, h2⟩ := Option.bind_eq_some_iff.mp h
      split at h2
      · rename_i hc
        rw [Bool.and_eq_true, decide_eq_true_eq] at hc
        cases h2
        exact .new (s_dct (cDict_ok hf h1) (by simpa using hc.1) hc.2) rfl dct_new
      · cases h2
    · obtain ⟨o', h1, h2⟩ := Option.bind_eq_some_iff.mp h
      obtain ⟨ta, h3, h4⟩ := Option.bind_eq_some_iff.mp h2
      obtain ⟨tb', h5, rfl⟩ := Option.map_eq_some_iff.mp h4
      obtain rfl := binOf_ok h1
      exact .plain (s_bin G.toGd0 o' (hf _ _ h3).pe (hf _ _ h5).pe) rfl rfl
    · exact cUn_ok hf h
    · exact cBool_ok hf h
    · exact cCmp_ok G hf h
    · split at h
      · rename_i ht
        obtain ⟨tc, h1, h2⟩ := Option.bind_eq_some_iff.mp h
        obtain ⟨ta, h3, h4⟩ := Option.bind_eq_some_iff.mp h2
        obtain ⟨tb', h5, rfl⟩ := Option.map_eq_some_iff.mp h4
        exact ⟨s_ite ((hf _ _ h1).pt ht) (hf _ _ h3).pe (hf _ _ h5).pe, fun q => (by cases q), fun q => (by cases q), fun _ _ _ q => by cases q⟩
      · cases h
    · exact cSub_ok G hf h
    · exact cCall_ok G hf h
    · exact cMt_ok G.toGd0 hf h
    · split at h
      · exact cRep_ok G.toGd0 hf h
      · exact cGet2_ok G.toGd0 hf h
    · obtain ⟨tg, iter, ifs, te, tt, k, args, cs, rfl, rfl, L⟩ := cLc_ok G hf (fun s H A cl fp e t h => comp_ok n (gd_blk G s H _ _ fp) e t h) h
      exact .new (L.pe G) rfl lc_new
    · cases h
end Ev

/-! Statements: the slots with their own lists and dicts. -/
namespace Ev
open PySem L2 PyProof.Rows RZ

def OwR (K : PySem.W.Frag) (w : World) (F : Hp) (d : D) (o : HO) : Prop :=
  (∃ ds vs, d = .lst ds ∧ o = .lst vs ∧ Reps K w F ds vs) ∨ ∃ ks ds kvs, d = .dic ks ds ∧ o = .dK kvs ∧ kvs.map (·.1) = ks.map kyK ∧ ks.Nodup ∧ Reps K w F ds (kvs.map (·.2))
theorem OwR.mono {K : PySem.W.Frag} {w : World} {F F' : Hp} {d : D} {o : HO} (h : OwR K w F d o) (s : Same F F') : OwR K w F' d o := by
  rcases h with ⟨ds, vs, h1, h2, h3⟩ | ⟨ks, ds, kvs, h1, h2, h3, h4, h5⟩
  · exact .inl ⟨ds, vs, h1, h2, Reps.mono s _ _ h3⟩
  · exact .inr ⟨ks, ds, kvs, h1, h2, h3, h4, Reps.mono s _ _ h5⟩
theorem OwR.rep {K : PySem.W.Frag} {w : World} {F : Hp} {d : D} {o : HO} {a : Addr} (h : OwR K w F d o) (ha : F a = some o) : Rep K w F d (.ref a) := by
  rcases h with ⟨ds, vs, rfl, rfl, h3⟩ | ⟨ks, ds, kvs, rfl, rfl, h3, h4, h5⟩
  · exact ⟨a, vs, rfl, ha, h3⟩
  · exact ⟨a, kvs, rfl, ha, h3, h4, h5⟩
/-- the slots at a statement; F0, H0 as they were at the def's start -/
structure StR (K : PySem.W.Frag) (w : World) (F0 H0 F : Hp) (σ : L2.St) (H : Hp) (env : Env) : Prop where
  len : σ.length = env.length
  ext : Ext F0 H0 F H
  sh : ∀ (i : Nat) (d : D), env[i]? = some (.sh d) → ∃ v, σ[i]? = some (some v) ∧ Rep K w F d v
  ow : ∀ (i : Nat) (d : D), env[i]? = some (.ow d) → ∃ a o, σ[i]? = some (some (.ref a)) ∧ H a = some o ∧ F a = none ∧ H0 a = none ∧ OwR K w F d o
  inj : ∀ (i j : Nat) (d e : D) (a : Addr), env[i]? = some (.ow d) → env[j]? = some (.ow e) → σ[i]? = some (some (.ref a)) → σ[j]? = some (some (.ref a)) → i = j

def maskP (p : Nat → Bool) (env : Env) : Env := env.mapIdx fun i s => s.seen (p i)
def demP (p : Nat → Bool) (env : Env) : Env := env.mapIdx fun i s => s.free (p i)
theorem open_eq (env : Env) : open_ env = maskP (fun _ => true) env := by
  unfold open_ maskP
  refine List.ext_getElem? fun i => ?_
  rw [List.getElem?_map, List.getElem?_mapIdx]
theorem mask_at {p : Nat → Bool} {env : Env} {i : Nat} : (maskP p env)[i]? = (env[i]?).map (·.seen (p i)) := by
  unfold maskP; rw [List.getElem?_mapIdx]
theorem dem_at {p : Nat → Bool} {env : Env} {i : Nat} : (demP p env)[i]? = (env[i]?).map (·.free (p i)) := by
  unfold demP; rw [List.getElem?_mapIdx]
theorem mask_len {p : Nat → Bool} {env : Env} : (maskP p env).length = env.length := by unfold maskP; rw [List.length_mapIdx]
theorem dem_len {p : Nat → Bool} {env : Env} : (demP p env).length = env.length := by unfold demP; rw [List.length_mapIdx]
theorem dem_sh {p : Nat → Bool} {env : Env} {i : Nat} {d : D} (h : (demP p env)[i]? = some (.sh d)) : env[i]? = some (.sh d) ∨ (env[i]? = some (.ow d) ∧ p i = true) := by
  rw [dem_at] at h
  obtain ⟨s, h1, h2⟩ := Option.map_eq_some_iff.mp h
  cases s with
  | no => cases h2
  | sh e => cases h2; exact .inl h1
  | ow e =>
    have h3 : (if p i = true then Sl.sh e else Sl.ow e) = .sh d := h2
    by_cases hp : p i = true
    · rw [if_pos hp] at h3; cases h3; exact .inr ⟨h1, hp⟩
    · rw [if_neg hp] at h3; cases h3
theorem dem_ow {p : Nat → Bool} {env : Env} {i : Nat} {d : D} (h : (demP p env)[i]? = some (.ow d)) : env[i]? = some (.ow d) ∧ p i = false := by
  rw [dem_at] at h
  obtain ⟨s, h1, h2⟩ := Option.map_eq_some_iff.mp h
  cases s with
  | no => cases h2
  | sh e => cases h2
  | ow e =>
    have h3 : (if p i = true then Sl.sh e else Sl.ow e) = .ow d := h2
    by_cases hp : p i = true
    · rw [if_pos hp] at h3; cases h3
    · rw [if_neg hp] at h3; cases h3
      exact ⟨h1, by cases hb : p i with
        | true => exact absurd hb hp
        | false => rfl⟩

section
variable {K : PySem.W.Frag} {w : World} {F0 H0 F H F' H' : Hp} {σ : L2.St} {env : Env}
/-- what is frozen while an expression is asked -/
structure Froz (K : PySem.W.Frag) (w : World) (F0 H0 F : Hp) (σ : L2.St) (H : Hp) (env : Env) (p : Nat → Bool) (Fu : Hp) : Prop where
  sub : Same F Fu
  inH : Same Fu H
  envr : EnvR K w Fu σ (maskP p env)
  used : ∀ (i : Nat) (d : D) (a : Addr), p i = true → env[i]? = some (.ow d) → σ[i]? = some (some (.ref a)) → Rep K w Fu d (.ref a)
  rest : ∀ (i : Nat) (d : D) (a : Addr), p i = false → env[i]? = some (.ow d) → σ[i]? = some (some (.ref a)) → Fu a = none
  new : ∀ a, H0 a ≠ none → F0 a = none → Fu a = none
theorem StR.seen (h : StR K w F0 H0 F σ H env) (p : Nat → Bool) : ∃ Fu, Froz K w F0 H0 F σ H env p Fu := by
  classical
  let P : Addr → Prop := fun a => ∃ (i : Nat) (d : D), env[i]? = some (.ow d) ∧ σ[i]? = some (some (.ref a)) ∧ p i = true
  let Fu : Hp := fun a => if P a then H a else F a
  have sub : Same F Fu := fun a o e => by
    show (if P a then H a else F a) = some o
    by_cases hp : P a
    · rw [if_pos hp]; exact h.ext.inH a o e
    · rw [if_neg hp]; exact e
  have used : ∀ (i : Nat) (d : D) (a : Addr), p i = true → env[i]? = some (.ow d) → σ[i]? = some (some (.ref a)) → Rep K w Fu d (.ref a) := fun i d a hp he ha => by
    obtain ⟨b, o, h1, h2, h3, h4, h5⟩ := h.ow i d he
    rw [ha] at h1
    cases h1
    refine (h5.mono sub).rep ?_
    show (if P a then H a else F a) = some o
    rw [if_pos (show P a from ⟨i, d, he, ha, hp⟩)]
    exact h2
  refine ⟨Fu, sub, fun a o e => ?_, ⟨by rw [mask_len]; exact h.len, fun i d hd => ?_⟩, used, fun i d a hp he ha => ?_, fun a hn hf => ?_⟩
  · have e' : (if P a then H a else F a) = some o := e
    by_cases hp : P a
    · rw [if_pos hp] at e'; exact e'
    · rw [if_neg hp] at e'; exact h.ext.inH a o e'
  · unfold look at hd
    rw [mask_at] at hd
    cases he : env[i]? with
    | none => rw [he] at hd; cases hd
    | some s =>
      rw [he] at hd
      cases s with
      | no => cases hd
      | sh x =>
        cases hd
        obtain ⟨v, h1, h2⟩ := h.sh i d he
        exact ⟨v, h1, Rep.mono sub d v h2⟩
      | ow x =>
        have hd' : (if p i = true then Sl.sh x else Sl.no).val = .ok d := hd
        by_cases hp : p i = true
        · rw [if_pos hp] at hd'
          cases hd'
          obtain ⟨a, o, h1, _⟩ := h.ow i d he
          exact ⟨.ref a, h1, used i d a hp he h1⟩
        · rw [if_neg hp] at hd'; cases hd'
  · obtain ⟨b, o, h1, h2, h3, h4, h5⟩ := h.ow i d he
    rw [ha] at h1
    cases h1
    have no : ¬ P a := fun ⟨j, e, q1, q2, q3⟩ => by
      have := h.inj i j d e a he q1 ha q2
      subst this
      rw [hp] at q3; cases q3
    show (if P a then H a else F a) = none
    rw [if_neg no]
    exact h3
  · have no : ¬ P a := fun ⟨j, e, q1, q2, q3⟩ => by
      obtain ⟨b, o, h1, h2, h3, h4, h5⟩ := h.ow j e q1
      rw [q2] at h1
      cases h1
      exact hn h4
    show (if P a then H a else F a) = none
    rw [if_neg no]
    exact h.ext.new a hn hf
/-- the value is let go, or has no part in the heap -/
theorem StR.drop {p : Nat → Bool} {Fu : Hp} (h : StR K w F0 H0 F σ H env) (z : Froz K w F0 H0 F σ H env p Fu) (x : Ext Fu H F' H') : StR K w F0 H0 F σ H' env where
  len := h.len
  ext := ⟨h.ext.sub, fun a o e => x.inH a o (x.sub a o (z.sub a o e)), h.ext.same.trans x.same, h.ext.new⟩
  sh := h.sh
  ow := fun i d he => by
    obtain ⟨a, o, h1, h2, h3⟩ := h.ow i d he
    exact ⟨a, o, h1, x.same a o h2, h3⟩
  inj := h.inj
/-- the value is kept: what it was made of is not changed any more -/
theorem StR.keep {p : Nat → Bool} {Fu : Hp} (h : StR K w F0 H0 F σ H env) (z : Froz K w F0 H0 F σ H env p Fu) (x : Ext Fu H F' H') : StR K w F0 H0 F' σ H' (demP p env) where
  len := by rw [dem_len]; exact h.len
  ext := ⟨h.ext.sub.trans (z.sub.trans x.sub), x.inH, h.ext.same.trans x.same, fun a hn hf => x.new a (fun e => by
    cases q : H0 a with
    | none => exact hn q
    | some o => rw [h.ext.same a o q] at e; cases e) (z.new a hn hf)⟩
  sh := fun i d he => by
    rcases dem_sh he with he | ⟨he, hp⟩
    · obtain ⟨v, h1, h2⟩ := h.sh i d he
      exact ⟨v, h1, Rep.mono (z.sub.trans x.sub) d v h2⟩
    · obtain ⟨a, o, h1, _⟩ := h.ow i d he
      exact ⟨.ref a, h1, Rep.mono x.sub d _ (z.used i d a hp he h1)⟩
  ow := fun i d he => by
    obtain ⟨he, hp⟩ := dem_ow he
    obtain ⟨a, o, h1, h2, h3, h4, h5⟩ := h.ow i d he
    exact ⟨a, o, h1, x.same a o h2, x.new a (by rw [h2]; simp) (z.rest i d a hp he h1), h4, h5.mono (z.sub.trans x.sub)⟩
  inj := fun i j d e a hi hj => h.inj i j d e a (dem_ow hi).1 (dem_ow hj).1
/-- the heap grows beside the slots -/
theorem StR.grow (h : StR K w F0 H0 F σ H env) (x : Ext F H F' H') : StR K w F0 H0 F' σ H' env where
  len := h.len
  ext := h.ext.trans x
  sh := fun i d he => let ⟨v, h1, h2⟩ := h.sh i d he; ⟨v, h1, Rep.mono x.sub d v h2⟩
  ow := fun i d he => by
    obtain ⟨a, o, h1, h2, h3, h4, h5⟩ := h.ow i d he
    exact ⟨a, o, h1, x.same a o h2, x.new a (by rw [h2]; simp) h3, h4, h5.mono x.sub⟩
  inj := h.inj
def inB (uses : List Nat) (i : Nat) : Bool := decide (i ∈ uses)
theorem StR.after {uses : List Nat} {Fu : Hp} {d : D} {v : V} (h : StR K w F0 H0 F σ H env) (z : Froz K w F0 H0 F σ H env (inB uses) Fu) (x : Ext Fu H F' H') (r : Rep K w F' d v) : ∃ F2, StR K w F0 H0 F2 σ H' (after d uses env) ∧ Rep K w F2 d v := by
  unfold Ev.after
  by_cases hf : flat d = true
  · rw [if_pos hf]; exact ⟨F, h.drop z x, r.flat hf F⟩
  · rw [if_neg hf]; exact ⟨F', h.keep z x, r⟩
/-- stored to a target -/
theorem StR.bind {t : T} {d : D} {env' : Env} {σ' : L2.St} (h : StR K w F0 H0 F σ H env) (hb : Ev.bind t d env = .ok env') (wr : Wrote K w F (tslots t) env' σ σ') : StR K w F0 H0 F σ' H env' := by
  obtain ⟨b1, b2, b3⟩ := bind_out t d env env' hb
  have own : ∀ (i : Nat) (x : D), env'[i]? = some (.ow x) → i ∉ tslots t := fun i x e hi => by
    obtain ⟨y, hy⟩ := b3 i hi
    rw [e] at hy; cases hy
  refine ⟨by rw [wr.1, b1]; exact h.len, h.ext, fun i x he => ?_, fun i x he => ?_, fun i j x y a hi hj si sj => ?_⟩
  · by_cases hi : i ∈ tslots t
    · exact wr.2.2 i hi x he
    · rw [wr.2.1 i hi]
      exact h.sh i x (by rw [← b2 i hi]; exact he)
  · have hi := own i x he
    rw [wr.2.1 i hi]
    exact h.ow i x (by rw [← b2 i hi]; exact he)
  · have ni := own i x hi
    have nj := own j y hj
    rw [wr.2.1 i ni] at si
    rw [wr.2.1 j nj] at sj
    exact h.inj i j x y a (by rw [← b2 i ni]; exact hi) (by rw [← b2 j nj]; exact hj) si sj
/-- a new list or dict of one's own -/
theorem StR.setOw {i : Nat} {d : D} {o : HO} {q : Addr} (h : StR K w F0 H0 F σ H env) (hi : i < env.length) (hq : H q = none) (ho : OwR K w F d o) : StR K w F0 H0 F (σ.set i (some (.ref q))) (upd H q o) (env.set i (.ow d)) := by
  have hfree : H0 q = none := by
    cases e : H0 q with
    | none => rfl
    | some o' => rw [h.ext.same q o' e] at hq; cases hq
  have hil : i < σ.length := by rw [h.len]; exact hi
  refine ⟨by rw [List.length_set, List.length_set]; exact h.len, ⟨h.ext.sub, same_beside h.ext.inH hq, fun a o' e => ?_, h.ext.new⟩, fun j x he => ?_, fun j x he => ?_, fun j k x y a hj hk sj sk => ?_⟩
  · rw [upd_ne (fun z => by rw [z, hfree] at e; cases e)]; exact h.ext.same a o' e
  · by_cases e : i = j
    · subst e
      rw [List.getElem?_set_self hi] at he; cases he
    · rw [List.getElem?_set_ne e] at he ⊢
      exact h.sh j x he
  · by_cases e : i = j
    · subst e
      rw [List.getElem?_set_self hi] at he; cases he
      exact ⟨q, o, List.getElem?_set_self hil, upd_same, h.ext.inH.free hq, hfree, ho⟩
    · rw [List.getElem?_set_ne e] at he ⊢
      obtain ⟨a, o', h1, h2, h3⟩ := h.ow j x he
      exact ⟨a, o', h1, by rw [upd_ne (fun z => by rw [z, hq] at h2; cases h2)]; exact h2, h3⟩
  · have old : ∀ (m : Nat) (z : D), i ≠ m → (env.set i (.ow d))[m]? = some (.ow z) → (σ.set i (some (.ref q)))[m]? = some (some (.ref a)) → a ≠ q := fun m z e hm sm => by
      rw [List.getElem?_set_ne e] at hm sm
      obtain ⟨b, o', h1, h2, _⟩ := h.ow m z hm
      rw [sm] at h1; cases h1
      exact fun z => by rw [z, hq] at h2; cases h2
    by_cases e : i = j
    · by_cases e2 : i = k
      · rw [← e, ← e2]
      · subst e
        rw [List.getElem?_set_self hil] at sj
        cases sj
        exact absurd rfl (old k y e2 hk sk)
    · by_cases e2 : i = k
      · subst e2
        rw [List.getElem?_set_self hil] at sk
        cases sk
        exact absurd rfl (old j x e hj sj)
      · rw [List.getElem?_set_ne e] at hj sj
        rw [List.getElem?_set_ne e2] at hk sk
        exact h.inj j k x y a hj hk sj sk
/-- one's own list or dict changed -/
theorem StR.chOw {i : Nat} {d d' : D} {o' : HO} {a : Addr} (h : StR K w F0 H0 F σ H env) (he : env[i]? = some (.ow d)) (ha : σ[i]? = some (some (.ref a))) (ho : OwR K w F d' o') : StR K w F0 H0 F σ (upd H a o') (env.set i (.ow d')) := by
  obtain ⟨b, o, h1, h2, h3, h4, h5⟩ := h.ow i d he
  rw [ha] at h1
  cases h1
  have hi : i < env.length := (List.getElem?_eq_some_iff.mp he).1
  refine ⟨by rw [List.length_set]; exact h.len, ⟨h.ext.sub, fun b o q => ?_, fun b o q => ?_, h.ext.new⟩, fun j x hj => ?_, fun j x hj => ?_, fun j k x y b hj hk sj sk => ?_⟩
  · rw [upd_ne (fun z => by rw [z, h3] at q; cases q)]; exact h.ext.inH b o q
  · rw [upd_ne (fun z => by rw [z, h4] at q; cases q)]; exact h.ext.same b o q
  · by_cases e : i = j
    · subst e
      rw [List.getElem?_set_self hi] at hj; cases hj
    · rw [List.getElem?_set_ne e] at hj
      exact h.sh j x hj
  · by_cases e : i = j
    · subst e
      rw [List.getElem?_set_self hi] at hj; cases hj
      exact ⟨a, o', ha, upd_same, h3, h4, ho⟩
    · rw [List.getElem?_set_ne e] at hj
      obtain ⟨b, o2, q1, q2, q3⟩ := h.ow j x hj
      exact ⟨b, o2, q1, by rw [upd_ne (fun z => e (h.inj i j d x a he hj ha (by rw [q1, z])))]; exact q2, q3⟩
  · have back : ∀ (m : Nat) (z : D), (env.set i (.ow d'))[m]? = some (.ow z) → ∃ z', env[m]? = some (.ow z') := fun m z hm => by
      by_cases e : i = m
      · subst e; exact ⟨d, he⟩
      · rw [List.getElem?_set_ne e] at hm; exact ⟨z, hm⟩
    obtain ⟨x', hx⟩ := back j x hj
    obtain ⟨y', hy⟩ := back k y hk
    exact h.inj j k x' y' b hx hy sj sk
end
end Ev

/-! Rules of statements. -/
namespace Ev
open PySem L2 PyProof.Rows RZ

def Cont (C : Ct) (F0 H0 : Hp) (E : Ends) : Out → Prop
  | .nx env => ∀ F σ H, StR C.K C.w F0 H0 F σ H env → E.nx σ H
  | .rt d => ∀ v F H, Ext F0 H0 F H → Rep C.K C.w F d v → E.rt v H
  | .ex c => ∀ σ H, Same H0 H → C.W (.ref (C.ca c)) none σ H
  | .no => False
def Ct.rs (C : Ct) (refu : Nat → R D) (s : S) : TS := fun E σ H => ∃ F0 H0 F env, StR C.K C.w F0 H0 F σ H env ∧ Cont C F0 H0 E (exS C.glob C.fn refu s env)
def Ct.rss (C : Ct) (refu : Nat → R D) (ss : List S) : TS := fun E σ H => ∃ F0 H0 F env, StR C.K C.w F0 H0 F σ H env ∧ Cont C F0 H0 E (exSs C.glob C.fn refu ss env)
theorem PS.weak {X : Cx} {st : Stmt} {t t' : TS} (h : PS X st t) (k : ∀ E σ H, t' E σ H → t E σ H) : PS X st t' := ⟨fun pins s σ H E I q => h.run pins s σ H E I (k E σ H q)⟩
theorem PSs.weak {X : Cx} {st : List Stmt} {t t' : TS} (h : PSs X st t) (k : ∀ E σ H, t' E σ H → t E σ H) : PSs X st t' := ⟨fun pins s σ H E I q => h.run pins s σ H E I (k E σ H q)⟩

section
variable {X : Cx} {C : Ct} {refu : Nat → R D} {pos : Pos}
theorem Cont.nx_mono {F0 H0 : Hp} {E E' : Ends} {o : Out} (h : Cont C F0 H0 E o) (hr : E'.rt = E.rt) (hn : ∀ env, o = .nx env → ∀ F σ H, StR C.K C.w F0 H0 F σ H env → E'.nx σ H) : Cont C F0 H0 E' o := by
  cases o with
  | nx env => exact hn env rfl
  | rt d => exact fun v F H x r => by rw [hr]; exact h v F H x r
  | ex c => exact h
  | no => exact h
/-- a value is asked in a statement -/
theorem ask {e : E} {p : Nat → Bool} {f : D → Out} {F0 H0 F : Hp} {σ : L2.St} {H : Hp} {env : Env} {E' : Ends} {Q : VK} (h : StR C.K C.w F0 H0 F σ H env) (q : Cont C F0 H0 E' ((ev C.glob C.fn e (maskP p env)).out f))
    (k : ∀ d v Fu F' H', Froz C.K C.w F0 H0 F σ H env p Fu → Ext Fu H F' H' → Rep C.K C.w F' d v → Cont C F0 H0 E' (f d) → Q v H') : C.rd e σ H Q := by
  obtain ⟨Fu, z⟩ := h.seen p
  refine ⟨maskP p env, Fu, z.envr, z.inH, ?_⟩
  cases e1 : ev C.glob C.fn e (maskP p env) with
  | no => rw [e1] at q; exact q
  | ex c => rw [e1] at q; exact fun H' s => q σ H' (h.ext.same.trans s)
  | ok d => rw [e1] at q; exact fun v F' H' x r => k d v Fu F' H' z x r q
/-- a new list or dict -/
theorem askN {e : E} {p : Nat → Bool} {f : D → Out} {F0 H0 F : Hp} {σ : L2.St} {H : Hp} {env : Env} {E' : Ends} {Q : VK} (h : StR C.K C.w F0 H0 F σ H env) (q : Cont C F0 H0 E' ((ev C.glob C.fn e (maskP p env)).out f))
    (hf : ∀ env d, ev C.glob C.fn e env = .ok d → (∃ ds, d = .lst ds) ∨ ∃ ks ds, d = .dic ks ds)
    (k : ∀ d a o Fu F' H', Froz C.K C.w F0 H0 F σ H env p Fu → Ext Fu H F' H' → H' a = none → OwR C.K C.w F' d o → Cont C F0 H0 E' (f d) → Q (.ref a) (upd H' a o)) : C.rn e σ H Q := by
  obtain ⟨Fu, z⟩ := h.seen p
  refine ⟨maskP p env, Fu, z.envr, z.inH, ?_⟩
  cases e1 : ev C.glob C.fn e (maskP p env) with
  | no => rw [e1] at q; exact q
  | ex c => rw [e1] at q; exact fun H' s => q σ H' (h.ext.same.trans s)
  | ok d =>
    rw [e1] at q
    rcases hf _ d e1 with ⟨ds, rfl⟩ | ⟨ks, ds, rfl⟩
    · exact fun a vs F' H' x ha r => k _ a (.lst vs) Fu F' H' z x ha (.inl ⟨ds, vs, rfl, rfl, r⟩) q
    · exact fun a kvs F' H' x ha h1 h2 h3 => k _ a (.dK kvs) Fu F' H' z x ha (.inr ⟨ks, ds, kvs, rfl, rfl, h1, h2, h3⟩) q
theorem ask_bool {e : E} {f : Bool → Out} {F0 H0 F : Hp} {σ : L2.St} {H : Hp} {env : Env} {E' : Ends} {Q : Bool → Hp → Prop} (h : StR C.K C.w F0 H0 F σ H env) (q : Cont C F0 H0 E' (((ev C.glob C.fn e (open_ env)).bind asBool).out f))
    (k : ∀ b H', (ev C.glob C.fn e (open_ env)).bind asBool = .ok b → StR C.K C.w F0 H0 F σ H' env → Cont C F0 H0 E' (f b) → Q b H') : tB (C.rd e) σ H Q := by
  rw [open_eq] at q k
  obtain ⟨Fu, z⟩ := h.seen fun _ => true
  refine ⟨_, Fu, z.envr, z.inH, ?_⟩
  cases e1 : ev C.glob C.fn e (maskP (fun _ => true) env) with
  | no => rw [e1] at q; exact q
  | ex c => rw [e1] at q; exact fun H' s => q σ H' (h.ext.same.trans s)
  | ok d =>
    rw [e1] at q k
    intro v F' H' x r
    cases d with
    | bl b =>
      obtain rfl : v = .bl b := r
      exact ⟨b, rfl, k b H' rfl (h.drop z x) q⟩
    | _ => exact False.elim q

theorem s_ret {e : Expr} {t : E} (h : PE X e (C.rd t)) : PS X (.Return (some e) pos) (C.rs refu (.ret t)) :=
  PS.weak (ps_ret h) fun E' σ H ⟨F0, H0, F, env, st, q⟩ => by
    have q' : Cont C F0 H0 E' ((ev C.glob C.fn t (open_ env)).out .rt) := q
    rw [open_eq] at q'
    exact ask st q' fun d v Fu F' H' z x r q2 => q2 v F' H' (st.keep z x).ext r
theorem s_exp {e : Expr} {t : E} (h : PE X e (C.rd t)) (hs : swapsWith e none pos.line X.env = pure false) : PS X (.Expr e pos) (C.rs refu (.exp t)) :=
  PS.weak (ps_expr h hs) fun E' σ H ⟨F0, H0, F, env, st, q⟩ => by
    have q' : Cont C F0 H0 E' ((ev C.glob C.fn t (open_ env)).out fun _ => .nx env) := q
    rw [open_eq] at q'
    exact ask st q' fun d v Fu F' H' z x r q2 => q2 F σ H' (st.drop z x)
theorem s_ifs {c : Expr} {tc : E} {a b : List Stmt} {ta tb : List S} (hc : PT X c (tB (C.rd tc))) (ha : PSs X a (C.rss refu ta)) (hb : PSs X b (C.rss refu tb)) : PS X (.If c a b pos) (C.rs refu (.ite tc ta tb)) :=
  PS.weak (ps_if hc ha hb) fun E' σ H ⟨F0, H0, F, env, st, q⟩ => by
    have q' : Cont C F0 H0 E' (((ev C.glob C.fn tc (open_ env)).bind asBool).out fun z => if z then exSs C.glob C.fn refu ta env else exSs C.glob C.fn refu tb env) := q
    refine ask_bool st q' fun b H' _ st' q2 => ?_
    cases b with
    | true => exact ⟨F0, H0, F, env, st', q2⟩
    | false => exact ⟨F0, H0, F, env, st', q2⟩
theorem out_ok {A : Type} {r : R A} {f : A → Out} {F0 H0 : Hp} {E' : Ends} (hn : ∀ c, r ≠ .ex c) (h : Cont C F0 H0 E' (r.out f)) : ∃ a, r = .ok a ∧ Cont C F0 H0 E' (f a) := by
  cases r with
  | ok a => exact ⟨a, rfl, h⟩
  | ex c => exact absurd rfl (hn c)
  | no => exact False.elim h
mutual
theorem bind_ne' : ∀ (t : T) (d : D) (env : Env) (c : Nat), bind t d env ≠ .ex c
  | .one j, d, env, c => by
    show (if j < env.length then R.ok (env.set j (.sh d)) else .no) ≠ _
    split <;> (intro h; cases h)
  | .many ts, .tup xs, env, c => binds_ne ts xs env c
  | .many _, .non, _, _ => by intro h; cases h
  | .many _, .bl _, _, _ => by intro h; cases h
  | .many _, .int _, _, _ => by intro h; cases h
  | .many _, .str _, _, _ => by intro h; cases h
  | .many _, .lst _, _, _ => by intro h; cases h
  | .many _, .dic _ _, _, _ => by intro h; cases h
  | .many _, .scr _, _, _ => by intro h; cases h
  | .many _, .gdc _ _, _, _ => by intro h; cases h
  | .many _, .adr _, _, _ => by intro h; cases h
theorem binds_ne : ∀ (ts : List T) (xs : List D) (env : Env) (c : Nat), binds ts xs env ≠ .ex c
  | [], [], _, _ => by intro h; cases h
  | [], _ :: _, _, _ => by intro h; cases h
  | _ :: _, [], _, _ => by intro h; cases h
  | t :: ts, x :: xs, env, c => by
    intro h
    have h' : (bind t x env).bind (fun env' => binds ts xs env') = .ex c := h
    cases e1 : bind t x env with
    | ok env' => rw [e1] at h'; exact binds_ne ts xs env' c h'
    | ex k => exact bind_ne' t x env k e1
    | no => rw [e1] at h'; cases h'
end
/-- what is stored from a shared value -/
theorem asg_core {t : T} {e : E} {uses : List Nat} {E' : Ends} {σ : L2.St} {H : Hp} (h : C.rs refu (.asg t e false uses) E' σ H) : tAsg (C.rd e) (C.gt t) E' σ H := by
  obtain ⟨F0, H0, F, env, st, q⟩ := h
  have q' : Cont C F0 H0 E' ((ev C.glob C.fn e (maskP (inB uses) env)).out fun d => (bind t d (after d uses env)).out .nx) := q
  refine ask st q' fun d v Fu F' H' z x r q2 => ?_
  obtain ⟨F2, st2, r2⟩ := st.after z x r
  obtain ⟨env', hb, q3⟩ := out_ok (bind_ne' t d _) q2
  exact ⟨F2, d, after d uses env, env', st2.ext.inH, RepT.of r2, st2.len, hb, fun σ' wr => q3 F2 σ' H' (st2.bind hb wr)⟩
theorem s_asg {t : T} {tg e : Expr} {te : E} {uses : List Nat} (he : PE X e (C.rd te)) (hg : PG X tg (C.gt t)) (hs : swapsWithSole [tg] e pos.line X.env = pure false) (hw : swappedStores [tg] e X.env = pure none) (h1 : (assignEach [tg] X.env).map (·.2) = [assign tg X.env]) :
    PS X (.Assign [tg] e pos) (C.rs refu (.asg t te false uses)) := PS.weak (ps_asg he hg hs hw h1) fun _ _ _ h => asg_core h
/-- the name's own rule: its slot -/
theorem asg1_core {i : Nat} {e : E} {uses : List Nat} {E' : Ends} {σ : L2.St} {H : Hp} (h : C.rs refu (.asg (.one i) e false uses) E' σ H) : tAsg (C.rd e) (gName i) E' σ H := by
  obtain ⟨F0, H0, F, env, st, q⟩ := h
  have q' : Cont C F0 H0 E' ((ev C.glob C.fn e (maskP (inB uses) env)).out fun d => (bind (.one i) d (after d uses env)).out .nx) := q
  refine ask st q' fun d v Fu F' H' z x r q2 => ?_
  obtain ⟨F2, st2, r2⟩ := st.after z x r
  obtain ⟨env', hb, q3⟩ := out_ok (bind_ne' _ d _) q2
  refine q3 F2 _ H' (st2.bind hb ⟨List.length_set, fun j hj => List.getElem?_set_ne (fun e => hj (by rw [e]; exact List.mem_singleton.mpr rfl)), fun j hj y hy => ?_⟩)
  obtain rfl : j = i := List.mem_singleton.mp hj
  have hb' : (if j < (after d uses env).length then R.ok ((after d uses env).set j (.sh d)) else .no) = .ok env' := hb
  split at hb'
  · rename_i hj
    cases hb'
    rw [List.getElem?_set_self hj] at hy
    cases hy
    exact ⟨v, List.getElem?_set_self (by rw [st2.len]; exact hj), r2⟩
  · cases hb'
theorem asgN_core {i : Nat} {e : E} {uses : List Nat} {E' : Ends} {σ : L2.St} {H : Hp} (hf : ∀ env d, ev C.glob C.fn e env = .ok d → (∃ ds, d = .lst ds) ∨ ∃ ks ds, d = .dic ks ds) (h : C.rs refu (.asg (.one i) e true uses) E' σ H) : tAsg (C.rn e) (gName i) E' σ H := by
  obtain ⟨F0, H0, F, env, st, q⟩ := h
  have q' : Cont C F0 H0 E' ((ev C.glob C.fn e (maskP (inB uses) env)).out fun d => if true && !fresh e then .no else (if i < (demP (inB uses) env).length then R.ok ((demP (inB uses) env).set i (.ow d)) else .no).out .nx) := q
  refine askN st q' hf fun d a o Fu F' H' z x ha ho q2 => ?_
  have q3 : Cont C F0 H0 E' (if true && !fresh e then .no else (if i < (demP (inB uses) env).length then R.ok ((demP (inB uses) env).set i (.ow d)) else .no).out .nx) := q2
  split at q3
  · exact False.elim q3
  · split at q3
    · rename_i hi
      exact q3 F' _ _ ((st.keep z x).setOw hi ha ho)
    · exact False.elim q3
theorem s_set {i : Nat} {x : Str} {e : Expr} {te : E} {pos' : Pos} {uses : List Nat} (hN : X.N.Nodup) (hi : X.N[i]? = some x) (hx : Loc X.env.scope x) (hf : X.fn x = true ∨ X.env.scope.names.lookup x = some .local) (he : PE X e (C.rd te)) (hs : swapsWith e (some (.Name x pos')) pos.line X.env = pure false) :
    PS X (.Assign [.Name x pos'] e pos) (C.rs refu (.asg (.one i) te false uses)) := PS.weak (ps_set hN hi hx he hs hf) fun _ _ _ h => asg1_core h
theorem s_setN {i : Nat} {x : Str} {e : Expr} {te : E} {pos' : Pos} {uses : List Nat} (hN : X.N.Nodup) (hi : X.N[i]? = some x) (hx : Loc X.env.scope x) (hf : X.fn x = true ∨ X.env.scope.names.lookup x = some .local) (he : PE X e (C.rn te)) (hn : ∀ env d, ev C.glob C.fn te env = .ok d → (∃ ds, d = .lst ds) ∨ ∃ ks ds, d = .dic ks ds) (hs : swapsWith e (some (.Name x pos')) pos.line X.env = pure false) :
    PS X (.Assign [.Name x pos'] e pos) (C.rs refu (.asg (.one i) te true uses)) := PS.weak (ps_set hN hi hx he hs hf) fun _ _ _ h => asgN_core hn h
theorem ownAt_ne (env : Env) (i : Nat) (c : Nat) : ownAt env i ≠ .ex c := by
  unfold ownAt
  split <;> (intro h; cases h)
theorem ownAt_ok {env : Env} {i : Nat} {d : D} (h : ownAt env i = .ok d) : env[i]? = some (.ow d) := by
  unfold ownAt at h
  split at h
  · rename_i e; cases h; exact e
  · cases h
/-- l.append(e) -/
theorem s_app {i : Nat} {x : Str} {e : Expr} {te : E} {p1 ap cp : Pos} {uses : List Nat} (G : Gd0 X C) (hi : X.N[i]? = some x) (hv : Vis X.env.scope x) (hp : plainName x = true) (he : PE X e (C.rd te)) (hn : NoStar e) (hline : (ap.endLine == cp.line) = true) :
    PS X (.Expr (.Call (.Attribute (.Name x p1) "append" ap) [e] [] cp) pos) (C.rs refu (.app i te uses)) := by
  have hfew : ((backTo cp (starEach [e] X.env)).all (fun x => !x.1) && (backToKw cp (keywordEach [] X.env)).all (fun x => x.1.isSome)
      && decide (([e] : List Expr).length + ([] : List Keyword).length + (if ([] : List Keyword).isEmpty then 0 else 1) < 30)) = true := by rw [hn [] X.env]; rfl
  refine PS.weak (ps_expr (pe_bm PySem.F.plainAttrs_list PySem.F.slot_list_append PySem.F.type_list_append mt_append (pe_var hi hv (plain1 hp).1 (plain1 hp).2.1) (pa_cons he pa_nil (hn [] X.env)) rfl hfew hline (hn [] X.env) rfl) rfl) fun E' σ H ⟨F0, H0, F, env, st, q⟩ => ?_
  have q0 : Cont C F0 H0 E' ((ownAt env i).out fun o => match o with
    | .lst xs => (ev C.glob C.fn te (maskP (inB uses) env)).out fun d => (ownAt (after d uses env) i).out fun _ =>
      if xs.length < lim then .nx ((after d uses env).set i (.ow (.lst (xs ++ [d])))) else .no
    | _ => .no) := q
  obtain ⟨o, ho, q1⟩ := out_ok (ownAt_ne env i) q0
  have how := ownAt_ok ho
  obtain ⟨a, ob, h1, h2, h3, h4, h5⟩ := st.ow i o how
  cases o with
  | lst xs =>
    obtain ⟨ds, vs, e1, rfl, h6⟩ : ∃ ds vs, D.lst xs = .lst ds ∧ ob = .lst vs ∧ Reps C.K C.w F ds vs := by
      rcases h5 with h5 | ⟨_, _, _, e, _⟩
      · exact h5
      · cases e
    cases e1
    refine ⟨.ref a, h1, .inl ⟨rfl, vs, SqL.of h2⟩, ?_⟩
    refine ask st q1 fun d v Fu F' H' z x r q2 => ?_
    obtain ⟨F2, st2, r2⟩ := st.after z x r
    obtain ⟨o2, ho2, q3⟩ := out_ok (ownAt_ne _ i) q2
    have hlen : vs.length = xs.length := h6.length.symm
    have how2 := ownAt_ok ho2
    have e2 : o2 = .lst xs := by
      unfold Ev.after at how2
      split at how2
      · rw [how] at how2; cases how2; rfl
      · have := (dem_ow (p := inB uses) how2).1
        rw [how] at this; cases this; rfl
    subst e2
    obtain ⟨a', ob', g1, g2, g3, g4, g5⟩ := st2.ow i _ how2
    rw [h1] at g1
    cases g1
    obtain ⟨ds', vs', e3, rfl, g6⟩ : ∃ ds vs, D.lst xs = .lst ds ∧ ob' = .lst vs ∧ Reps C.K C.w F2 ds vs := by
      rcases g5 with g5 | ⟨_, _, _, e, _⟩
      · exact g5
      · cases e
    cases e3
    by_cases hz : xs.length < lim
    · rw [if_pos hz] at q3
      refine ⟨a, vs', v, rfl, rfl, g2, by rw [← g6.length, ← lim_eq]; exact hz, q3 F2 σ _ (st2.chOw how2 h1 (.inl ⟨_, _, rfl, rfl, Reps.append g6 (Reps.one r2)⟩))⟩
    · rw [if_neg hz] at q3; exact False.elim q3
  | _ => exact False.elim q1
end
end Ev

/-! Rows of statements, loops, raise, try. -/
namespace Ev
open PySem L2 PyProof.Rows RZ
theorem refit_at : ∀ (e0 env : Env) (i : Nat) (s : Sl), (refit e0 env)[i]? = some s → s = .no ∨ env[i]? = some s
  | [], env, i, s, h => .inr (by cases env <;> exact h)
  | _ :: _, [], i, s, h => .inr h
  | a :: r, t :: q, 0, s, h => by
    have h' : some (a.keep t) = some s := h
    cases h'
    cases a with
    | no => exact .inl rfl
    | sh d => exact .inr rfl
    | ow d => exact .inr rfl
  | a :: r, t :: q, i + 1, s, h => refit_at r q i s h
theorem refit_len : ∀ (e0 env : Env), (refit e0 env).length = env.length
  | [], env => by cases env <;> rfl
  | _ :: _, [] => rfl
  | a :: r, t :: q => by show (refit r q).length + 1 = _; rw [refit_len r q]; rfl
theorem StR.refit {K : PySem.W.Frag} {w : World} {F0 H0 F H : Hp} {σ : L2.St} {env : Env} (h : StR K w F0 H0 F σ H env) (e0 : Env) : StR K w F0 H0 F σ H (Ev.refit e0 env) where
  len := by rw [refit_len]; exact h.len
  ext := h.ext
  sh := fun i d e => (refit_at e0 env i _ e).elim (fun z => by cases z) fun z => h.sh i d z
  ow := fun i d e => (refit_at e0 env i _ e).elim (fun z => by cases z) fun z => h.ow i d z
  inj := fun i j d e a hi hj => h.inj i j d e a ((refit_at e0 env i _ hi).elim (fun z => by cases z) id) ((refit_at e0 env j _ hj).elim (fun z => by cases z) id)
section
variable {nm : Nm} {X : Cx} {C : Ct} {refu : Nat → R D} {pos : Pos}
theorem s_nil' : PSs X [] (C.rss refu []) := PSs.weak pss_nil fun E' σ H ⟨F0, H0, F, env, st, q⟩ => (show Cont C F0 H0 E' (.nx env) from q) F σ H st
theorem s_cons' {st : Stmt} {rest : List Stmt} {s : S} {ss : List S} (h1 : PS X st (C.rs refu s)) (h2 : PSs X rest (C.rss refu ss)) : PSs X (st :: rest) (C.rss refu (s :: ss)) :=
  PSs.weak (pss_cons h1 h2) fun E' σ H ⟨F0, H0, F, env, st, q⟩ => by
    have q' : Cont C F0 H0 E' (match exS C.glob C.fn refu s env with
      | .nx env' => exSs C.glob C.fn refu ss env'
      | .rt d => .rt d
      | .ex c => .ex c
      | .no => .no) := q
    refine ⟨F0, H0, F, env, st, ?_⟩
    cases e1 : exS C.glob C.fn refu s env with
    | nx env' => rw [e1] at q'; exact fun F' σ' H' st' => ⟨F0, H0, F', env', st', q'⟩
    | rt d => rw [e1] at q'; exact q'
    | ex c => rw [e1] at q'; exact q'
    | no => rw [e1] at q'; exact q'
theorem s_while {c : Expr} {tc : E} {body : List Stmt} {ts : List S} (hp : PassesOwn (model X.prog X.w) X.A X.env X.xe) (hc : PT X c (tB (C.rd tc))) (hb : PSs X body (C.rss refu ts)) : PS X (.While c body [] pos) (C.rs refu (.while_ tc ts)) :=
  PS.weak (ps_while hp hc hb) fun E' σ H ⟨F0, H0, F, env, st, q⟩ => by
    obtain ⟨e0, he0⟩ : ∃ e0, e0 = env := ⟨_, rfl⟩
    have q' : Cont C F0 H0 E' (whileGo (fun env' => (ev C.glob C.fn tc (open_ env')).bind asBool) (fun env' => exSs C.glob C.fn refu ts env') e0 turns env) := by rw [he0]; exact q
    generalize hg : whileGo (fun env' => (ev C.glob C.fn tc (open_ env')).bind asBool) (fun env' => exSs C.glob C.fn refu ts env') e0 turns env = out at q'
    refine ⟨fun n σ H => ∃ F env, StR C.K C.w F0 H0 F σ H env ∧ whileGo (fun env' => (ev C.glob C.fn tc (open_ env')).bind asBool) (fun env' => exSs C.glob C.fn refu ts env') e0 n env = out, ⟨turns, F, env, st, hg⟩, ?_⟩
    rintro n σ H ⟨F, env, st, hw⟩
    cases n with
    | zero => rw [← hw] at q'; exact False.elim q'
    | succ n =>
      have hw' : (((ev C.glob C.fn tc (open_ env)).bind asBool).out fun b => if b then (match exSs C.glob C.fn refu ts env with
        | .nx env2 => whileGo (fun env' => (ev C.glob C.fn tc (open_ env')).bind asBool) (fun env' => exSs C.glob C.fn refu ts env') e0 n (refit e0 env2)
        | .rt d => .rt d
        | .ex c => .ex c
        | .no => .no) else .nx env) = out := hw
      rw [← hw'] at q'
      refine ask_bool st q' fun b H' hb1 st' q2 => ?_
      rw [hb1] at hw'
      cases b with
      | false => exact q2 F σ H' st'
      | true =>
        rw [if_pos rfl]
        refine ⟨fun σ2 H2 => ∃ F env, StR C.K C.w F0 H0 F σ2 H2 env ∧ whileGo (fun env' => (ev C.glob C.fn tc (open_ env')).bind asBool) (fun env' => exSs C.glob C.fn refu ts env') e0 n env = out, fun σ2 H2 z => ⟨n, Nat.lt_succ_self n, z⟩, F0, H0, F, env, st', ?_⟩
        have hw2 : (match exSs C.glob C.fn refu ts env with
          | .nx env2 => whileGo (fun env' => (ev C.glob C.fn tc (open_ env')).bind asBool) (fun env' => exSs C.glob C.fn refu ts env') e0 n (refit e0 env2)
          | .rt d => .rt d
          | .ex c => .ex c
          | .no => .no) = out := hw'
        have q3 : Cont C F0 H0 E' (match exSs C.glob C.fn refu ts env with
          | .nx env2 => whileGo (fun env' => (ev C.glob C.fn tc (open_ env')).bind asBool) (fun env' => exSs C.glob C.fn refu ts env') e0 n (refit e0 env2)
          | .rt d => .rt d
          | .ex c => .ex c
          | .no => .no) := q2
        cases e2 : exSs C.glob C.fn refu ts env with
        | nx env2 => rw [e2] at hw2; exact fun F' σ' H2 st2 => ⟨F', refit e0 env2, st2.refit e0, hw2⟩
        | rt d => rw [e2] at q3; exact q3
        | ex c => rw [e2] at q3; exact q3
        | no => rw [e2] at q3; exact q3
theorem ext_re {F0 F1 H0 F H : Hp} (h : Ext F1 H0 F H) (s : Same F0 F1) (n : ∀ a, H0 a ≠ none → F0 a = none → F1 a = none) : Ext F0 H0 F H := ⟨s.trans h.sub, h.inH, h.same, fun a h1 h2 => h.new a h1 (n a h1 h2)⟩
theorem StR.re {K : PySem.W.Frag} {w : World} {F0 F1 H0 F H : Hp} {σ : L2.St} {env : Env} (h : StR K w F1 H0 F σ H env) (s : Same F0 F1) (n : ∀ a, H0 a ≠ none → F0 a = none → F1 a = none) : StR K w F0 H0 F σ H env := ⟨h.len, ext_re h.ext s n, h.sh, h.ow, h.inj⟩
theorem StR.self {K : PySem.W.Frag} {w : World} {F0 H0 F H : Hp} {σ : L2.St} {env : Env} (h : StR K w F0 H0 F σ H env) : StR K w F H0 F σ H env := ⟨h.len, ⟨Same.refl _, h.ext.inH, h.ext.same, fun _ _ e => e⟩, h.sh, h.ow, h.inj⟩
theorem Cont.re {F0 F1 H0 : Hp} {E' : Ends} {o : Out} (h : Cont C F0 H0 E' o) (s : Same F0 F1) (n : ∀ a, H0 a ≠ none → F0 a = none → F1 a = none) : Cont C F1 H0 E' o := by
  cases o with
  | nx env => exact fun F σ H st => h F σ H (st.re s n)
  | rt d => exact fun v F H x r => h v F H (ext_re x s n) r
  | ex c => exact h
  | no => exact h
theorem s_for {tg iter : Expr} {t : T} {k : Ik} {args : List E} {uses : List Nat} {body : List Stmt} {ts : List S} (hw : wkOk k t = true) (hp : PassesOwn (model X.prog X.w) X.A X.env X.xe) (hc : X.calm = true) (hi : PI X tg iter (C.ri k args)) (hg : PG X tg (C.gt t)) (hb : PSs X body (C.rss refu ts))
    (hs : ∀ x, foldedSetIterable iter X.env x = pure x) : PS X (.For tg iter body [] pos) (C.rs refu (.for_ t k args uses ts)) :=
  PS.weak (ps_for hp hc hi hg hb hs) fun E' σ H ⟨F0, H0, F, env, st, q⟩ => by
    have q' : Cont C F0 H0 E' ((evs C.glob C.fn args (maskP (inB uses) env)).out fun ds => (walk k ds).out fun xs =>
      forGo (fun x env' => bind t x env') (fun env' => exSs C.glob C.fn refu ts env') (demP (inB uses) env) xs (demP (inB uses) env)) := q
    obtain ⟨Fu, z⟩ := st.seen (inB uses)
    refine ⟨maskP (inB uses) env, Fu, z.envr, z.inH, ?_⟩
    cases e1 : evs C.glob C.fn args (maskP (inB uses) env) with
    | no => rw [e1] at q'; exact q'
    | ex c => rw [e1] at q'; exact fun H' s => q' σ H' (st.ext.same.trans s)
    | ok ds =>
      rw [e1] at q'
      have eb : Ev.R.bind (.ok ds) (walk k) = walk k ds := rfl
      rw [eb]
      obtain ⟨xs, e2, q2⟩ := out_ok (walk_ne k ds) (show Cont C F0 H0 E' ((walk k ds).out _) from q')
      rw [e2]
      intro J F1 H1 x1 wd
      obtain ⟨e0, he0⟩ : ∃ e0, e0 = demP (inB uses) env := ⟨_, rfl⟩
      generalize hgo : forGo (fun x env' => bind t x env') (fun env' => exSs C.glob C.fn refu ts env') (demP (inB uses) env) xs (demP (inB uses) env) = out at q2
      replace hgo : forGo (fun x env' => bind t x env') (fun env' => exSs C.glob C.fn refu ts env') e0 xs (demP (inB uses) env) = out := by rw [he0]; exact hgo
      have st1 := st.keep z x1
      replace q2 := q2.re st1.ext.sub st1.ext.new
      refine for_it wd (fun i σ H => ∃ F env, StR C.K C.w F1 H0 F σ H env ∧ forGo (fun x env' => bind t x env') (fun env' => exSs C.glob C.fn refu ts env') e0 (xs.drop i) env = out) ⟨F1, _, st1.self, hgo⟩ ?_ ?_ ?_
      · rintro i σ H hi ⟨F, env, st, _⟩
        exact st.ext.sub.trans st.ext.inH
      · rintro i x σ H H' hi ⟨F, env, st, hgo⟩ hY
        obtain ⟨F2, d, x2, hd, rd⟩ := hY F st.ext.sub st.ext.inH
        have hdrop : xs.drop i = d :: xs.drop (i + 1) := by
          rw [List.drop_eq_getElem_cons hi]
          have : xs[i] = d := by
            rw [List.getElem?_eq_getElem hi] at hd
            exact Option.some.inj hd
          rw [this]
        rw [hdrop] at hgo
        have hgo' : ((bind t d env).out fun env' => match exSs C.glob C.fn refu ts env' with
          | .nx env2 => forGo (fun x env' => bind t x env') (fun env' => exSs C.glob C.fn refu ts env') e0 (xs.drop (i + 1)) (refit e0 env2)
          | .rt d => .rt d
          | .ex c => .ex c
          | .no => .no) = out := hgo
        have st2 := st.grow x2
        rw [← hgo'] at q2
        obtain ⟨env', hb', q3⟩ := out_ok (bind_ne' t d env) q2
        rw [hb'] at hgo'
        have hgo2 : (match exSs C.glob C.fn refu ts env' with
          | .nx env2 => forGo (fun x env' => bind t x env') (fun env' => exSs C.glob C.fn refu ts env') e0 (xs.drop (i + 1)) (refit e0 env2)
          | .rt d => .rt d
          | .ex c => .ex c
          | .no => .no) = out := hgo'
        refine ⟨F2, d, env, env', st2.ext.inH, rep_t hw rd, st2.len, hb', fun σ2 wr => ⟨F1, H0, F2, env', st2.bind hb' wr, ?_⟩⟩
        cases e3 : exSs C.glob C.fn refu ts env' with
        | nx env2 => rw [e3] at hgo2; exact fun F' σ' H2 st3 => ⟨F', refit e0 env2, st3.refit e0, hgo2⟩
        | rt d => rw [e3] at q3; exact q3
        | ex c => rw [e3] at q3; exact q3
        | no => rw [e3] at q3; exact q3
      · rintro σ H ⟨F, env, st, hgo⟩
        rw [List.drop_length] at hgo
        have hgo' : Out.nx env = out := hgo
        rw [← hgo'] at q2
        exact q2 F σ H st
/-- what is left in the targets stays -/
theorem s_forL {tg iter : Expr} {t : T} {k : Ik} {args : List E} {uses : List Nat} {body : List Stmt} {ts : List S} (hw : wkOk k t = true) (hp : PassesOwn (model X.prog X.w) X.A X.env X.xe) (hc : X.calm = true) (hi : PI X tg iter (C.ri k args)) (hg : PG X tg (C.gt t)) (hb : PSs X body (C.rss refu ts))
    (hs : ∀ x, foldedSetIterable iter X.env x = pure x) : PS X (.For tg iter body [] pos) (C.rs refu (.forL t k args uses ts)) :=
  PS.weak (ps_for hp hc hi hg hb hs) fun E' σ H ⟨F0, H0, F, env, st, q⟩ => by
    have q' : Cont C F0 H0 E' ((evs C.glob C.fn args (maskP (inB uses) env)).out fun ds => (walk k ds).out fun xs =>
      forGo (fun x env' => bind t x env') (fun env' => exSs C.glob C.fn refu ts env') [] xs (demP (inB uses) env)) := q
    obtain ⟨Fu, z⟩ := st.seen (inB uses)
    refine ⟨maskP (inB uses) env, Fu, z.envr, z.inH, ?_⟩
    cases e1 : evs C.glob C.fn args (maskP (inB uses) env) with
    | no => rw [e1] at q'; exact q'
    | ex c => rw [e1] at q'; exact fun H' s => q' σ H' (st.ext.same.trans s)
    | ok ds =>
      rw [e1] at q'
      have eb : Ev.R.bind (.ok ds) (walk k) = walk k ds := rfl
      rw [eb]
      obtain ⟨xs, e2, q2⟩ := out_ok (walk_ne k ds) (show Cont C F0 H0 E' ((walk k ds).out _) from q')
      rw [e2]
      intro J F1 H1 x1 wd
      obtain ⟨e0, he0⟩ : ∃ e0 : Env, e0 = [] := ⟨_, rfl⟩
      generalize hgo : forGo (fun x env' => bind t x env') (fun env' => exSs C.glob C.fn refu ts env') [] xs (demP (inB uses) env) = out at q2
      replace hgo : forGo (fun x env' => bind t x env') (fun env' => exSs C.glob C.fn refu ts env') e0 xs (demP (inB uses) env) = out := by rw [he0]; exact hgo
      have st1 := st.keep z x1
      replace q2 := q2.re st1.ext.sub st1.ext.new
      refine for_it wd (fun i σ H => ∃ F env, StR C.K C.w F1 H0 F σ H env ∧ forGo (fun x env' => bind t x env') (fun env' => exSs C.glob C.fn refu ts env') e0 (xs.drop i) env = out) ⟨F1, _, st1.self, hgo⟩ ?_ ?_ ?_
      · rintro i σ H hi ⟨F, env, st, _⟩
        exact st.ext.sub.trans st.ext.inH
      · rintro i x σ H H' hi ⟨F, env, st, hgo⟩ hY
        obtain ⟨F2, d, x2, hd, rd⟩ := hY F st.ext.sub st.ext.inH
        have hdrop : xs.drop i = d :: xs.drop (i + 1) := by
          rw [List.drop_eq_getElem_cons hi]
          have : xs[i] = d := by
            rw [List.getElem?_eq_getElem hi] at hd
            exact Option.some.inj hd
          rw [this]
        rw [hdrop] at hgo
        have hgo' : ((bind t d env).out fun env' => match exSs C.glob C.fn refu ts env' with
          | .nx env2 => forGo (fun x env' => bind t x env') (fun env' => exSs C.glob C.fn refu ts env') e0 (xs.drop (i + 1)) (refit e0 env2)
          | .rt d => .rt d
          | .ex c => .ex c
          | .no => .no) = out := hgo
        have st2 := st.grow x2
        rw [← hgo'] at q2
        obtain ⟨env', hb', q3⟩ := out_ok (bind_ne' t d env) q2
        rw [hb'] at hgo'
        have hgo2 : (match exSs C.glob C.fn refu ts env' with
          | .nx env2 => forGo (fun x env' => bind t x env') (fun env' => exSs C.glob C.fn refu ts env') e0 (xs.drop (i + 1)) (refit e0 env2)
          | .rt d => .rt d
          | .ex c => .ex c
          | .no => .no) = out := hgo'
        refine ⟨F2, d, env, env', st2.ext.inH, rep_t hw rd, st2.len, hb', fun σ2 wr => ⟨F1, H0, F2, env', st2.bind hb' wr, ?_⟩⟩
        cases e3 : exSs C.glob C.fn refu ts env' with
        | nx env2 => rw [e3] at hgo2; exact fun F' σ' H2 st3 => ⟨F', refit e0 env2, st3.refit e0, hgo2⟩
        | rt d => rw [e3] at q3; exact q3
        | ex c => rw [e3] at q3; exact q3
        | no => rw [e3] at q3; exact q3
      · rintro σ H ⟨F, env, st, hgo⟩
        rw [List.drop_length] at hgo
        have hgo' : Out.nx env = out := hgo
        rw [← hgo'] at q2
        exact q2 F σ H st
/-- raise X('..') -/
theorem s_raise {e : Expr} {c : Nat} {d : D} (hc : X.calm = true) (tk : L2N.Takes X C.W) (he : L2N.PMk X e (fun _ H Q => Q (.ref (C.ca c)) none H)) : PS X (.Raise (some e) none pos) (C.rs refu (.raise c (.lit d))) :=
  PS.weak (ps_raise hc tk (PMk.of he)) fun E' σ H ⟨F0, H0, F, env, st, q⟩ => (show Cont C F0 H0 E' (.ex c) from q) σ H st.ext.same
/-- what a refusal is told as, from within the suite that holds it -/
def Ct.rf (C : Ct) (refu : Nat → R D) (i : Nat) (a : Addr) (cls : Value) (dd : Option Addr) : TE := fun σ H Q => σ[i]? = some (some (.ref a)) ∧ dd = none ∧ H a = none ∧ ∃ c F, cls = .ref (C.ca c) ∧ Same F H ∧ fin C.K C.w (refu c) F H Q fun _ _ => False
theorem s_try {e : Expr} {t : E} {ax n rf : Str} {i : Nat} {cA : Value} {np p1 q1 q2 q3 q4 pos' : Pos} (hs : X.stack = X.env :: X.outer) (hf : X.env.frame = some X.env.locals) (hN : X.N.Nodup) (hi : X.N[i]? = some n) (hln : X.env.kindOf n = some .local) (hc : Names X ax cA) (tk : L2N.Takes X C.W)
    (he : ∀ (W : WX) (pn : List (Addr × Obj)) (xe : Value → Shared → Prop), L2N.Takes (X.tr pn xe) W → PE (X.tr pn xe) e (({ C with W := W } : Ct).rd t))
    (hsu : ∀ (a : Addr) (oe : Obj) (cls : Value) (d : Option Addr) (pn : List (Addr × Obj)), L2N.Zn cls d oe → (∃ vs, oe.data = .fields vs) → PE (X.suite a ((a, oe) :: pn)) (.Call (.Name rf q1) [.Name n q2] [] q3) (C.rf refu i a cls d))
    (hx : ∀ c d, refu c = .ok d → PySem.W.exmOne X.K (.ref (C.ca c)) cA = some true) (hr : ∀ c k, refu c ≠ .ex k) (hl : i < X.N.length) :
    PS X (.Try [.Return (some e) p1] [.ExceptHandler (some (.Name ax np)) (some n) [.Return (some (.Call (.Name rf q1) [.Name n q2] [] q3)) q4] pos'] [] [] pos) (C.rs refu (.tryR t i)) := by
  refine ⟨fun pins s σ H E' I h => ?_⟩
  refine (ps_tryR (te := fun W => ({ C with W := W } : Ct).rd t) (t2 := fun a cls d => C.rf refu i a cls d) hs hf hN hi hln hc tk he hsu).run pins s σ H E' I ?_
  obtain ⟨F0, H0, F, env, st, q⟩ := h
  have q' : Cont C F0 H0 E' (match ev C.glob C.fn t (open_ env) with
    | .ok d => .rt d
    | .ex c => (refu c).out .rt
    | .no => .no) := q
  rw [open_eq] at q'
  obtain ⟨Fu, z⟩ := st.seen fun _ => true
  refine ⟨_, Fu, z.envr, z.inH, ?_⟩
  show fin C.K C.w (ev C.glob C.fn t (maskP (fun _ => true) env)) Fu H _ _
  cases e1 : ev C.glob C.fn t (maskP (fun _ => true) env) with
  | no => rw [e1] at q'; exact q'
  | ok d => rw [e1] at q'; exact fun v F' H' x r => q' v F' H' (st.keep z x).ext r
  | ex c =>
    rw [e1] at q'
    intro H' s1
    obtain ⟨d, e2, q2⟩ := out_ok (hr c) (show Cont C F0 H0 E' ((refu c).out .rt) from q')
    have hil : i < σ.length := by rw [I.len]; exact hl
    refine ⟨true, hx c d e2, fun _ a ha => ?_, fun z => nomatch z⟩
    refine ⟨List.getElem?_set_self hil, rfl, ha, c, F, rfl, st.ext.inH.trans s1, ?_⟩
    rw [e2]
    intro v F2 H2 x2 r2
    exact q2 v F2 H2 ⟨st.ext.sub.trans x2.sub, x2.inH, st.ext.same.trans (s1.trans x2.same), fun a h1 h2 => x2.new a (fun z => by
      cases q : H0 a with
      | none => exact h1 q
      | some o => rw [s1 a o (st.ext.same a o q)] at z; cases z) (st.ext.new a h1 h2)⟩ r2
end
end Ev

/-! d[k] = v, a, d[k] = v, l.extend(m), raise X(e). -/
namespace Ev
open PySem PySem.Spec L2 PyProof.Rows RZ
section
variable {X : Cx} {C : Ct} {refu : Nat → R D} {pos : Pos}
theorem mask_inB (uses : List Nat) (env : Env) : mask uses env = maskP (inB uses) env := rfl
theorem putOut_ne (i : Nat) (k v : D) (env : Env) (c : Nat) : putOut i k v env ≠ .ex c := by
  unfold putOut
  intro h
  cases e : ownAt env i with
  | no => rw [e] at h; cases h
  | ex k => exact ownAt_ne env i k e
  | ok o =>
    rw [e, R.bind_ok] at h
    split at h
    · split at h
      · split at h <;> cases h
      · cases h
    · cases h
/-- a key is put to a dict of one's own -/
theorem put_core {F0 H0 F : Hp} {σ : L2.St} {H : Hp} {env env' : Env} {i : Nat} {kd d : D} {y v : V} (st : StR C.K C.w F0 H0 F σ H env) (hk : Rep C.K C.w F kd y) (hv : Rep C.K C.w F d v) (h : putOut i kd d env = .ok env') :
    ∃ a H', σ[i]? = some (some (.ref a)) ∧ DPut H a y v H' ∧ StR C.K C.w F0 H0 F σ H' env' := by
  obtain ⟨o, h1, h2⟩ := R.bind_eq_ok (show R.bind (ownAt env i) _ = .ok env' from h)
  have how := ownAt_ok h1
  obtain ⟨a, ob, g1, g2, g3, g4, g5⟩ := st.ow i o how
  split at h2
  · rename_i ks ds
    split at h2
    · rename_i k hkk
      split at h2
      · rename_i hsm
        cases h2
        obtain ⟨kvs, rfl, e3, e4, e5⟩ : ∃ kvs, ob = .dK kvs ∧ kvs.map (·.1) = ks.map kyK ∧ ks.Nodup ∧ Reps C.K C.w F ds (kvs.map (·.2)) := by
          rcases g5 with ⟨_, _, e, _⟩ | ⟨_, _, kvs, e, e2, e3, e4, e5⟩
          · cases e
          · cases e; exact ⟨kvs, e2, e3, e4, e5⟩
        have ek := ky_of hkk hk
        subst ek
        obtain ⟨i0, i1, i2⟩ := put_rel k d v hv ks ds kvs e3 e4 e5
        have hl : kvs.length = ks.length := by
          have := congrArg List.length e3
          simpa using this
        have hs' : ks.length ≤ 1000 := by simpa [small] using hsm
        exact ⟨a, _, g1, DPut.k g2 (by rw [hl, sizeLine_eq]; omega), st.chOw how g1 (.inr ⟨_, _, _, rfl, rfl, i1, i0, i2⟩)⟩
      · cases h2
    · cases h2
  · cases h2
/-- d[k] = e -/
theorem s_put {i : Nat} {x : Str} {ke e : Expr} {tk te : E} {p1 p2 : Pos} {uses : List Nat} (G : Gd0 X C) (hi : X.N[i]? = some x) (hv : Vis X.env.scope x) (hp : plainName x = true) (hk : PE X ke (C.rd tk)) (he : PE X e (C.rd te)) (hs : swapsWith e (some (.Subscript (.Name x p1) ke p2)) pos.line X.env = pure false) :
    PS X (.Assign [.Subscript (.Name x p1) ke p2] e pos) (C.rs refu (.put i tk te uses)) := by
  have := G.hu
  refine PS.weak (ps_dput (by omega) (pe_var hi hv (plain1 hp).1 (plain1 hp).2.1) hk he hs) fun E' σ H ⟨F0, H0, F, env, st, q⟩ => ?_
  have q00 : Cont C F0 H0 E' ((ownAt env i).out fun _ => (ev C.glob C.fn te (maskP (inB uses) env)).out fun d => (ev C.glob C.fn tk (maskP (inB []) (after d uses env))).out fun kd => if flat kd then (putOut i kd d (after d uses env)).out .nx else .no) := q
  obtain ⟨o, ho, q0⟩ := out_ok (ownAt_ne env i) q00
  obtain ⟨a, _, ha, _⟩ := st.ow i o (ownAt_ok ho)
  refine ask st q0 fun d v Fu F' H' z x r q1 => ?_
  obtain ⟨F2, st2, r2⟩ := st.after z x r
  refine ⟨.ref a, ha, ?_⟩
  refine ask st2 q1 fun kd y Fu2 F3 H3 z3 x3 r3 q3 => ?_
  split at q3
  · rename_i hf
    have st3 := st2.drop z3 x3
    have rk := r3.flat hf F2
    obtain ⟨env', h1, q4⟩ := out_ok (putOut_ne i kd d _) q3
    obtain ⟨a', H4, g1, g2, g3⟩ := put_core st3 rk r2 h1
    rw [ha] at g1
    cases g1
    exact ⟨a, H4, rfl, g2, q4 F2 σ H4 g3⟩
  · exact False.elim q3
/-- a, d[k] = e -/
theorem s_asgput {i j : Nat} {xa xd : Str} {xk : Str} {e : Expr} {tk te : E} {p1 p2 p3 p4 p5 : Pos} {kk : Nat} {uses : List Nat} (G : Gd0 X C) (hc : X.calm = true) (hi : X.N[i]? = some xa) (hla : Loc X.env.scope xa) (hfa : X.fn xa = true ∨ X.env.scope.names.lookup xa = some .local)
    (hj : X.N[j]? = some xd) (hvd : Vis X.env.scope xd) (hpd : plainName xd = true) (hk : PE X (.Name xk p5) (C.rd tk)) (he : PE X e (C.rd te))
    (hs : swapsWithSole [.Tuple [.Name xa p1, .Subscript (.Name xd p2) (.Name xk p5) p3] kk p4] e pos.line X.env = pure false) (hw : swappedStores [.Tuple [.Name xa p1, .Subscript (.Name xd p2) (.Name xk p5) p3] kk p4] e X.env = pure none) :
    PS X (.Assign [.Tuple [.Name xa p1, .Subscript (.Name xd p2) (.Name xk p5) p3] kk p4] e pos) (C.rs refu (.asgput i j tk te uses)) := by
  have hu := G.hu
  refine PS.weak (ps_asg he (pg_tup hc (n := 2) (pgs_cons (pg_name G.nd hi hla hfa) (pgs_cons (pg_sub (pe_var hj hvd (plain1 hpd).1 (plain1 hpd).2.1) hk (set_dict (by omega))) pgs_nil rfl) rfl) rfl rfl) hs hw rfl) fun E' σ H ⟨F0, H0, F, env, st, q⟩ => ?_
  have q00 : Cont C F0 H0 E' ((ownAt env j).out fun _ => if i = j then .no else (ev C.glob C.fn te (maskP (inB uses) env)).out fun d => match d with
    | .tup [a, b] => (bind (.one i) a (after d uses env)).out fun env1 => (ev C.glob C.fn tk (maskP (inB []) env1)).out fun kd => if flat kd then (putOut j kd b env1).out .nx else .no
    | _ => .no) := q
  obtain ⟨o, ho, q01⟩ := out_ok (ownAt_ne env j) q00
  obtain ⟨a0, _, ha, _⟩ := st.ow j o (ownAt_ok ho)
  split at q01
  · exact False.elim q01
  rename_i hij
  refine ask st q01 fun d v Fu F' H' z x r q1 => ?_
  obtain ⟨F2, st2, r2⟩ := st.after z x r
  split at q1
  · rename_i da db
    obtain ⟨t, us, rfl, sq, v1, w1, rfl, g1, v2, w2, rfl, g2, g3⟩ := r2
    obtain rfl : w2 = [] := g3
    obtain ⟨env1, hb, q2⟩ := out_ok (bind_ne' (.one i) da _) q1
    refine ⟨t, [v1, v2], rfl, by rw [G.hK]; exact Same.tup st2.ext.inH sq, rfl, v1, [v2], rfl, ?_⟩
    have hbl : i < (after (.tup [da, db]) uses env).length ∧ env1 = (after (.tup [da, db]) uses env).set i (.sh da) := by
      have hb' : (if i < (after (.tup [da, db]) uses env).length then R.ok ((after (.tup [da, db]) uses env).set i (.sh da)) else .no) = .ok env1 := hb
      split at hb'
      · rename_i h; cases hb'; exact ⟨h, rfl⟩
      · cases hb'
    have st3 : StR C.K C.w F0 H0 F2 (σ.set i (some v1)) H' env1 := by
      refine st2.bind hb ⟨List.length_set, fun m hm => List.getElem?_set_ne (fun e => hm (by rw [e]; exact List.mem_singleton.mpr rfl)), fun m hm y hy => ?_⟩
      obtain rfl : m = i := List.mem_singleton.mp hm
      rw [hbl.2, List.getElem?_set_self hbl.1] at hy
      cases hy
      exact ⟨v1, List.getElem?_set_self (by rw [st2.len]; exact hbl.1), g1⟩
    have ha' : (σ.set i (some v1))[j]? = some (some (.ref a0)) := by rw [List.getElem?_set_ne hij]; exact ha
    refine ⟨v2, [], rfl, .ref a0, ha', ?_⟩
    refine ask st3 q2 fun kd y Fu2 F3 H3 z3 x3 r3 q3 => ?_
    split at q3
    · rename_i hf
      have st4 := st3.drop z3 x3
      obtain ⟨env', h1, q4⟩ := out_ok (putOut_ne j kd db _) q3
      obtain ⟨a', H4, e1, e2, e3⟩ := put_core st4 (r3.flat hf F2) g2 h1
      rw [ha'] at e1
      cases e1
      exact ⟨a0, H4, rfl, e2, rfl, q4 F2 _ H4 e3⟩
    · exact False.elim q3
  · exact False.elim q1
/-- l.extend(e) -/
theorem s_ext {i : Nat} {x : Str} {e : Expr} {te : E} {p1 ap cp : Pos} {uses : List Nat} (G : Gd0 X C) (hi : X.N[i]? = some x) (hv : Vis X.env.scope x) (hp : plainName x = true) (he : PE X e (C.rd te)) (hn : NoStar e) (hline : (ap.endLine == cp.line) = true) :
    PS X (.Expr (.Call (.Attribute (.Name x p1) "extend" ap) [e] [] cp) pos) (C.rs refu (.ext i te uses)) := by
  have hfew : ((backTo cp (starEach [e] X.env)).all (fun x => !x.1) && (backToKw cp (keywordEach [] X.env)).all (fun x => x.1.isSome)
      && decide (([e] : List Expr).length + ([] : List Keyword).length + (if ([] : List Keyword).isEmpty then 0 else 1) < 30)) = true := by rw [hn [] X.env]; rfl
  refine PS.weak (ps_expr (pe_bm PySem.F.plainAttrs_list PySem.F.slot_list_extend PySem.F.type_list_extend mt_extend (pe_var hi hv (plain1 hp).1 (plain1 hp).2.1) (pa_cons he pa_nil (hn [] X.env)) rfl hfew hline (hn [] X.env) rfl) rfl) fun E' σ H ⟨F0, H0, F, env, st, q⟩ => ?_
  have q0 : Cont C F0 H0 E' ((ownAt env i).out fun o => match o with
    | .lst xs => (ev C.glob C.fn te (maskP (inB uses) env)).out fun d => (ownAt (demP (inB uses) env) i).out fun o => match o, d with
      | .lst xs, .lst ys => if xs.length + ys.length ≤ lim then .nx ((demP (inB uses) env).set i (.ow (.lst (xs ++ ys)))) else .no
      | _, _ => .no
    | _ => .no) := q
  obtain ⟨o, ho, q1⟩ := out_ok (ownAt_ne env i) q0
  have how := ownAt_ok ho
  obtain ⟨a, ob, h1, h2, h3, h4, h5⟩ := st.ow i o how
  cases o with
  | lst xs =>
    obtain ⟨ds, vs, e1, rfl, h6⟩ : ∃ ds vs, D.lst xs = .lst ds ∧ ob = .lst vs ∧ Reps C.K C.w F ds vs := by
      rcases h5 with h5 | ⟨_, _, _, e, _⟩
      · exact h5
      · cases e
    cases e1
    refine ⟨.ref a, h1, .inl ⟨rfl, vs, SqL.of h2⟩, ?_⟩
    refine ask st q1 fun d v Fu F' H' z x r q2 => ?_
    have st2 := st.keep z x
    obtain ⟨o2, ho2, q3⟩ := out_ok (ownAt_ne _ i) q2
    have how2 := ownAt_ok ho2
    split at q3
    · rename_i xs2 ys
      obtain ⟨a', ob', k1, k2, k3, k4, k5⟩ := st2.ow i _ how2
      rw [h1] at k1
      cases k1
      obtain ⟨ds', vs', e3, rfl, g6⟩ : ∃ ds vs, D.lst xs2 = .lst ds ∧ ob' = .lst vs ∧ Reps C.K C.w F' ds vs := by
        rcases k5 with k5 | ⟨_, _, _, e, _⟩
        · exact k5
        · cases e
      cases e3
      obtain ⟨b, us, rfl, hb, hr⟩ := r
      split at q3
      · rename_i hz
        exact ⟨a, b, vs', us, rfl, rfl, k2, x.inH _ _ hb, by rw [← g6.length, ← hr.length, ← lim_eq]; exact hz, q3 F' σ _ (st2.chOw how2 h1 (.inl ⟨_, _, rfl, rfl, Reps.append g6 hr⟩))⟩
      · exact False.elim q3
    · exact False.elim q3
  | _ => exact False.elim q1
/-- X(e), e any value -/
theorem mk_own {c : Addr} {bmB : List Value} {B newId initId : String} {x : Str} {e : Expr} {ta : TE} {p cp : Pos} (F : ExcBaseFacts B newId initId bmB) (q : PySem.W.excIn X.K c bmB newId = true) (gC : X.mg x = some (.ref c)) (kC : PySem.W.keepIn X.K (.ref c) = true) (r : Raises X (.ref c)) (hg : Gl X x)
    (he : PE X e ta) (ns : NoStar e) (hdb : (x == ("__debug__" : Str)) = false) : PMk X (.Call (.Name x p) [e] [] cp) (fun σ H Q => ta σ H fun _ H1 => Q (.ref c) none H1) := by
  intro pins s σ H Q I h
  have hst := ns [] X.env
  refine wpAny_Call_Name_kw (ld_glob I.toInv hg gC (PySem.W.callWith_K (h₀ := X.base) I.ok.mod.kin kC ?_ hst rfl) hdb)
  rw [hst]
  show wpAny _ _ (spliced ((false, eval e X.env) :: backTo cp (starEach [] X.env))) _ _ s
  refine Calls.spliced_cons (thn (he.run pins s σ H _ I h) fun u s1 ⟨v, H1, I1, r1, q1⟩ => Calls.spliced_nil ⟨I1.toInv.kIn, ?_⟩)
  replace I1 := I1.toInv
  obtain ⟨_, _, _, _, _, _, _, _, _, _, _, _, _, _, _, _, _, hC, hN, hni, T⟩ := exc_obj I1.kIn q
  show wpAny _ _ (call (.ref c) [u]) _ _ _
  exact wpAny_call_exc_subT F T hC hN hni (fun h' e hm => L2N.mk_of I1 hm r q1 (I1.hok.gone hm.new)) (by show 1 ≤ sizeLine; rw [sizeLine_eq]; omega)
theorem s_raise1 {e : Expr} {te : E} {c : Nat} {m : Expr} (hc : X.calm = true) (tk : L2N.Takes X C.W) (he : PMk X m (fun σ H Q => C.rd te σ H fun _ H1 => Q (.ref (C.ca c)) none H1)) : PS X (.Raise (some m) none pos) (C.rs refu (.raise c te)) :=
  PS.weak (ps_raise hc tk he) fun E' σ H ⟨F0, H0, F, env, st, q⟩ => by
    have q' : Cont C F0 H0 E' ((ev C.glob C.fn te (open_ env)).out fun _ => .ex c) := q
    rw [open_eq] at q'
    exact ask st q' fun d v Fu F' H' z x r q2 => q2 σ H' (st.drop z x).ext.same
end
end Ev

/-! From the text's statements to S, and that it is right. -/
namespace Ev
open PySem L2 PyProof.Rows RZ

mutual
def usesE : E → List Nat
  | .nul => []
  | .emp => []
  | .var i => [i]
  | .lit _ => []
  | .glo _ => []
  | .tup es => usesL es
  | .lst es => usesL es
  | .dct _ vs => usesL vs
  | .bin _ a b => usesE a ++ usesE b
  | .cat a b => usesE a ++ usesE b
  | .neg a => usesE a
  | .cmp _ a b => usesE a ++ usesE b
  | .cmp2 _ _ a b c => usesE a ++ (usesE b ++ usesE c)
  | .and_ a b => usesE a ++ usesE b
  | .or_ a b => usesE a ++ usesE b
  | .not_ a => usesE a
  | .ite c a b => usesE c ++ (usesE a ++ usesE b)
  | .idx a i => usesE a ++ usesE i
  | .slc a l u => usesE a ++ (usesE l ++ usesE u)
  | .rev a => usesE a
  | .call _ es => usesL es
  | .isi a _ => usesE a
  | .isx i _ _ => [i]
  | .bi1 _ a => usesE a
  | .bi2 _ a b => usesE a ++ usesE b
  | .mt1 _ o a => usesE o ++ usesE a
  | .get2 o a b => usesE o ++ (usesE a ++ usesE b)
  | .lc e _ _ args c _ => usesE e ++ (usesL args ++ usesL c)
def usesL : List E → List Nat
  | [] => []
  | e :: es => usesE e ++ usesL es
end
def notComp : Expr → Bool
  | .ListComp .. => false
  | .SetComp .. => false
  | .DictComp .. => false
  | _ => true
def notTup : Expr → Bool
  | .Tuple .. => false
  | _ => true
theorem notComp_sw {e : Expr} (h : notComp e = true) (t : Option Expr) (l : Nat) (env : PySem.Env) : swapsWith e t l env = pure false := by
  cases e <;> first | rfl | cases h
theorem sole_sw {e : Expr} (h : notComp e = true) (t : Expr) (l : Nat) (env : PySem.Env) : swapsWithSole [t] e l env = pure false := notComp_sw h (some t) l env
theorem notTup_sw {e tg : Expr} (h : notTup e = true) (env : PySem.Env) : swappedStores [tg] e env = pure none := by
  cases e <;> first | (cases tg <;> rfl) | cases h
def ownIn (s : Scope) (y : Str) : Bool := s.names.any fun (n, k) => n == y && (k == .local || k == .cell)
/-- the comprehension is stored from within -/
def swB (sc : Scope) (x : Str) (p : Pos) : Expr → Bool
  | .ListComp _ _ s pos => decide (sc.names.lookup x = some .local) && ((p.line == pos.line) && !ownIn s x)
  | _ => false
def notSD : Expr → Bool
  | .SetComp .. => false
  | .DictComp .. => false
  | _ => true
theorem sw_lc {elt : Expr} {gs : List Comprehension} {scope : Scope} {pos py : Pos} {y : Str} {l : Nat} {env : PySem.Env} :
    swapsWith (.ListComp elt gs scope pos) (some (.Name y py)) l env = pure (env.blockKind == .function && env.kindOf y == some .local && py.line == pos.line && !(scope.names.any fun (n, k) => n == y && (k == .local || k == .cell))) := rfl
theorem sw_no {e : Expr} {x : Str} {p : Pos} {l : Nat} {env : PySem.Env} (hd : notSD e = true) (h : swB env.scope x p e = false) : swapsWith e (some (.Name x p)) l env = pure false := by
  cases e with
  | ListComp elt gs scope pos =>
    rw [sw_lc]
    have h' : (decide (env.scope.names.lookup x = some .local) && ((p.line == pos.line) && !ownIn scope x)) = false := h
    have e2 : (env.kindOf x == some NameKind.local) = decide (env.scope.names.lookup x = some .local) := by
      show (env.scope.names.lookup x == some NameKind.local) = _
      cases hb : (env.scope.names.lookup x == some NameKind.local) with
      | true => rw [decide_eq_true (eq_of_beq hb)]
      | false => exact (decide_eq_false (fun z => by rw [z] at hb; simp at hb)).symm
    have e3 : (env.blockKind == .function && env.kindOf x == some .local && p.line == pos.line && !(scope.names.any fun (n, k) => n == x && (k == .local || k == .cell))) = (env.blockKind == .function && (decide (env.scope.names.lookup x = some .local) && ((p.line == pos.line) && !ownIn scope x))) := by
      rw [e2]
      unfold ownIn
      rw [Bool.and_assoc, Bool.and_assoc]
    rw [e3, h', Bool.and_false]
  | SetComp _ _ _ _ => cases hd
  | DictComp _ _ _ _ _ => cases hd
  | _ => rfl

section
variable (tb : Tb) (N : List Str) (sc : Scope) (ow : List Str)
/-- a + b as a new list of one's own -/
def catOf (f : Expr → Option E) (o : Bool) : Expr → Option E
  | .BinOp a .Add b _ => if o then (f a).bind fun ta => (f b).map (E.cat ta) else none
  | _ => none
def cAsg (f : Expr → Option E) (tg e : Expr) : Option S :=
  match tg with
  | .Name x p => if okIn sc x && (plainName x && notSD e) then (posOf x N).bind fun i => (match catOf f (decide (x ∈ ow)) e with
    | some t => some (.asg (.one i) t true (usesE t))
    | none => (f e).map fun t => .asg (.one i) t (decide (x ∈ ow) && fresh t) (usesE t)) else none
  | .Subscript (.Name x _) k _ => if locB sc x && (plainName x && (notSlice k && notComp e)) then (posOf x N).bind fun i => (f k).bind fun tk => (f e).map fun te => .put i tk te (usesE te) else none
  | .Tuple [.Name xa _, .Subscript (.Name xd _) (.Name xk pk) _] _ _ => if (notTup e && notComp e) && (okIn sc xa && (locB sc xd && plainName xd)) then (posOf xa N).bind fun i => (posOf xd N).bind fun j => (f (.Name xk pk)).bind fun tk => (f e).map fun te => .asgput i j tk te (usesE te) else none
  | .Tuple es _ _ => if notTup e && notComp e then (compT N 20 tg).bind fun t => (f e).bind fun te => if chkT N (okIn sc) t tg then some (.asg t te false (usesE te)) else none else none
  | _ => none
def cRaise (f : Expr → Option E) (e : Expr) : Option S :=
  match e with
  | .Call (.Name x _) [.Constant (.str m) _ _] [] _ => if glB sc x && plainName x then (posOf x tb.cs).map fun c => .raise c (.lit .non) else none
  | .Call (.Name x _) [a] [] _ => if glB sc x && (plainName x && noStarB a) then (posOf x tb.cs).bind fun c => (f a).map fun t => .raise c t else none
  | _ => none
def cExpr (f : Expr → Option E) (e : Expr) : Option S :=
  match e with
  | .Call (.Attribute (.Name x _) m ap) [a] [] cp => if m = "append" && (locB sc x && (plainName x && (noStarB a && ap.endLine == cp.line))) then (posOf x N).bind fun i => (f a).map fun t => .app i t (usesE t) else
      if m = "extend" && (locB sc x && (plainName x && (noStarB a && ap.endLine == cp.line))) then (posOf x N).bind fun i => (f a).map fun t => .ext i t (usesE t) else none
  | e => if notComp e then (f e).map .exp else none
def cTry (f : Expr → Option E) (body : List Stmt) (hs : List ExceptHandler) : Option S :=
  match body, hs with
  | [.Return (some e) _], [.ExceptHandler (some (.Name ax _)) (some n) [.Return (some (.Call (.Name rf _) [.Name n2 _] [] _)) _] _] =>
    if ax = "AskError" && (glB sc ax && (rf = "_law_refused" && (glB sc rf && (n2 = n && (decide (sc.names.lookup n = some .local) && plainName n))))) then (posOf n N).bind fun i => (f e).map fun t => .tryR t i else none
  | _, _ => none
/-- a loop whose name is used behind it: told by a mark among the own names -/
def leakB (ow : List Str) : Expr → Bool
  | .Name x _ => decide (x ++ "!" ∈ ow)
  | _ => false
def compSs (g : Stmt → Option S) : List Stmt → Option (List S)
  | [] => some []
  | s :: r => (g s).bind fun t => (compSs g r).map (t :: ·)
def compS : Nat → Stmt → Option S
  | 0, _ => none
  | n + 1, st => match st with
    | .Assign [tg] e _ => cAsg N sc ow (comp tb N 60 sc) tg e
    | .Expr e _ => cExpr N sc (comp tb N 60 sc) e
    | .Return (some e) _ => (comp tb N 60 sc e).map S.ret
    | .If c a b _ => if tst0 c then (comp tb N 60 sc c).bind fun tc => (compSs (compS n) a).bind fun ta => (compSs (compS n) b).map (S.ite tc ta) else none
    | .For tg iter body [] _ => if notSet iter then (cIter (comp tb N 60 sc) sc tg iter).bind fun ka => (compT N 20 tg).bind fun t => (compSs (compS n) body).bind fun ts => if chkT N (okIn sc) t tg && wkOk ka.1 t then some (if leakB ow tg then .forL t ka.1 ka.2 (usesL ka.2) ts else .for_ t ka.1 ka.2 (usesL ka.2) ts) else none else none
    | .While c body [] _ => if tst0 c then (comp tb N 60 sc c).bind fun tc => (compSs (compS n) body).map (S.while_ tc) else none
    | .Raise (some e) none _ => cRaise tb sc (comp tb N 60 sc) e
    | .Try body hs [] [] _ => cTry N sc (comp tb N 60 sc) body hs
    | _ => none
end

/-- what holds while a def's body runs -/
structure Gs (tb : Tb) (X : Cx) (C : Ct) (refu : Nat → R D) : Prop extends Gd tb.nm X C where
  hp : PassesOwn (model X.prog X.w) X.A X.env X.xe
  hk : X.env.scope.kind = .function
  hst : X.stack = X.env :: X.outer
  hfr : X.env.frame = some X.env.locals
  hfn : ∀ x, X.fn x = true
  exc : ∀ c x, tb.cs[c]? = some x → X.mg x = some (.ref (C.ca c)) ∧ PySem.W.excIn X.K (C.ca c) He.veBase "ValueError.__new__" = true ∧ PySem.W.keepIn X.K (.ref (C.ca c)) = true ∧ Raises X (.ref (C.ca c))
  ask : ∃ cA, X.mg "AskError" = some cA ∧ ∀ c d, refu c = .ok d → PySem.W.exmOne X.K (.ref (C.ca c)) cA = some true
  hot : ∀ (i : Nat) (n : Str) (q1 q2 q3 : Pos), X.N[i]? = some n → Vis X.env.scope n → plainName n = true → Gl X "_law_refused" → ∀ (a : Addr) (oe : Obj) (cls : Value) (d : Option Addr) (pn : List (Addr × Obj)), L2N.Zn cls d oe → (∃ vs, oe.data = .fields vs) →
    PE (X.suite a ((a, oe) :: pn)) (.Call (.Name "_law_refused" q1) [.Name n q2] [] q3) (C.rf refu i a cls d)
  rne : ∀ c k, refu c ≠ .ex k
section
variable {tb : Tb} {X : Cx} {C : Ct} {refu : Nat → R D}
theorem okIn_loc {sc : Scope} {x : Str} (h : okIn sc x = true) : Loc sc x := by
  unfold okIn at h
  split at h
  · exact .inl (by assumption)
  · exact .inr (by assumption)
  · cases h
theorem gd_tr (G : Gd tb.nm X C) (W : WX) (pn : List (Addr × Obj)) (xe : Value → Shared → Prop) (tk : L2N.Takes (X.tr pn xe) W) : Gd tb.nm (X.tr pn xe) { C with W := W } where
  hK := G.hK
  hw := G.hw
  nd := G.nd
  hu := G.hu
  calm := G.calm
  takes := tk
  blt := G.blt
  glo := G.glo
  gno := G.gno
  fns := G.fns
theorem fresh_new {C : Ct} {X : Cx} {e : Expr} {t : E} (h : Res X C e t) (hf : fresh t = true) : ∀ env d, ev C.glob C.fn t env = .ok d → (∃ ds, d = .lst ds) ∨ ∃ ks ds, d = .dic ks ds := by
  intro env d hd
  cases t <;> first | cases hf | skip
  · cases hd; exact .inr ⟨_, _, rfl⟩
  · exact lst_new env d hd
  · exact dct_new env d hd
  · exact cat_new env d hd
  · rename_i f a
    cases f <;> first | cases hf | skip
    · exact list_new env d hd
    · obtain ⟨x, h1, h2⟩ := R.bind_eq_ok (show R.bind (ev C.glob C.fn a env) _ = .ok d from hd)
      exact dDict_new x d h2
    · obtain ⟨x, h1, h2⟩ := R.bind_eq_ok (show R.bind (ev C.glob C.fn a env) _ = .ok d from hd)
      exact sorted_new x d h2
  · exact lc_new env d hd
theorem cAsg_ok (G : Gs tb X C refu) {ow : List Str} {tg e : Expr} {s : S} {pos : Pos} (h : cAsg X.N X.env.scope ow (comp tb X.N 60 X.env.scope) tg e = some s) : PS X (.Assign [tg] e pos) (C.rs refu s) := by
  have hf : Rc X C (comp tb X.N 60 X.env.scope) := fun e t h => comp_ok 60 G.toGd e t h
  unfold cAsg at h
  split at h
  · rename_i x p
    split at h
    · rename_i hc
      rw [Bool.and_eq_true, Bool.and_eq_true] at hc
      obtain ⟨i, h1, h2⟩ := Option.bind_eq_some_iff.mp h
      have hi := posOf_at h1
      have hl := okIn_loc hc.1
      split at h2
      · rename_i t hcat
        cases h2
        unfold catOf at hcat
        split at hcat
        · split at hcat
          · obtain ⟨ta, g1, g2⟩ := Option.bind_eq_some_iff.mp hcat
            obtain ⟨tb', g3, rfl⟩ := Option.map_eq_some_iff.mp g2
            exact s_setN G.nd hi hl (.inl (G.hfn x)) (s_cat (hf _ _ g1).pe (hf _ _ g3).pe) cat_new rfl
          · cases hcat
        · cases hcat
      obtain ⟨t, h3, rfl⟩ := Option.map_eq_some_iff.mp h2
      have r := hf _ _ h3
      cases hsw : swB X.env.scope x p e with
      | false =>
        have hs := sw_no (l := pos.line) hc.2.2 hsw
        cases ho : decide (x ∈ ow) && fresh t with
        | false => exact s_set G.nd hi hl (.inl (G.hfn x)) r.pe hs
        | true =>
          have hfr := (Bool.and_eq_true_iff.mp ho).2
          exact s_setN G.nd hi hl (.inl (G.hfn x)) (r.pn hfr) (fresh_new r hfr) hs
      | true =>
        rename_i hnone
        clear hnone
        cases e <;> first | cases hsw | skip
        rename_i elt gs scope lpos
        have hsw' : decide (X.env.scope.names.lookup x = some .local) = true ∧ ((p.line == lpos.line) = true ∧ (!ownIn scope x) = true) := by
          have := Bool.and_eq_true_iff.mp hsw
          exact ⟨this.1, Bool.and_eq_true_iff.mp this.2⟩
        have hloc := of_decide_eq_true hsw'.1
        have h3' : cLc X.N (comp tb X.N 59 X.env.scope) (comp tb X.N 59 (relS scope X.env.scope)) X.env.scope elt scope gs = some t := h3
        obtain ⟨tg', iter, ifs, te, tt, k, args, cs, rfl, rfl, L⟩ := cLc_ok G.toGd (fun e t h => comp_ok 59 G.toGd e t h) (fun s H A cl fp e t h => comp_ok 59 (gd_blk G.toGd s H _ _ fp) e t h) h3'
        have key := ps_setLc (spos := pos) (py := p) G.calm G.nd hi hloc (sw_true G.hk hloc hsw'.2.1 (by simpa [ownIn] using hsw'.2.2)) L.hi L.ok L.hg L.ht L.he L.hs (pos := lpos)
        cases ho : decide (x ∈ ow) with
        | false =>
          refine PS.weak key fun E' σ H h => ?_
          have h' := asg1_core (show C.rs refu (.asg (.one i) (.lc te tt k args cs _) false _) E' σ H from h)
          have hrn : C.rn (.lc te tt k args cs ((ownOf X.N scope.names).map (·.2))) σ H (fun x H1 => gName i x σ H1 E'.nx) := by
            obtain ⟨env, F, he, hs, q⟩ := h'
            refine ⟨env, F, he, hs, ?_⟩
            cases e1 : ev C.glob C.fn (.lc te tt k args cs ((ownOf X.N scope.names).map (·.2))) env with
            | no => rw [e1] at q; exact q
            | ex c => rw [e1] at q; exact q
            | ok d =>
              rw [e1] at q
              rcases lc_new env d e1 with ⟨ds, rfl⟩ | ⟨ks, ds, rfl⟩
              · exact fun p vs F' H' x hp r => fin_lst (fin_mono x q) x.inH r p hp
              · exact fun p kvs F' H' x hp h1 h2 h3 => q (.ref p) _ _ (x.trans (Ext.new1 (.dK kvs) x.inH hp)) ⟨p, kvs, rfl, upd_same, h1, h2, Reps.mono (same_upd (x.inH.free hp)) ds _ h3⟩
          exact lc_core' L.wk rfl L.sub hrn
        | true =>
          refine PS.weak key fun E' σ H h => ?_
          have h' := asgN_core (lc_new) (show C.rs refu (.asg (.one i) (.lc te tt k args cs _) true _) E' σ H from h)
          exact lc_core' L.wk rfl L.sub h'
    · cases h
  · split at h
    · rename_i hc
      rw [Bool.and_eq_true, Bool.and_eq_true, Bool.and_eq_true] at hc
      obtain ⟨i, h1, h2⟩ := Option.bind_eq_some_iff.mp h
      obtain ⟨tk, h3, h4⟩ := Option.bind_eq_some_iff.mp h2
      obtain ⟨te, h5, rfl⟩ := Option.map_eq_some_iff.mp h4
      exact s_put G.toGd0 (posOf_at h1) (locB_vis hc.1) hc.2.1 (hf _ _ h3).pe (hf _ _ h5).pe (notComp_sw hc.2.2.2 _ _ _)
    · cases h
  · split at h
    · rename_i hc
      simp only [Bool.and_eq_true] at hc
      obtain ⟨⟨c1, c2⟩, c3, c4, c5⟩ := hc
      obtain ⟨i, h1, h2⟩ := Option.bind_eq_some_iff.mp h
      obtain ⟨j, h3, h4⟩ := Option.bind_eq_some_iff.mp h2
      obtain ⟨tk, h5, h6⟩ := Option.bind_eq_some_iff.mp h4
      obtain ⟨te, h7, rfl⟩ := Option.map_eq_some_iff.mp h6
      exact s_asgput G.toGd0 G.calm (posOf_at h1) (okIn_loc c3) (.inl (G.hfn _)) (posOf_at h3) (locB_vis c4) c5 (hf _ _ h5).pe (hf _ _ h7).pe (sole_sw c2 _ _ _) (notTup_sw c1 _)
    · cases h
  · split at h
    · rename_i hc
      rw [Bool.and_eq_true] at hc
      obtain ⟨t, h1, h2⟩ := Option.bind_eq_some_iff.mp h
      obtain ⟨te, h3, h4⟩ := Option.bind_eq_some_iff.mp h2
      split at h4
      · rename_i hk
        cases h4
        exact s_asg (hf _ _ h3).pe (s_tgt G.hK G.nd G.calm (ok := okIn X.env.scope) (fun x hx => ⟨okIn_loc hx, .inl (G.hfn x)⟩) t _ hk) (sole_sw hc.2 _ _ _) (notTup_sw hc.1 _) rfl
      · cases h4
    · cases h
  · cases h
theorem cRaise_ok (G : Gs tb X C refu) {e : Expr} {s : S} {pos : Pos} (h : cRaise tb X.env.scope (comp tb X.N 60 X.env.scope) e = some s) : PS X (.Raise (some e) none pos) (C.rs refu s) := by
  unfold cRaise at h
  split at h
  · split at h
    · rename_i hc
      rw [Bool.and_eq_true] at hc
      obtain ⟨c, h1, rfl⟩ := Option.map_eq_some_iff.mp h
      obtain ⟨g1, g2, g3, g4⟩ := G.exc c _ (posOf_at h1)
      exact s_raise G.calm G.takes (L2N.pmk_own PySem.F.excBase_ValueError g2 g1 g3 g4 (glB_gl hc.1) (plain1 hc.2).1)
    · cases h
  · split at h
    · rename_i hc
      rw [Bool.and_eq_true, Bool.and_eq_true] at hc
      obtain ⟨c, h1, h2⟩ := Option.bind_eq_some_iff.mp h
      obtain ⟨t, h3, rfl⟩ := Option.map_eq_some_iff.mp h2
      obtain ⟨g1, g2, g3, g4⟩ := G.exc c _ (posOf_at h1)
      exact s_raise1 (e := .Name Str.empty pos) G.calm G.takes (mk_own PySem.F.excBase_ValueError g2 g1 g3 g4 (glB_gl hc.1) (comp_ok 60 G.toGd _ _ h3).pe (noStar_of hc.2.2) (plain1 hc.2.1).1)
    · cases h
  · cases h
theorem cExpr_ok (G : Gs tb X C refu) {e : Expr} {s : S} {pos : Pos} (h : cExpr X.N X.env.scope (comp tb X.N 60 X.env.scope) e = some s) : PS X (.Expr e pos) (C.rs refu s) := by
  have hf : Rc X C (comp tb X.N 60 X.env.scope) := fun e t h => comp_ok 60 G.toGd e t h
  unfold cExpr at h
  split at h
  · split at h
    · rename_i hc
      rw [Bool.and_eq_true, Bool.and_eq_true, Bool.and_eq_true, Bool.and_eq_true, decide_eq_true_eq] at hc
      obtain ⟨rfl, h1, h2, h3, h4⟩ := hc
      obtain ⟨i, q1, q2⟩ := Option.bind_eq_some_iff.mp h
      obtain ⟨t, q3, rfl⟩ := Option.map_eq_some_iff.mp q2
      exact s_app G.toGd0 (posOf_at q1) (locB_vis h1) h2 (hf _ _ q3).pe (noStar_of h3) h4
    · split at h
      · rename_i hc
        rw [Bool.and_eq_true, Bool.and_eq_true, Bool.and_eq_true, Bool.and_eq_true, decide_eq_true_eq] at hc
        obtain ⟨rfl, h1, h2, h3, h4⟩ := hc
        obtain ⟨i, q1, q2⟩ := Option.bind_eq_some_iff.mp h
        obtain ⟨t, q3, rfl⟩ := Option.map_eq_some_iff.mp q2
        exact s_ext G.toGd0 (posOf_at q1) (locB_vis h1) h2 (hf _ _ q3).pe (noStar_of h3) h4
      · cases h
  · split at h
    · rename_i hc
      obtain ⟨t, q3, rfl⟩ := Option.map_eq_some_iff.mp h
      exact s_exp (hf _ _ q3).pe (notComp_sw hc _ _ _)
    · cases h
theorem cTry_ok (G : Gs tb X C refu) {body : List Stmt} {hs : List ExceptHandler} {s : S} {pos : Pos} (h : cTry X.N X.env.scope (comp tb X.N 60 X.env.scope) body hs = some s) : PS X (.Try body hs [] [] pos) (C.rs refu s) := by
  unfold cTry at h
  split at h
  · split at h
    · rename_i hc
      simp only [Bool.and_eq_true, decide_eq_true_eq] at hc
      obtain ⟨rfl, h1, rfl, h2, rfl, h3, h4⟩ := hc
      obtain ⟨i, q1, q2⟩ := Option.bind_eq_some_iff.mp h
      obtain ⟨t, q3, rfl⟩ := Option.map_eq_some_iff.mp q2
      obtain ⟨cA, m1, m2⟩ := G.ask
      have hi := posOf_at q1
      exact s_try G.hst G.hfr G.nd hi h3 ⟨glB_gl h1, by decide, .inl m1⟩ G.takes (fun W pn xe tk => (comp_ok 60 (gd_tr G.toGd W pn xe tk) _ _ q3).pe)
        (fun a oe cls d pn hz hfl => G.hot i _ _ _ _ hi (.inl h3) h4 (glB_gl h2) a oe cls d pn hz hfl) m2 G.rne (List.getElem?_eq_some_iff.mp hi).1
    · cases h
  · cases h
theorem compSs_ok {g : Stmt → Option S} (hg : ∀ st s, g st = some s → PS X st (C.rs refu s)) : ∀ {sts : List Stmt} {ss : List S}, compSs g sts = some ss → PSs X sts (C.rss refu ss)
  | [], ss, h => by cases h; exact s_nil'
  | st :: r, ss, h => by
    obtain ⟨t, h1, h2⟩ := Option.bind_eq_some_iff.mp (show (g st).bind _ = some ss from h)
    obtain ⟨r', h3, rfl⟩ := Option.map_eq_some_iff.mp h2
    exact s_cons' (hg _ _ h1) (compSs_ok hg h3)
theorem compS_ok (G : Gs tb X C refu) {ow : List Str} : ∀ (n : Nat) (st : Stmt) (s : S), compS tb X.N X.env.scope ow n st = some s → PS X st (C.rs refu s)
  | 0, _, _, h => by cases h
  | n + 1, st, s, h => by
    have hf : Rc X C (comp tb X.N 60 X.env.scope) := fun e t h => comp_ok 60 G.toGd e t h
    have hg := compS_ok G (ow := ow) n
    unfold compS at h
    split at h
    · exact cAsg_ok G h
    · exact cExpr_ok G h
    · obtain ⟨t, h1, rfl⟩ := Option.map_eq_some_iff.mp h
      exact s_ret (hf _ _ h1).pe
    · split at h
      · rename_i ht
        obtain ⟨tc, h1, h2⟩ := Option.bind_eq_some_iff.mp h
        obtain ⟨ta, h3, h4⟩ := Option.bind_eq_some_iff.mp h2
        obtain ⟨tb', h5, rfl⟩ := Option.map_eq_some_iff.mp h4
        exact s_ifs ((hf _ _ h1).pt ht) (compSs_ok hg h3) (compSs_ok hg h5)
      · cases h
    · split at h
      · rename_i hn
        obtain ⟨ka, h1, h2⟩ := Option.bind_eq_some_iff.mp h
        obtain ⟨t, h3, h4⟩ := Option.bind_eq_some_iff.mp h2
        obtain ⟨ts, h5, h6⟩ := Option.bind_eq_some_iff.mp h4
        split at h6
        · rename_i hk
          rw [Bool.and_eq_true] at hk
          cases h6
          split
          · exact s_forL hk.2 G.hp G.calm (cIter_ok G.toGd hf h1) (s_tgt G.hK G.nd G.calm (ok := okIn X.env.scope) (fun x hx => ⟨okIn_loc hx, .inl (G.hfn x)⟩) t _ hk.1) (compSs_ok hg h5) (notSet_it hn _)
          · exact s_for hk.2 G.hp G.calm (cIter_ok G.toGd hf h1) (s_tgt G.hK G.nd G.calm (ok := okIn X.env.scope) (fun x hx => ⟨okIn_loc hx, .inl (G.hfn x)⟩) t _ hk.1) (compSs_ok hg h5) (notSet_it hn _)
        · cases h6
      · cases h
    · split at h
      · rename_i ht
        obtain ⟨tc, h1, h2⟩ := Option.bind_eq_some_iff.mp h
        obtain ⟨ts, h3, rfl⟩ := Option.map_eq_some_iff.mp h2
        exact s_while G.hp ((hf _ _ h1).pt ht) (compSs_ok hg h3)
      · cases h
    · exact cRaise_ok G h
    · exact cTry_ok G h
    · cases h
end
end Ev

/-! The def that tells a refusal, called within the suite that holds it. -/
namespace Ev
open PySem PySem.Spec L2 PyProof.Rows RZ L2H

section
variable {X : Cx} {C : Ct}
theorem call_isP {a K' : Addr} {oe : Obj} (hin : (a, oe) ∈ X.pn) (T : ExcC X.K K') (hz : Zc (.ref K') none oe) (hf : ∃ vs, oe.data = .fields vs) : CallR X (.builtin "isinstance") (rIsE X.K K' a) := by
  intro pins s σ H xs us Q I r h
  obtain ⟨c, cv, b, e1, hcv, e, q⟩ := h
  subst e1
  cases r with
  | cons rx rr =>
    cases rr with
    | cons rt rr =>
      cases rr
      cases rx
      have ec := hcv _ rt
      subst ec
      have hget := (I.pin (a, oe) (List.mem_append_left _ hin)).1
      obtain ⟨vs, hv⟩ := hf
      have J : PySem.W.InstAt s.heap a oe K' none := by
        cases oe
        obtain ⟨h1, h2⟩ := hz
        dsimp only at h1 h2 hv
        subst h1
        subst h2
        subst hv
        exact ⟨hget, rfl, rfl, trivial⟩
      have kx := PySem.W.handS_kitx_exc (x := a) (ox := oe) T.hg T.hk T.hs T.hd T.ha T.hn T.ht T.hm
      exact PySem.W.kia_one kx I.kIn J e (fun z => nomatch z) fun tk => ⟨.bl b, H, I.kept (t' := tk) (fun _ _ z => z), rfl, q⟩
/-- isinstance(e, c), by the class of what is held -/
theorem s_isx {i : Nat} {a K' : Addr} {oe : Obj} {b : Bool} {x c : Str} {cV : V} {cv : Value} {p1 p2 p3 pos : Pos} (hin : (a, oe) ∈ X.pn) (T : ExcC X.K K') (hz : Zc (.ref K') none oe) (hf : ∃ vs, oe.data = .fields vs) (hN : X.N[i]? = some x) (hv : Vis X.env.scope x) (hp : plainName x = true)
    (hg : Gl X "isinstance") (hm : X.mg "isinstance" = none) (hc : PE X (.Name c p3) (tC cV)) (hcv : ∀ u, RelV cV u → u = cv) (hk : PySem.W.kitOne X.K (.ref K') cv = some b) : PE X (.Call (.Name "isinstance" p1) [.Name x p2, .Name c p3] [] pos) (C.rd (.isx i a b)) := by
  refine PE.weak (pe_callB (call_isP hin T hz hf) hg hm (by decide +kernel) (pa_cons (pe_var hN hv (plain1 hp).1 (plain1 hp).2.1) (pa_cons hc pa_nil rfl) rfl) (by decide) (by decide) rfl rfl) fun σ H Q ⟨env, F, he, hs, q⟩ => ?_
  have q' : fin C.K C.w ((look env i).bind fun y => match y with
    | .adr a' => if a' = a then .ok (.bl b) else .no
    | _ => .no) F H Q _ := q
  cases e1 : look env i with
  | no => rw [e1] at q'; exact False.elim q'
  | ex k =>
    unfold look at e1
    split at e1
    · rename_i sl _
      cases sl <;> cases e1
    · cases e1
  | ok d =>
    rw [e1] at q'
    obtain ⟨v, h1, h2⟩ := he.2 i d e1
    cases d with
    | adr a' =>
      have q2 : fin C.K C.w (if a' = a then .ok (.bl b) else .no) F H Q _ := q'
      by_cases ea : a' = a
      · rw [if_pos ea] at q2
        subst ea
        obtain rfl : v = .ref a' := h2
        exact ⟨.ref a', h1, cV, cv, b, rfl, hcv, hk, fin_ok q2 hs rfl⟩
      · rw [if_neg ea] at q2; exact False.elim q2
    | _ => exact False.elim q'

/-! ### its text -/
variable (N : List Str) (sc : Scope) (ei : Nat) (a : Nat) (cl : Str → Option Bool)
def cIsx (f x c : Str) : Option E := if f = "isinstance" && (posOf x N == some ei && (locB sc x && (plainName x && (glB sc f && (glB sc c && plainName c))))) then (cl c).map fun b => .isx ei a b else none
def cMtH (f : Expr → Option E) (o : Expr) (m : Str) (ap : Pos) (e : Expr) (cp : Pos) : Option E :=
  if noStarB e && (noCall0 o && (ap.endLine == cp.line)) then (f o).bind fun to => (f e).bind fun te =>
    if m = "count" then some (.mt1 .count to te) else if m = "index" then some (.mt1 .index to te) else none
  else none
def compH : Nat → Expr → Option E
  | 0, _ => none
  | n + 1, e => match e with
    | .Name x _ => if plainName x && locB sc x then (posOf x N).map E.var else none
    | .Constant k _ _ => (litOf k).map E.lit
    | .Tuple es _ _ => (compL (compH n) es).map E.tup
    | .List es _ => (compL (compH n) es).map E.lst
    | .BinOp x o y _ => (binOf o).bind fun o' => (compH n x).bind fun tx => (compH n y).map (E.bin o' tx)
    | .UnaryOp o x _ => cUn (compH n) o x
    | .BoolOp op es pos => cBool (compH n) op pos es
    | .Compare x os bs _ => cCmp (compH n) x os bs
    | .Call (.Name f _) [.Name x _, .Name c _] [] _ => cIsx N sc ei a cl f x c
    | .Call (.Attribute o m ap) [e] [] cp => cMtH (compH n) o m ap e cp
    | _ => none
def compHS : Nat → Stmt → Option S
  | 0, _ => none
  | n + 1, st => match st with
    | .Assign [.Name x _] e _ => if okIn sc x && notComp e then (posOf x N).bind fun i => (compH N sc ei a cl 30 e).map fun t => .asg (.one i) t false [] else none
    | .Return (some e) _ => (compH N sc ei a cl 30 e).map S.ret
    | .If c p q _ => if tst0 c then (compH N sc ei a cl 30 c).bind fun tc => (compSs (compHS n) p).bind fun tp => (compSs (compHS n) q).map (S.ite tc tp) else none
    | _ => none
end
theorem cCmp_ok0 {X : Cx} {C : Ct} (G : Gd0 X C) {f : Expr → Option E} (hf : Rc X C f) {a : Expr} {os : List CmpOp} {bs : List Expr} {pos : Pos} {t : E} (h : cCmp f a os bs = some t) : Res X C (.Compare a os bs pos) t := by
  unfold cCmp at h
  split at h
  · split at h
    · rename_i hn
      obtain ⟨o', h1, h2⟩ := Option.bind_eq_some_iff.mp h
      obtain ⟨ta, h3, h4⟩ := Option.bind_eq_some_iff.mp h2
      obtain ⟨tb', h5, rfl⟩ := Option.map_eq_some_iff.mp h4
      obtain rfl := cmpOf_ok h1
      have l := (hf _ _ h3).pe
      have r := (hf _ _ h5).pe
      exact ⟨s_cmp G o' l r (notSet_in hn _), fun _ => st_cmp G o' l r (notSet_in hn _), fun q => (by cases q), fun _ _ _ q => by cases q⟩
    · cases h
  · split at h
    · rename_i hn
      obtain ⟨o', h1, h2⟩ := Option.bind_eq_some_iff.mp h
      obtain ⟨p', h3, h4⟩ := Option.bind_eq_some_iff.mp h2
      obtain ⟨ta, h5, h6⟩ := Option.bind_eq_some_iff.mp h4
      obtain ⟨tb', h7, h8⟩ := Option.bind_eq_some_iff.mp h6
      obtain ⟨tc, h9, rfl⟩ := Option.map_eq_some_iff.mp h8
      obtain rfl := cmpOf_ok h1
      obtain rfl := cmpOf_ok h3
      have l := (hf _ _ h5).pe
      have m := (hf _ _ h7).pe
      have r := (hf _ _ h9).pe
      exact ⟨s_cmp2 G o' p' l m r (notSet_in hn _), fun _ => st_cmp2 G o' p' l m r (notSet_in hn _), fun q => (by cases q), fun _ _ _ q => by cases q⟩
    · cases h
  · cases h
/-- what holds while it runs -/
structure Gh (X : Cx) (C : Ct) (ei a : Nat) (cl : Str → Option Bool) : Prop extends Gd0 X C where
  hfn : ∀ x, X.fn x = true
  isx : ∀ (x c : Str) (b : Bool) (p1 p2 p3 pos : Pos), cl c = some b → X.N[ei]? = some x → Vis X.env.scope x → plainName x = true → Gl X "isinstance" → Gl X c → plainName c = true → PE X (.Call (.Name "isinstance" p1) [.Name x p2, .Name c p3] [] pos) (C.rd (.isx ei a b))
section
variable {X : Cx} {C : Ct} {ei a : Nat} {cl : Str → Option Bool} {refu : Nat → R D}
theorem cMtH_ok (G : Gd0 X C) {f : Expr → Option E} (hf : Rc X C f) {o e : Expr} {m : Str} {ap cp : Pos} {t : E} (h : cMtH f o m ap e cp = some t) : Res X C (.Call (.Attribute o m ap) [e] [] cp) t := by
  unfold cMtH at h
  split at h
  · rename_i hc
    rw [Bool.and_eq_true, Bool.and_eq_true] at hc
    obtain ⟨to, h1, h2⟩ := Option.bind_eq_some_iff.mp h
    obtain ⟨te, h3, h4⟩ := Option.bind_eq_some_iff.mp h2
    split at h4
    · rename_i em
      subst em; cases h4
      exact .plain (s_mtL G PySem.F.slot_list_count PySem.F.type_list_count (mt_count' G.hu) (fun _ _ => rfl) mCount_ne (fun x hx => by cases x <;> first | exact ⟨_, rfl⟩ | cases hx) (hf _ _ h1).pe (hf _ _ h3).pe (noStar_of hc.1) hc.2.1 hc.2.2) rfl rfl
    · split at h4
      · rename_i em
        subst em; cases h4
        exact .plain (s_mtL G PySem.F.slot_list_index PySem.F.type_list_index (mt_index' G.hu) (fun _ _ => rfl) mIndex_ne (fun x hx => by cases x <;> first | exact ⟨_, rfl⟩ | cases hx) (hf _ _ h1).pe (hf _ _ h3).pe (noStar_of hc.1) hc.2.1 hc.2.2) rfl rfl
      · cases h4
  · cases h
theorem compH_ok (G : Gh X C ei a cl) : ∀ (n : Nat) (e : Expr) (t : E), compH X.N X.env.scope ei a cl n e = some t → Res X C e t
  | 0, _, _, h => by cases h
  | n + 1, e, t, h => by
    have hf : Rc X C (compH X.N X.env.scope ei a cl n) := fun e t h => compH_ok G n e t h
    unfold compH at h
    split at h
    · split at h
      · rename_i hc
        rw [Bool.and_eq_true] at hc
        obtain ⟨i, hi, rfl⟩ := Option.map_eq_some_iff.mp h
        exact .plain (s_var (posOf_at hi) (locB_vis hc.2) hc.1) rfl rfl
      · cases h
    · obtain ⟨d, h1, rfl⟩ := Option.map_eq_some_iff.mp h
      exact .plain (s_lit (litOf_ok h1)) rfl rfl
    · obtain ⟨ts, h1, rfl⟩ := Option.map_eq_some_iff.mp h
      exact .plain (s_tup (compL_ok hf h1).1) rfl rfl
    · obtain ⟨ts, h1, rfl⟩ := Option.map_eq_some_iff.mp h
      exact .new (s_lst (compL_ok hf h1).1) rfl lst_new
    · obtain ⟨o', h1, h2⟩ := Option.bind_eq_some_iff.mp h
      obtain ⟨ta, h3, h4⟩ := Option.bind_eq_some_iff.mp h2
      obtain ⟨tb', h5, rfl⟩ := Option.map_eq_some_iff.mp h4
      obtain rfl := binOf_ok h1
      exact .plain (s_bin G.toGd0 o' (hf _ _ h3).pe (hf _ _ h5).pe) rfl rfl
    · exact cUn_ok hf h
    · exact cBool_ok hf h
    · exact cCmp_ok0 G.toGd0 hf h
    · unfold cIsx at h
      split at h
      · rename_i hc
        simp only [Bool.and_eq_true, decide_eq_true_eq] at hc
        obtain ⟨rfl, h1, h2, h3, h4, h5, h6⟩ := hc
        obtain ⟨b, hb, rfl⟩ := Option.map_eq_some_iff.mp h
        exact .plain (G.isx _ _ b _ _ _ _ hb (posOf_at (eq_of_beq h1)) (locB_vis h2) h3 (glB_gl h4) (glB_gl h5) h6) rfl rfl
      · cases h
    · exact cMtH_ok G.toGd0 hf h
    · cases h
theorem compHS_ok (G : Gh X C ei a cl) : ∀ (n : Nat) (st : Stmt) (s : S), compHS X.N X.env.scope ei a cl n st = some s → PS X st (C.rs refu s)
  | 0, _, _, h => by cases h
  | n + 1, st, s, h => by
    have hf : Rc X C (compH X.N X.env.scope ei a cl 30) := fun e t h => compH_ok G 30 e t h
    have hg := compHS_ok G n
    unfold compHS at h
    split at h
    · split at h
      · rename_i hc
        rw [Bool.and_eq_true] at hc
        obtain ⟨i, h1, h2⟩ := Option.bind_eq_some_iff.mp h
        obtain ⟨t, h3, rfl⟩ := Option.map_eq_some_iff.mp h2
        exact s_set G.nd (posOf_at h1) (okIn_loc hc.1) (.inl (G.hfn _)) (hf _ _ h3).pe (notComp_sw hc.2 _ _ _)
      · cases h
    · obtain ⟨t, h1, rfl⟩ := Option.map_eq_some_iff.mp h
      exact s_ret (hf _ _ h1).pe
    · split at h
      · rename_i ht
        obtain ⟨tc, h1, h2⟩ := Option.bind_eq_some_iff.mp h
        obtain ⟨ta, h3, h4⟩ := Option.bind_eq_some_iff.mp h2
        obtain ⟨tb', h5, rfl⟩ := Option.map_eq_some_iff.mp h4
        exact s_ifs ((hf _ _ h1).pt ht) (compSs_ok hg h3) (compSs_ok hg h5)
      · cases h
    · cases h
end
end Ev

/-! The constants of the text's top; the refusing def's promise; all defs together. -/
namespace Ev
open PySem PySem.Spec L2 PyProof.Rows RZ L2H

/-! ### constants -/
mutual
theorem repB_ok {K : PySem.W.Frag} {w : World} : ∀ (d : D) (u : Value), repB K d u = true → ∃ v, RelV v u ∧ ∀ F, Rep K w F d v
  | .non, u, h => by
    cases u <;> first | exact ⟨.non, rfl, fun _ => rfl⟩ | cases h
  | .bl b, u, h => by
    cases u with
    | bool c => exact ⟨.bl b, by rw [eq_of_beq (show (b == c) = true from h)]; rfl, fun _ => rfl⟩
    | _ => cases h
  | .int i, u, h => by
    cases u with
    | int j t => exact ⟨.int i, ⟨t, by rw [of_decide_eq_true (show decide (i = j) = true from h)]⟩, fun _ => rfl⟩
    | _ => cases h
  | .str l, u, h => by
    cases u with
    | str y t =>
      have h' : decide (y = tx l) = true ∧ okc l = true := Bool.and_eq_true_iff.mp h
      exact ⟨.str (tx l), ⟨t, by rw [of_decide_eq_true h'.1]⟩, fun _ => ⟨rfl, h'.2⟩⟩
    | _ => cases h
  | .tup ds, u, h => by
    cases u with
    | ref a =>
      have h0 : (match K.lookup a with
        | some ⟨.type c, none, .seq its _, _⟩ => decide (c = "tuple") && (decide (its.size ≤ sizeLine) && repsB K ds its.toList)
        | _ => false) = true := h
      cases q : K.lookup a with
      | none => rw [q] at h0; cases h0
      | some o =>
        obtain ⟨oc, od, dt, osl⟩ := o
        rw [q] at h0
        cases oc with
        | type c =>
          cases od with
          | some _ => cases dt <;> cases h0
          | none =>
          cases dt with
          | seq its n =>
            have h1 : (decide (c = "tuple") && (decide (its.size ≤ sizeLine) && repsB K ds its.toList)) = true := h0
            rw [Bool.and_eq_true, Bool.and_eq_true] at h1
            obtain ⟨vs, r1, r2⟩ := repsB_ok (w := w) ds its.toList h1.2.2
            have ec := of_decide_eq_true h1.1
            exact ⟨.ref a, rfl, fun F => ⟨a, vs, rfl, .inr ⟨.inr ⟨_, its, n, q, congrArg Value.type ec, rfl, of_decide_eq_true h1.2.1, r1⟩, _, q, congrArg Value.type ec, rfl, its, n, rfl⟩, r2 F⟩⟩
          | _ => cases h0
        | _ => cases od <;> cases dt <;> cases h0
    | _ => cases h
  | .lst _, _, h => by cases h
  | .dic _ _, _, h => by cases h
  | .scr _, _, h => by cases h
  | .gdc _ _, _, h => by cases h
  | .adr _, _, h => by cases h
theorem repsB_ok {K : PySem.W.Frag} {w : World} : ∀ (ds : List D) (us : List Value), repsB K ds us = true → ∃ vs, Vals vs us ∧ ∀ F, Reps K w F ds vs
  | [], us, h => by
    obtain rfl : us = [] := List.isEmpty_iff.mp h
    exact ⟨[], .nil, fun _ => rfl⟩
  | _ :: _, [], h => by cases h
  | d :: ds, u :: us, h => by
    have h' : repB K d u = true ∧ repsB K ds us = true := Bool.and_eq_true_iff.mp h
    obtain ⟨v, r1, r2⟩ := repB_ok (w := w) d u h'.1
    obtain ⟨vs, r3, r4⟩ := repsB_ok (w := w) ds us h'.2
    exact ⟨v :: vs, .cons r1 r3, fun F => ⟨v, vs, rfl, r2 F, r4 F⟩⟩
end
theorem isStr_one {v : Value} {x y : Str} (h : v.isStr x = true) (g : v.isStr y = true) : x = y := by
  cases v with
  | str s t => exact (eq_of_beq (show (s == x) = true from h)).symm.trans (eq_of_beq (show (s == y) = true from g))
  | _ => cases h
theorem onlyG_ok {K : PySem.W.Frag} {a : Addr} {ks : List (List Nat)} (h : onlyG K a ks = true) (l : List Nat) (hl : l ∉ ks) : PySem.W.nsIn K a (tx l) = some none := by
  unfold onlyG at h
  unfold PySem.W.nsIn
  split at h
  · rename_i es _ _ q
    rw [q]
    have hall := List.all_eq_true.mp h
    have h1 : es.toList.find? (fun e => e.key.isStr (tx l)) = none := by
      rw [List.find?_eq_none]
      intro e he hs
      have := hall e he
      rw [Bool.and_eq_true] at this
      obtain ⟨l', hl', hs'⟩ := List.any_eq_true.mp this.1
      have e1 := isStr_one hs hs'
      exact hl (by rw [tx_inj.mp e1]; exact hl')
    have h2 : (es.toList.any fun e => e.refKey) = false := by
      cases hb : es.toList.any fun e => e.refKey with
      | false => rfl
      | true =>
        obtain ⟨e, he, hr⟩ := List.any_eq_true.mp hb
        have := hall e he
        rw [Bool.and_eq_true, hr] at this
        cases this.2
    simp only [h1, h2]
    rfl
  · cases h
theorem valsG_ok {K : PySem.W.Frag} {w : World} {a : Addr} : ∀ {ks : List (List Nat)} {ds : List D}, valsG K a ks ds = true → ∃ vs, ks.length = vs.length ∧ (∀ F, Reps K w F ds vs) ∧ ∀ (i : Nat) (l : List Nat) (x : V), ks[i]? = some l → vs[i]? = some x → ∃ u, PySem.W.nsIn K a (tx l) = some (some u) ∧ RelV x u
  | [], ds, h => by
    obtain rfl : ds = [] := List.isEmpty_iff.mp h
    exact ⟨[], rfl, fun _ => rfl, fun i l x h => by simp at h⟩
  | _ :: _, [], h => by cases h
  | l :: ks, d :: ds, h => by
    have h' : (match PySem.W.nsIn K a (tx l) with
      | some (some u) => repB K d u
      | _ => false) = true ∧ valsG K a ks ds = true := Bool.and_eq_true_iff.mp h
    obtain ⟨vs, h1, h2, h3⟩ := valsG_ok (w := w) h'.2
    cases q : PySem.W.nsIn K a (tx l) with
    | none => rw [q] at h'; cases h'.1
    | some o =>
      cases o with
      | none => rw [q] at h'; cases h'.1
      | some u =>
        rw [q] at h'
        obtain ⟨v, r1, r2⟩ := repB_ok (w := w) d u h'.1
        refine ⟨v :: vs, by rw [List.length_cons, List.length_cons, h1], fun F => ⟨v, vs, rfl, r2 F, h2 F⟩, fun i l' x hl hx => ?_⟩
        cases i with
        | zero => cases hl; cases hx; exact ⟨u, q, r1⟩
        | succ i => exact h3 i l' x hl hx

/-! ### the refusing def -/
/-- as FnH, for one held exception -/
structure FnP (P : Program) (w : World) (K : PySem.W.Frag) (mg : Str → Option Value) (base : Heap) (CX : CXT) (k : Nat) (f : Addr) (fd : FuncData) (ps : List Str) (p : Addr × Obj) (sp : Sp) : Prop where
  len : ∀ vs H Q E, sp vs H Q E → vs.length = ps.length
  run : ∀ (A : Around) (outer : List PySem.Env) (s : Shared) (H : Hp) (args : Args) (us : List Value) (vs : List V) (Q : VK) (E : XK), lowT ≤ s.toks → RoomH k A → Hot1 A p → PinOk outer H s p →
    Env0 P w K mg base A outer s H → BindsTo s fd args (ps.zip us) → Vals vs us → sp vs H Q E → codeAny (model P w) A (.call (.ref f) args) (CR CX outer P w H s Q E) s
theorem fn_ofP {CX : CXT} {P : Program} {w : World} {K : PySem.W.Frag} {mg : Str → Option Value} {base : Heap} {k : Nat} {x qual : Str} {params : Arguments} {body : List Stmt} {scope : Scope} {f : Addr} {fd : FuncData} {N ps : List Str} {sp : Sp} {p : Addr × Obj}
    (F : FunD K x qual params body scope [] [] f fd) (S : FnScope N ps scope) (len : ∀ vs H Q E, sp vs H Q E → vs.length = ps.length)
    (hbody : ∀ (cdv : Value) (A : Around) (outer : List PySem.Env) (s : Shared) (H : Hp) (vs : List V) (Q : VK) (E : XK), Hot1 A p → RoomH k (A.deeper (envOfC qual scope s.heap.objs.size f cdv)) → sp vs H Q E →
      ∃ t, PSs (cxH CX P w K mg base N qual scope f cdv A outer s H E p) body t ∧ t { nx := fun _ H' => Q .non H', rt := Q } (L2.start N vs) H) : FnP P w K mg base CX (k + 1) f fd ps p sp := by
  obtain ⟨oc, od, dV, kV, doc, pm, an, cdv, ct, osl, e0, lk, hcd, _, _⟩ := F.ex
  subst e0
  refine ⟨len, fun A outer s H args us vs Q E low hr hot hpin en hb r hsp => ?_⟩
  have hlen := len _ _ _ _ hsp
  have inK : K.In s.heap := en.mod.kin.keeps fun b o e => (en.bs b o e).1
  have nolim : s.heap.NoLimit := en.mod.nolimit.keeps fun b o e => (en.bs b o e).1
  have kinds : ∀ y ∈ ps.zip us, scope.names.lookup y.1 = some .local ∨
      (scope.names.lookup y.1 = some .cell ∧ ((cellsFrom (s.heap.objs.size + 1) scope.names []).lookup y.1).isSome = true) := by
    rintro ⟨n, v⟩ hy
    rcases S.par n (List.of_mem_zip hy).1 with z | z
    · exact .inl z
    · exact .inr ⟨z, PySem.W.cellsFrom_some _ _ _ (.inl z)⟩
  refine codeAny_call_function hr.depth (inK _ _ lk) rfl S.co S.gen rfl (PySem.W.codeRec_of inK hcd) (hb _ _ _ _ ?_)
  refine wpAny_with_toks low (wpAny_newFunctionEnv_cells S.kind kinds fun env henv s1 ic low1 => ?_)
  subst henv
  refine ⟨nolim.keeps ic.toInCall.keep, codeAny_func ?_⟩
  obtain ⟨t, ht, hq⟩ := hbody cdv A outer s H vs Q E hot (hr.deeper _) hsp
  have J := (inv_startH (CX := CX) (P := P) (w := w) (K := K) (mg := mg) (base := base) (E := E) S hpin en hlen r ic).on low1
  refine wpAny_mono (ht.run [] s1 (L2.start N vs) H _ J hq) (fun fl s' hs => ?_) fun e s' hs => hs
  cases fl with
  | ret u =>
    obtain ⟨v, σ', H', J', rv, q⟩ := hs
    exact ⟨v, H', J'.os, J'.bare, J'.base, J'.hok, rv, q⟩
  | next =>
    obtain ⟨σ', H', J', q⟩ := hs
    exact ⟨V.non, H', J'.os, J'.bare, J'.base, J'.hok, rfl, q⟩
  | brk => obtain ⟨_, _, _, q⟩ := hs; exact False.elim q
  | cont => obtain ⟨_, _, _, q⟩ := hs; exact False.elim q
/-- what it promises of what p holds -/
def spRf (C : Ct) (refu : Nat → R D) (p : Addr × Obj) : Sp := fun vs H Q _ => vs = [.ref p.1] ∧ p.2.dict = none ∧ ∃ c F, p.2.cls = .ref (C.ca c) ∧ Same F H ∧ fin C.K C.w (refu c) F H Q fun _ _ => False
theorem hot_call {X : Cx} {C : Ct} {refu : Nat → R D} {i k : Nat} {a f : Addr} {oe : Obj} {cls : Value} {d : Option Addr} {pn : List (Addr × Obj)} {n rf : Str} {fd : FuncData} {ps : List Str} {q1 q2 q3 : Pos} (F : FnP X.prog X.w X.K X.mg X.base (L2N.CX X.prog X.w) k f fd ps (a, oe) (spRf C refu (a, oe)))
    (hr : Room k X.A) (hN : X.N[i]? = some n) (hv : Vis X.env.scope n) (hp : plainName n = true) (hg : Gl X rf) (hdb : (rf == ("__debug__" : Str)) = false) (hm : X.mg rf = some (.ref f)) (hk : PySem.W.keepIn X.K (.ref f) = true) (hb : Binds X.K fd ps [])
    (hz : L2N.Zn cls d oe) (hf : ∃ vs, oe.data = .fields vs) : PE (X.suite a ((a, oe) :: pn)) (.Call (.Name rf q1) [.Name n q2] [] q3) (C.rf refu i a cls d) := by
  refine ⟨fun pins s σ H Q I h => ?_⟩
  obtain ⟨h1, h2, h3, c, F0, h4, h5, h6⟩ := h
  have ha : PA (X.suite a ((a, oe) :: pn)) [.Name n q2] (tCons (tVar i) tNil) := pa_cons (pe_var (X := X.suite a ((a, oe) :: pn)) hN hv (plain1 hp).1 (plain1 hp).2.1) pa_nil rfl
  refine wpAny_Call_Name_kw (ld_glob (X := X.suite a ((a, oe) :: pn)) I.toInv hg hm ?_ hdb)
  refine PySem.W.callWith_K (h₀ := X.base) I.ok.mod.kin hk (thn (ha.run q3 pins s σ H (fun vs H1 => vs = [.ref a] ∧ H1 = H) I ⟨.ref a, h1, rfl, rfl⟩) fun us s1 ⟨vs, H1, I1, r, e1, e2⟩ => ⟨I1.toInv.kIn, ?_⟩) rfl rfl
  subst e1 e2
  have hl : us.length = ps.length := by rw [← r.length]; exact F.len [.ref a] H1 Q (fun _ _ _ => False) ⟨rfl, by rw [hz.2.1, h2], c, F0, by rw [hz.1, h4], h5, h6⟩
  have b := hb s1 us I1.toInv.kIn (by rw [List.append_nil]; exact hl)
  rw [List.append_nil] at b
  have P1 := I1.pin (a, oe) (List.mem_append_left _ List.mem_cons_self)
  have hpin : PinOk X.stack H1 s1 (a, oe) := ⟨P1.1, P1.2.1, fun hm => (List.mem_cons.mp (I1.toInv.stkSub a hm)).elim P1.2.2.1 P1.2.2.2.1, P1.2.2.2.2⟩
  have hot : Hot1 (X.suite a ((a, oe) :: pn)).A (a, oe) := by
    obtain ⟨vs, hvs⟩ := hf
    exact ⟨rfl, vs, hvs, hz.2.2 vs hvs⟩
  have rm : RoomH k (X.suite a ((a, oe) :: pn)).A := ⟨hr.dp, hr.un⟩
  refine wpAny_call (codeAny_mono (codeAny_toks_of I1.tk (F.run (X.suite a ((a, oe) :: pn)).A X.stack s1 H1 ⟨us, []⟩ us [.ref a] Q (fun _ _ _ => False) I1.tk rm hot hpin I1.toInv.env0 b r ⟨rfl, by rw [hz.2.1, h2], c, F0, by rw [hz.1, h4], h5, h6⟩)) fun r s' ⟨low, hq⟩ => ?_)
  cases r with
  | error e =>
    obtain ⟨_, _, _, _, _, _, _, _, _, _, _, _, z⟩ := hq
    exact z.elim
  | ok fl =>
    cases fl with
    | ret u => exact EP.of low (I1.toInv.after hq)
    | next => exact False.elim hq
    | brk => exact False.elim hq
    | cont => exact False.elim hq
end Ev

/-! begin, end = D[t]; return begin + n.replace(end, end + end) + end: the tokens of what the module's dict holds are told. -/
namespace Ev
open PySem PySem.Spec L2 PyProof.Rows RZ
/-- the tokens of the texts in a dict's tuples: drawn ahead of the law's call -/
def QuoK (K : PySem.W.Frag) (a : Addr) (ks : List (List Nat)) : Prop := ∀ l ∈ ks, ∀ (b : Addr) (o : Obj) (its : Array Value) (n : Nat) (x : Str) (t : Tok), PySem.W.nsIn K a (tx l) = some (some (.ref b)) → K.lookup b = some o → o.data = .seq its n → Value.str x t ∈ its.toList → t ≠ 0 ∧ t < lowT
section
variable {X : Cx} {pins : Pn} {σ : L2.St} {H : Hp} {s : Shared}
/-- slots held by the frame's map m -/
abbrev Held (X : Cx) (σ : L2.St) (h : Heap) (m : Str → Option Value) : Prop := h.Ns X.env.locals m ∧ ∀ (i : Nat) (x : Str) (v : V), X.N[i]? = some x → σ[i]? = some (some v) → Vis X.env.scope x → ∃ u, RelV v u ∧ Look X.env h m x u
theorem store_raw {M : Model} {A : Around} {E : Value → Shared → Prop} {i : Nat} {x : Str} {v : V} {u : Value} {m : Str → Option Value} {Q : Unit → Shared → Prop} (I : L2.Inv X pins σ H s) (hm : Held X σ s.heap m) (hN : X.N.Nodup) (hi : X.N[i]? = some x) (hk : X.env.scope.names.lookup x = some .local) (r : RelV v u)
    (h : ∀ h', L2.Inv X pins (σ.set i (some v)) H { s with heap := h', toks := s.toks + 1 } → Held X (σ.set i (some v)) h' (fun y => if y = x then some u else m y) → Q () { s with heap := h', toks := s.toks + 1 }) : wpAny M A (storeName X.env x u) Q E s := by
  obtain ⟨hn, hl⟩ := hm
  have hcls : (X.env.scope.kind == .class || (X.env.scope.kind == .module && X.env.locals != X.env.globals)) = false := by rw [I.ok.kind]; rfl
  have hiσ : i < σ.length := by rw [I.len]; exact (List.getElem?_eq_some_iff.mp hi).1
  refine wpAny_storeName_local hk hn (fun h' hn' hs => ?_) hcls
  have old : ∀ b o, X.s_0.heap.get? b = some o → b ≠ X.env.locals := fun b o e => Nat.ne_of_lt (Nat.lt_of_lt_of_le (Heap.lt_size e) I.ok.above)
  have held : Held X (σ.set i (some v)) h' (fun y => if y = x then some u else m y) := by
    refine ⟨hn', fun j y w e1 e2 e3 => ?_⟩
    by_cases hj : j = i
    · subst hj
      rw [hi] at e1; cases e1
      rw [List.getElem?_set_self hiσ] at e2; cases e2
      exact ⟨u, r, .inl ⟨hk, by simp⟩⟩
    · rw [List.getElem?_set_ne (Ne.symm hj)] at e2
      obtain ⟨u', r', q⟩ := hl j y w e1 e2 e3
      refine ⟨u', r', ?_⟩
      rcases q with ⟨k, e⟩ | ⟨k, c, e, z⟩
      · have ny : y ≠ x := fun e => hj (nodup_ix hN e1 (e ▸ hi))
        exact .inl ⟨k, by simp [ny, e]⟩
      · exact .inr ⟨k, c, e, z.sameBut hs (I.cne y c e)⟩
  refine h h' ⟨I.ok, I.os, I.bare, ⟨fun b o e n hb hx => (hs.2 b (old b o e)).trans (I.base.keep b o e n hb hx), fun b o e n hb hx => ?_, I.base.free, fun b o e hx => ?_, I.base.tups, I.base.frzs, I.base.tbls⟩, ⟨_, held⟩, fun y c e => ?_, I.free, I.freeC, fun p hp => ?_, fun b ob e => ?_, by simpa using I.len⟩ held
  · obtain ⟨sl, e1⟩ := I.base.slot b o e n hb hx
    exact ⟨sl, (hs.2 b (old b o e)).trans e1⟩
  · obtain ⟨o', e1⟩ := I.base.there b o e hx
    exact ⟨o', (hs.2 b (old b o e)).trans e1⟩
  · obtain ⟨w', z⟩ := I.cell y c e
    exact ⟨w', z.sameBut hs (I.cne y c e)⟩
  · obtain ⟨e, n, ne, nf, d⟩ := I.pin p hp
    exact ⟨(hs.2 p.1 ne).trans e, n, ne, nf, d⟩
  · refine (I.hok b ob e).stay (fun c w' hc q => (hs.2 c ?_).trans q) (fun _ q => q) fun _ _ q => q
    intro z
    subst z
    rcases hc with hc | hc
    · rw [← hc, I.free] at e; cases e
    · rw [I.free] at hc; cases hc
theorem load_raw {M : Model} {A : Around} {E : Value → Shared → Prop} {x : Str} {u : Value} {m : Str → Option Value} {p : Pos} {R : Value → Shared → Prop} (hf : X.env.scope.kind = .function) (hn : s.heap.Ns X.env.locals m) (hk : X.env.scope.names.lookup x = some .local) (hm : m x = some u) (hp : plainName x = true) (h : R u s) : wpAny M A (eval (.Name x p) X.env) R E s :=
  wpAny_Name (wpAny_loadName_local hf hk hn hm h) (plain1 hp).1
/-- what the rule wants of the frame's names and of the dict -/
structure QuoIn (X : Cx) (σ : L2.St) (b e n t g : Str) (ib ie iN iT : Nat) (l : List Nat) (bg : List Nat) (c : Nat) : Prop where
  nd : X.N.Nodup
  hb : X.N[ib]? = some b
  he : X.N[ie]? = some e
  hn : X.N[iN]? = some n
  ht : X.N[iT]? = some t
  lb : X.env.scope.names.lookup b = some .local
  le : X.env.scope.names.lookup e = some .local
  ln : X.env.scope.names.lookup n = some .local
  lt : X.env.scope.names.lookup t = some .local
  pb : plainName b = true
  pe : plainName e = true
  pn : plainName n = true
  pt : plainName t = true
  pg : plainName g = true
  gl : Gl X g
  be : b ≠ e
  nb : n ≠ b
  ne : n ≠ e
  vn : σ[iN]? = some (some (.str (tx l)))
  len : l.length ≤ 1000
  lbg : bg.length ≤ 10
  dict : ∃ (a : Addr) (es : Array DictEntry) (k : Nat) (lt : List Nat) (q : Addr) (t1 t2 : Tok) (o : Obj) (j : Nat), X.mg g = some (.ref a) ∧ KDict X.K X.w a es k ∧ σ[iT]? = some (some (.str (tx lt))) ∧ PySem.W.nsIn X.K a (tx lt) = some (some (.ref q)) ∧
    X.K.lookup q = some o ∧ o.cls = .type "tuple" ∧ o.data = .seq #[.str (tx bg) t1, .str (tx [c]) t2] j ∧ t2 ≠ 0 ∧ t2 < lowT
theorem dbl_len (c : Nat) : ∀ l : List Nat, (repl1 c [c, c] l).length ≤ 2 * l.length
  | [] => Nat.le_refl _
  | d :: l => by
    have := dbl_len c l
    show ((if d = c then [c, c] else [d]) ++ repl1 c [c, c] l).length ≤ _
    rw [List.length_append, List.length_cons]
    split <;> simp <;> omega
theorem quote_run {b e n t g : Str} {ib ie iN iT : Nat} {l bg : List Nat} {c : Nat} {p1 p2 p3 p4 p5 p6 p7 p8 p9 pa pb pc pd pe pf ap cp ps pr : Pos} {k1 : Nat} {D : Ends} (Z : QuoIn X σ b e n t g ib ie iN iT l bg c) (hc : X.calm = true) (hline : (ap.endLine == cp.line) = true) (I : Inv X pins σ H s)
    (q : D.rt (.str (tx (bg ++ repl1 c [c, c] l ++ [c]))) H) :
    wx X (execs [.Assign [.Tuple [.Name b p1, .Name e p2] k1 p3] (.Subscript (.Name g p4) (.Name t p5) p6) ps,
      .Return (some (.BinOp (.BinOp (.Name b p7) .Add (.Call (.Attribute (.Name n p8) "replace" ap) [.Name e p9, .BinOp (.Name e pa) .Add (.Name e pb) pc] [] cp) pd) .Add (.Name e pe) pf)) pr] X.env) (SP X pins D) s := by
  obtain ⟨ad, es, kk, lt, qd, t1, t2, o, j, hmg, kd, hst, hns, hlk, hcl, hdt, hz2, hlo⟩ := Z.dict
  have fk := I.ok.kind
  have low := I.tk
  -- D[t]
  have sub : wx X (eval (.Subscript (.Name g p4) (.Name t p5) p6) X.env) (fun v z => v = .ref qd ∧ L2.Inv X pins σ H z ∧ lowT ≤ z.toks) s := by
    refine Subscript_ (ld_glob I.toInv Z.gl hmg ((pe_var Z.ht (.inl Z.lt) (plain1 Z.pt).1 (plain1 Z.pt).2.1).on I (Q := fun x G => x = .str (tx lt) ∧ G = H) ⟨_, hst, rfl, rfl⟩ fun x u z G J r ⟨e1, e2⟩ => ?_) (plain1 Z.pg).1)
    subst e1 e2
    obtain ⟨tt, rfl⟩ := r
    have hm := PySem.W.mapOf_K (prog := X.prog) (w := X.w) J.toInv.kIn kd.at_ kd.lit
    exact up0 J.tk (tail_any (Q := fun v z => v = .ref qd ∧ L2.Inv X pins σ G z) hm.typeIs slot_dict_getitem.lookup (wpAny_getItem_of (strKind_is X.prog X.w (tx lt) tt) hm (PySem.W.find_K kd.at_ hns) ⟨rfl, J.toInv.tok _⟩) rfl) fun v z k w => ⟨w.1, w.2, k⟩
  -- begin, end = ..
  have one : wx X (exec (.Assign [.Tuple [.Name b p1, .Name e p2] k1 p3] (.Subscript (.Name g p4) (.Name t p5) p6) ps) X.env) (fun f z => f = .next ∧ lowT ≤ z.toks ∧ ∃ σ' m, L2.Inv X pins σ' H z ∧ z.heap.Ns X.env.locals m ∧ m b = some (.str (tx bg) t1) ∧ m e = some (.str (tx [c]) t2) ∧ ∃ tn, m n = some (.str (tx l) tn)) s := by
    refine wpAny_Assign_stores (thn sub fun v z ⟨e1, J, lz⟩ => ?_) rfl rfl
    subst e1
    have htup : IsTup z.heap qd #[.str (tx bg) t1, .str (tx [c]) t2] := ⟨o, J.kIn _ _ hlk, hcl, j, hdt⟩
    refine assign_Tuple_tuple (x1 := k1) (J.ok.hd hc) htup rfl rfl fun h' hx => ?_
    have J1 : L2.Inv X pins σ H { z with heap := h' } := J.kept (t' := z.toks) fun d ob ed => hx d ob (Nat.ne_of_lt (Heap.lt_size ed)) ed
    obtain ⟨m0, hm0⟩ := id J1.loc
    refine assignInOrder_cons (wpAny_assign_Name (store_raw (v := .str (tx bg)) J1 hm0 Z.nd Z.hb Z.lb ⟨t1, rfl⟩ fun h2 J2 hm2 => ?_))
    refine assignInOrder_cons (wpAny_assign_Name (store_raw (v := .str (tx [c])) J2 hm2 Z.nd Z.he Z.le ⟨t2, rfl⟩ fun h3 J3 hm3 => assignInOrder_nil ?_))
    refine ⟨rfl, Nat.le_trans lz (Nat.le_add_right _ 2), _, _, J3, hm3.1, by simp [Z.be], by simp, ?_⟩
    obtain ⟨u, ru, lu⟩ := hm0.2 iN n _ Z.hn Z.vn (.inl Z.ln)
    obtain ⟨tn, rfl⟩ := ru
    refine ⟨tn, ?_⟩
    rcases lu with ⟨_, hu⟩ | ⟨hu, _⟩
    · simp [Z.nb, Z.ne, hu]
    · exfalso
      rcases hu with hu | hu
      · have : X.env.scope.names.lookup n = some .cell := hu
        rw [Z.ln] at this; cases this
      · have : X.env.scope.names.lookup n = some .free := hu
        rw [Z.ln] at this; cases this
  refine wpAny_execs_cons (thn one fun f z w => ?_)
  obtain ⟨rfl, lz, σ', m, J, hn, mb, me, tn, mn⟩ := w
  have low1 : 1 ≤ lowT := by decide
  -- the sum
  have sum1 : ∀ {R : Value → Shared → Prop}, (∀ tk z', lowT ≤ z'.toks → L2.Inv X pins σ' H z' → z'.heap.Ns X.env.locals m → R (.str (tx (repl1 c [c, c] l)) tk) z') →
      wx X (eval (.Call (.Attribute (.Name n p8) "replace" ap) [.Name e p9, .BinOp (.Name e pa) .Add (.Name e pb) pc] [] cp) X.env) R z := fun {R} hR => by
    refine PySem.Call_method2 rfl rfl hline (load_raw fk hn Z.ln mn Z.pn ?_)
    refine ⟨"str", _, F.plainAttrs_str, F.slot_str_replace, F.type_str_replace, typeIs_str _ _ _, (fun _ e => nomatch e), Calls.callWith_builtin rfl (Calls.evalArgs_plain (Calls.spliced_cons (load_raw fk hn Z.le me Z.pe ?_)))⟩
    refine Calls.spliced_cons (wpAny_BinOp (load_raw fk hn Z.le me Z.pe (load_raw fk hn Z.le me Z.pe (P.add_str ?_))))
    have l1 : (tx [c]).length = 1 := tx_len _
    rw [if_neg (by rw [l1]; decide), if_neg (by rw [l1]; decide)]
    refine ⟨by rw [tx_app, tx_len]; show 2 ≤ sizeLine; decide, Calls.spliced_nil ?_⟩
    rw [tx_app]
    have hl : (tx l).length ≤ 1000 := by rw [tx_len]; exact Z.len
    have hrep : Txt.replace (tx l) (tx [c]) (tx ([c] ++ [c])) = tx (repl1 c [c, c] l) := replace_one (y := tx [c]) (z := tx [c, c]) rfl l
    refine up0 (s := { z with toks := z.toks + 1 }) (Q := fun v z' => (∃ tk, v = .str (tx (repl1 c [c, c] l)) tk) ∧ L2.Inv X pins σ' H z' ∧ z'.heap = z.heap) (by show lowT ≤ z.toks + 1; omega) (PySem.SC.replace hz2 (by show z.toks ≠ 0; omega) (fun h => absurd (h ▸ hlo : z.toks < lowT) (Nat.not_lt.mpr lz)) ?_ ?_ fun t' k => ?_) fun v z' k ⟨⟨tk, e1⟩, K, eh⟩ => ?_
    · rw [beq_eq_false_iff_ne]
      intro h
      have := tx_inj.mp h
      simp at this
    · have l2 : (tx ([c] ++ [c])).length = 2 := tx_len _
      rw [l2]
      omega
    · rw [hrep]
      exact ⟨⟨t', rfl⟩, J.tok k, rfl⟩
    · subst e1
      exact hR tk z' k K (by rw [eh]; exact hn)
  refine wpAny_execs_cons (wpAny_Return_some (wpAny_BinOp (wpAny_BinOp (load_raw fk hn Z.lb mb Z.pb (sum1 fun tk z1 lz1 K1 hn1 => ?_)))))
  have hb1 : (tx bg).length + (tx (repl1 c [c, c] l)).length ≤ sizeLine := by
    have h1 := dbl_len c l
    have h2 := Z.len
    have h3 := Z.lbg
    rw [tx_len, tx_len, sizeLine_eq]
    omega
  refine up0 lz1 (add_str (Q := fun v z2 => (∃ tk, v = .str (tx bg ++ tx (repl1 c [c, c] l)) tk) ∧ L2.Inv X pins σ' H z2 ∧ z2.heap = z1.heap) (fun t' k => ⟨⟨t', rfl⟩, K1.tok k, rfl⟩) hb1) fun v z2 lz2 ⟨⟨tk2, e2⟩, K2, eh2⟩ => ?_
  subst e2
  refine load_raw fk (by rw [eh2]; exact hn1) Z.le me Z.pe ?_
  refine up0 lz2 (add_str (Q := fun v z3 => (∃ tk, v = .str (tx bg ++ tx (repl1 c [c, c] l) ++ tx [c]) tk) ∧ L2.Inv X pins σ' H z3) (fun t' k => ⟨⟨t', rfl⟩, K2.tok k⟩) ?_) fun v z3 lz3 ⟨⟨tk3, e3⟩, K3⟩ => ?_
  · have h1 := dbl_len c l
    have h2 := Z.len
    have h3 := Z.lbg
    rw [tx_app, tx_len, tx_len, List.length_append, sizeLine_eq]
    show _ + 1 ≤ _
    omega
  · subst e3
    rw [tx_app, tx_app]
    exact (show SP X pins D (.ret _) z3 from ⟨.str _, σ', H, K3.on lz3, ⟨tk3, rfl⟩, q⟩)
end
end Ev

/-! The quoted name: from the two statements to S. -/
namespace Ev
open PySem PySem.Spec L2 PyProof.Rows RZ
def locL (sc : Scope) (x : Str) : Bool := decide (sc.names.lookup x = some .local) && plainName x
def cQuote (tb : Tb) (gd : Nat → Bool) (N : List Str) (sc : Scope) : Stmt → Stmt → Option E
  | .Assign [.Tuple [.Name b _, .Name e _] _ _] (.Subscript (.Name g _) (.Name t _) _) _,
    .Return (some (.BinOp (.BinOp (.Name b1 _) .Add (.Call (.Attribute (.Name n _) m ap) [.Name e1 _, .BinOp (.Name e2 _) .Add (.Name e3 _) _] [] cp) _) .Add (.Name e4 _) _)) _ =>
    if decide (b1 = b ∧ e1 = e ∧ e2 = e ∧ e3 = e ∧ e4 = e ∧ m = "replace") then
      if decide (b ≠ e ∧ n ≠ b ∧ n ≠ e) && ((ap.endLine == cp.line) && (locL sc b && (locL sc e && (locL sc n && (locL sc t && (glB sc g && plainName g)))))) then
        (posOf b N).bind fun _ => (posOf e N).bind fun _ => (posOf n N).bind fun ni => (posOf t N).bind fun ti => (posOf g tb.gs).bind fun gi =>
          if gd gi then some (.bi2 .quote (.idx (.glo gi) (.var ti)) (.var ni)) else none
      else none
    else none
  | _, _ => none
def compB (tb : Tb) (gd : Nat → Bool) (N : List Str) (sc : Scope) (g : Stmt → Option S) : List Stmt → Option (List S)
  | [] => some []
  | [s] => (g s).map fun t => [t]
  | s :: s2 :: r => match (match r with
      | [] => cQuote tb gd N sc s s2
      | _ => none) with
    | some e => some [.ret e]
    | none => (g s).bind fun t => (compB tb gd N sc g (s2 :: r)).map (t :: ·)
/-- what is wanted of the dicts of the top -/
def Quo (tb : Tb) (gd : Nat → Bool) (X : Cx) (C : Ct) : Prop := ∀ g x, tb.gs[g]? = some x → gd g = true → ∃ ks ds, C.glob g = .ok (.gdc ks ds) ∧ ∀ a, X.mg x = some (.ref a) → QuoK X.K a ks
theorem dQuote_ne (d e : D) (k : Nat) : dQuote d e ≠ .ex k := by
  unfold dQuote
  split <;> first | (intro h; cases h; done) | (split <;> (intro h; cases h))
theorem look_ne (env : Env) (i k : Nat) : look env i ≠ .ex k := by
  unfold look
  split
  · rename_i s _
    cases s <;> (intro h; cases h)
  · intro h; cases h
theorem rbnd_ne {A B : Type} {x : R A} {f : A → R B} (hx : ∀ k, x ≠ .ex k) (hf : ∀ a k, f a ≠ .ex k) (k : Nat) : R.bind x f ≠ .ex k := by
  cases x with
  | ok a => exact hf a k
  | ex c => exact absurd rfl (hx c)
  | no => intro h; cases h
theorem dQuote_eq {d e x : D} (h : dQuote d e = .ok x) : ∃ b c l, d = .tup [.str b, .str [c]] ∧ e = .str l ∧ l.length ≤ 1000 ∧ b.length ≤ 10 ∧ x = .str (b ++ repl1 c [c, c] l ++ [c]) := by
  unfold dQuote at h
  split at h
  · split at h
    · rename_i hc
      cases h
      rw [Bool.and_eq_true, decide_eq_true_eq, decide_eq_true_eq] at hc
      exact ⟨_, _, _, rfl, rfl, hc.1, hc.2, rfl⟩
    · cases h
  · cases h
theorem idx_gdc {ks : List (List Nat)} {ds : List D} {y x : D} (h : idx (.gdc ks ds) y = .ok x) : ∃ (l : List Nat) (i : Nat), y = .str l ∧ ks[i]? = some l ∧ ds[i]? = some x := by
  cases y <;> first | (cases h; done) | skip
  rename_i l
  have h' : (match (txAt l ks).bind (ds[·]?) with
    | some v => R.ok v
    | none => .no) = .ok x := h
  split at h'
  · rename_i v hv
    cases h'
    obtain ⟨i, h1, h2⟩ := Option.bind_eq_some_iff.mp hv
    exact ⟨l, i, rfl, txAt_some h1, h2⟩
  · cases h'
theorem exs_ret {glob : Nat → R D} {fn : Nat → List D → R D} {refu : Nat → R D} {e : E} {env : Env} {o : R D} {x : Out} (h : ev glob fn e (open_ env) = o) (hx : (match o.out .rt with
    | .nx _ => Out.no
    | .rt d => .rt d
    | .ex c => .ex c
    | .no => .no) = x) : exSs glob fn refu [.ret e] env = x := by
  subst hx
  unfold exSs exS
  rw [h]
  cases o <;> rfl
section
variable {tb : Tb} {X : Cx} {C : Ct} {refu : Nat → R D} {gd : Nat → Bool}
theorem locL_ok {sc : Scope} {x : Str} (h : locL sc x = true) : sc.names.lookup x = some .local ∧ plainName x = true := by
  unfold locL at h
  rw [Bool.and_eq_true, decide_eq_true_eq] at h
  exact h
theorem quote_ok (G : Gs tb X C refu) (hq : Quo tb gd X C) {s1 s2 : Stmt} {e : E} (h : cQuote tb gd X.N X.env.scope s1 s2 = some e) : PSs X [s1, s2] (C.rss refu [.ret e]) := by
  unfold cQuote at h
  split at h
  · rename_i b p1 ee p2 k1 p3 g p4 t p5 p6 ps b1 p7 n p8 m ap e1 p9 e2 pa e3 pb pc cp pd e4 pe pf pr
    split at h
    · rename_i hc
      rw [decide_eq_true_eq] at hc
      obtain ⟨rfl, rfl, rfl, rfl, rfl, rfl⟩ := hc
      split at h
      · rename_i hc2
        simp only [Bool.and_eq_true, decide_eq_true_eq] at hc2
        obtain ⟨⟨be, nb, ne⟩, hl, lb, le, ln, lt, gl, pg⟩ := hc2
        obtain ⟨ib, q1, h⟩ := Option.bind_eq_some_iff.mp h
        obtain ⟨ie, q2, h⟩ := Option.bind_eq_some_iff.mp h
        obtain ⟨ni, q3, h⟩ := Option.bind_eq_some_iff.mp h
        obtain ⟨ti, q4, h⟩ := Option.bind_eq_some_iff.mp h
        obtain ⟨gi, q5, h⟩ := Option.bind_eq_some_iff.mp h
        split at h
        · rename_i hgd
          cases h
          obtain ⟨ks, ds, hglob, hqk⟩ := hq gi g (posOf_at q5) hgd
          obtain ⟨u, v0, hm, rv, rep⟩ := G.glo gi g _ (posOf_at q5) hglob
          refine ⟨fun pins s σ H E' I h => ?_⟩
          obtain ⟨F0, H0, F, env, st, q⟩ := h
          have q' : Cont C F0 H0 E' (((R.bind (R.bind (C.glob gi) fun x => R.bind (look (open_ env) ti) fun y => idx x y) fun x => R.bind (look (open_ env) ni) fun y => dQuote x y)).out .rt) := by
            cases hz : (R.bind (R.bind (C.glob gi) fun x => R.bind (look (open_ env) ti) fun y => idx x y) fun x => R.bind (look (open_ env) ni) fun y => dQuote x y) with
            | no =>
              have : exSs C.glob C.fn refu [.ret (.bi2 .quote (.idx (.glo gi) (.var ti)) (.var ni))] env = .no := by
                exact exs_ret (o := .no) hz rfl
              rw [this] at q; exact q
            | ex k => exact absurd hz (rbnd_ne (rbnd_ne (G.gno gi) fun a => rbnd_ne (look_ne _ _) fun b => idx_ne _ _) (fun a => rbnd_ne (look_ne _ _) fun b => dQuote_ne _ _) k)
            | ok d =>
              have : exSs C.glob C.fn refu [.ret (.bi2 .quote (.idx (.glo gi) (.var ti)) (.var ni))] env = .rt d := by
                exact exs_ret (o := .ok d) hz rfl
              rw [this] at q; exact q
          rw [open_eq] at q'
          obtain ⟨Fu, z⟩ := st.seen fun _ => true
          obtain ⟨d, ed, qd⟩ := out_ok (rbnd_ne (rbnd_ne (G.gno gi) fun a => rbnd_ne (look_ne _ _) fun b => idx_ne _ _) (fun a => rbnd_ne (look_ne _ _) fun b => dQuote_ne _ _)) q'
          obtain ⟨x, ex, ed⟩ := R.bind_eq_ok ed
          obtain ⟨dl, el, ed⟩ := R.bind_eq_ok ed
          obtain ⟨dg, eg, ex⟩ := R.bind_eq_ok ex
          obtain ⟨dt, et, ex⟩ := R.bind_eq_ok ex
          rw [hglob] at eg
          cases eg
          obtain ⟨bg, c, l, rfl, rfl, hlen, hbg, rfl⟩ := dQuote_eq ed
          obtain ⟨tl, i, rfl, hk, hd⟩ := idx_gdc ex
          obtain ⟨vn, sn, rfl, okn⟩ := z.envr.2 ni _ el
          obtain ⟨vt, sT, rfl, okt⟩ := z.envr.2 ti _ et
          obtain ⟨a, es, kn, vs, rfl, kd, reps, hlk, hno, hat⟩ := rep fun _ => none
          obtain rfl : u = .ref a := rv
          obtain ⟨vd, hvd, rd⟩ := reps.get hd
          obtain ⟨qa, vs2, rfl, sx, rs⟩ := rd
          obtain ⟨uu, hns, ru⟩ := hat i tl _ hk hvd
          obtain rfl : uu = .ref qa := ru
          obtain ⟨w1, r1, rfl, ⟨rfl, ok1⟩, w2, r2, rfl, ⟨rfl, ok2⟩, rfl⟩ := rs
          rcases sx with ⟨o, hh, _⟩ | ⟨sq, _⟩
          · cases hh
          rcases sq with (hh | ⟨o, hh⟩) | ⟨o, its, nn, lk, cl, dt, sz, vals⟩
          · cases hh
          · cases hh
          obtain ⟨il, hil⟩ : ∃ il, il = its.toList := ⟨_, rfl⟩
          rw [← hil] at vals
          cases vals with
          | cons v1 vr =>
            cases vr with
            | cons v2 vr2 =>
              cases vr2
              obtain ⟨t1, rfl⟩ := v1
              obtain ⟨t2, rfl⟩ := v2
              have hits : its = #[Value.str (tx bg) t1, Value.str (tx [c]) t2] := by
                apply Array.toList_inj.mp
                rw [← hil]
              subst hits
              have ht2 := hqk a hm tl (List.mem_of_getElem? hk) qa o _ nn (tx [c]) t2 (by rw [G.hK]; exact hns) (by rw [G.hK]; exact lk) dt (by simp)
              refine quote_run (ib := ib) (ie := ie) (iN := ni) (iT := ti) (l := l) (bg := bg) (c := c) ⟨G.nd, posOf_at q1, posOf_at q2, posOf_at q3, posOf_at q4, (locL_ok lb).1, (locL_ok le).1, (locL_ok ln).1, (locL_ok lt).1, (locL_ok lb).2, (locL_ok le).2, (locL_ok ln).2, (locL_ok lt).2, pg, glB_gl gl, be, nb, ne, sn, hlen, hbg, ⟨a, es, kn, tl, qa, t1, t2, o, nn, hm, by rw [G.hK, G.hw]; exact kd, sT, by rw [G.hK]; exact hns, by rw [G.hK]; exact lk, cl, dt, ht2.1, ht2.2⟩⟩ G.calm hl I ?_
              exact qd (.str (tx (bg ++ repl1 c [c, c] l ++ [c]))) _ _ (st.keep z (Ext.refl z.inH)).ext ⟨rfl, okc_app (okc_app ok1 (okc_repl (z := [c, c]) (okc_app (a := [c]) ok2 ok2) okn)) ok2⟩
        · cases h
      · cases h
    · cases h
  · cases h
theorem compB_ok {g : Stmt → Option S} (G : Gs tb X C refu) (hq : Quo tb gd X C) (hg : ∀ st s, g st = some s → PS X st (C.rs refu s)) : ∀ {sts : List Stmt} {ss : List S}, compB tb gd X.N X.env.scope g sts = some ss → PSs X sts (C.rss refu ss)
  | [], ss, h => by cases h; exact s_nil'
  | [st], ss, h => by
    obtain ⟨t, h1, rfl⟩ := Option.map_eq_some_iff.mp (show (g st).map _ = some ss from h)
    exact s_cons' (hg _ _ h1) s_nil'
  | st :: s2 :: r, ss, h => by
    unfold compB at h
    split at h
    · rename_i e he
      cases h
      split at he
      · exact quote_ok G hq he
      · cases he
    · obtain ⟨t, h1, h2⟩ := Option.bind_eq_some_iff.mp h
      obtain ⟨r', h3, rfl⟩ := Option.map_eq_some_iff.mp h2
      exact s_cons' (hg _ _ h1) (compB_ok G hq hg h3)
end
end Ev

/-! All defs of a text together. -/
namespace Ev
open PySem PySem.Spec L2 PyProof.Rows RZ L2H

def Lw.tb (L : Lw) : Tb := ⟨L.gs.map (·.1), L.dfs.map fun d => (d.g, d.ps.length), L.cs⟩
def refd : List Nat := [114, 101, 102, 117, 115, 101, 100]
def Lw.gd (L : Lw) (g : Nat) : Bool := match L.gs[g]? with
  | some (_, .gdc _ _) => true
  | _ => false
def Lw.body (L : Lw) (d : Df) : Option (List S) := compB L.tb L.gd d.N (defScope d.st) (compS L.tb d.N (defScope d.st) d.ow 40) (defBody d.st)
def Lw.glob (L : Lw) (g : Nat) : R D := match L.gs[g]? with
  | some p => .ok p.2
  | none => .no
def Lw.refu (L : Lw) (c : Nat) : R D := if L.hr = true ∧ c < L.cs.length then .ok (.tup [.str refd, .int c]) else .no
def Lw.fd (L : Lw) (f : Nat) : Option Fd := (L.dfs[f]?).bind fun d => (L.body d).map fun b => ⟨d.ps.length, d.N.length, b⟩
def Lw.pr (L : Lw) : Pr := ⟨L.glob, L.fd, L.refu⟩
/-- isinstance of a held exception of the class c -/
def Lw.cl (L : Lw) (c : Nat) (x : Str) : Option Bool := if x = "ValueError" then some true else (posOf x L.cs).map fun j => decide (j = c)

theorem excCB_ok {K : PySem.W.Frag} {A : Addr} (h : excCB K A = true) : ExcC K A := by
  unfold excCB at h
  simp only [Bool.and_eq_true, decide_eq_true_eq] at h
  obtain ⟨h1, h2, h3, h4, h5, h6, h7, h8⟩ := h
  exact ⟨He.eqO_ok h1, He.eqO_ok h2, h3, h4, He.eqO_ok h5, He.eqO_ok h6, h7, h8⟩
/-- what the head gives -/
structure Lw.At (L : Lw) (w : World) (K : PySem.W.Frag) (mg : Str → Option Value) : Prop where
  ok : L.okK K = true
  mgf : ∀ x v, PySem.W.nsIn K mainGlobals x = some (some v) → mg x = some v
  mgn : ∀ x, PySem.W.nsIn K mainGlobals x = some none → mg x = none
  dict : ∀ p ∈ L.gs, ∀ ks ds, p.2 = .gdc ks ds → ∃ es n, KDict K w (He.ga K p.1) es n
  fun_ : ∀ d, d ∈ L.dfs ∨ (L.hr = true ∧ d = L.rfd) → ∃ fd, FunD K d.x d.x (defArgs d.st) (defBody d.st) (defScope d.st) [] [] (He.ga K d.g) fd
/-- what the text itself shows -/
structure Lw.Ok (L : Lw) : Prop where
  sc : ∀ d ∈ L.dfs, C8.scC d.N d.ps (defScope d.st) = true
  scR : L.hr = true → C8.scC L.rfd.N L.rfd.ps (defScope L.rfd.st) = true
  lenR : L.hr = true → L.rfd.ps.length = 1
  lenN : L.hr = true → L.rfd.N.length = 2
  rx : L.hr = true → L.rfd.g = "_law_refused"
  nd : L.cs.Nodup
  binds : ∀ d, d ∈ L.dfs ∨ (L.hr = true ∧ d = L.rfd) → ∀ (kV doc pm : Value) (an : Option Addr) (cdv ct : Value) (us : List Value), us.length = d.ps.length →
    bindArgs (PySem.W.fnOf d.x d.x (defArgs d.st) (defBody d.st) (defScope d.st) .none kV doc pm an cdv ct) ⟨us, []⟩ = pure (d.ps.zip us)
  hR : L.hr = true → ∀ a c, c < L.cs.length → ∃ ss, compSs (compHS L.rfd.N (defScope L.rfd.st) 0 a (L.cl c) 10) (defBody L.rfd.st) = some ss ∧ exSs (fun _ => .no) (fun _ _ => .no) (fun _ => .no) ss [.sh (.adr a), .no] = .rt (.tup [.str refd, .int c])

def Lw.ct (L : Lw) (K : PySem.W.Frag) (w : World) (m : Nat) (W : WX) : Ct := ⟨K, w, L.glob, callF L.pr m, fun c => He.ga K (L.cs.getD c Str.empty), W⟩
section
variable {L : Lw} {P : Program} {w : World} {K : PySem.W.Frag} {mg : Str → Option Value} {base : Heap}
theorem getD_at {l : List Str} {c : Nat} {x : Str} (h : l[c]? = some x) : l.getD c Str.empty = x := by
  rw [List.getD_eq_getElem?_getD, h]; rfl
theorem Lw.At.parts (T : L.At w K mg) : (∀ d ∈ L.dfs, gloB K d.g = true) ∧ (L.hr = true → gloB K L.rfd.g = true) ∧ (∀ b ∈ bnames, freeB K b = true) ∧ freeB K "ValueError" = true ∧ (∀ x ∈ L.cs, clsB K L.cs x = true) ∧ gloB K "AskError" = true ∧ ∀ p ∈ L.gs, conG K p.1 p.2 = true := by
  have h := T.ok
  unfold Lw.okK at h
  simp only [Bool.and_eq_true, List.all_eq_true] at h
  exact ⟨h.1, fun z => by have := h.2.1; rw [z] at this; exact this, h.2.2.1, h.2.2.2.1, h.2.2.2.2.1, h.2.2.2.2.2.1, h.2.2.2.2.2.2⟩
theorem Lw.At.glo (T : L.At w K mg) {x : Str} (h : gloB K x = true) : mg x = some (.ref (He.ga K x)) := T.mgf _ _ (He.eqO_ok h)
theorem Lw.At.free (T : L.At w K mg) {x : Str} (h : freeB K x = true) : mg x = none := T.mgn _ (He.eqO_ok h)
theorem Lw.At.con (T : L.At w K mg) {p : Str × D} (hp : p ∈ L.gs) : ∃ u v, mg p.1 = some u ∧ RelV v u ∧ ∀ F, Rep K w F p.2 v := by
  obtain ⟨x, d⟩ := p
  have h := T.parts.2.2.2.2.2.2 _ hp
  have plain : (match PySem.W.nsIn K mainGlobals x with
    | some (some u) => repB K d u
    | _ => false) = true → ∃ u v, mg x = some u ∧ RelV v u ∧ ∀ F, Rep K w F d v := fun h => by
    split at h
    · rename_i u hu
      obtain ⟨v, r1, r2⟩ := repB_ok (w := w) d u h
      exact ⟨u, v, T.mgf _ _ hu, r1, r2⟩
    · cases h
  cases d with
  | gdc ks ds =>
    have h' : (gloB K x && (valsG K (He.ga K x) ks ds && (onlyG K (He.ga K x) ks && quoB K (He.ga K x) ks))) = true := h
    rw [Bool.and_eq_true, Bool.and_eq_true, Bool.and_eq_true] at h'
    obtain ⟨es, n, hd⟩ := T.dict _ hp ks ds rfl
    obtain ⟨vs, v1, v2, v3⟩ := valsG_ok (w := w) h'.2.1
    exact ⟨_, .ref (He.ga K x), T.glo h'.1, rfl, fun F => ⟨_, es, n, vs, rfl, hd, v2 F, v1, onlyG_ok h'.2.2.1, v3⟩⟩
  | _ => exact plain h
theorem quoB_ok {K : PySem.W.Frag} {a : Addr} {ks : List (List Nat)} (h : quoB K a ks = true) : QuoK K a ks := fun l hl b o its n x t hn hk hd hm => by
  have h1 := List.all_eq_true.mp h l hl
  rw [hn] at h1
  obtain ⟨oc, od, dt, os⟩ := o
  have hd' : dt = .seq its n := hd
  subst hd'
  simp only [hk] at h1
  have h2 : tokOk (.str x t) = true := List.all_eq_true.mp h1 _ hm
  have h3 : (decide (t ≠ 0) && decide (t < lowT)) = true := h2
  rw [Bool.and_eq_true, decide_eq_true_eq, decide_eq_true_eq] at h3
  exact h3
theorem Lw.At.quo (T : L.At w K mg) {p : Str × D} (hp : p ∈ L.gs) {ks : List (List Nat)} {ds : List D} (e : p.2 = .gdc ks ds) {a : Addr} (ha : mg p.1 = some (.ref a)) : QuoK K a ks := by
  obtain ⟨x, d⟩ := p
  have e' : d = .gdc ks ds := e
  subst e'
  have h := T.parts.2.2.2.2.2.2 _ hp
  have h' : (gloB K x && (valsG K (He.ga K x) ks ds && (onlyG K (He.ga K x) ks && quoB K (He.ga K x) ks))) = true := h
  rw [Bool.and_eq_true, Bool.and_eq_true, Bool.and_eq_true] at h'
  have e2 := T.glo h'.1
  rw [show mg x = _ from ha] at e2
  cases e2
  exact quoB_ok h'.2.2.2
/-- the refusing def keeps its promise -/
theorem Lw.refs (hR : L.hr = true) (O : L.Ok) (T : L.At w K mg) {m : Nat} {W : WX} {k : Nat} {fd : FuncData} (F : FunD K L.rfd.x L.rfd.x (defArgs L.rfd.st) (defBody L.rfd.st) (defScope L.rfd.st) [] [] (He.ga K L.rfd.g) fd) (p : Addr × Obj) (hfl : ∃ vs, p.2.data = .fields vs) :
    FnP P w K mg base (L2N.CX P w) (k + 1) (He.ga K L.rfd.g) fd L.rfd.ps p (spRf (L.ct K w m W) L.refu p) := by
  have S := C8.fnScope_by (O.scR hR)
  refine fn_ofP F S (fun vs H Q E ⟨h, _⟩ => by rw [h, O.lenR hR]; rfl) fun cdv A outer s H vs Q E hot hr h => ?_
  obtain ⟨h1, h2, c, F0, h3, h4, h5⟩ := h
  have hc : c < L.cs.length := by
    cases Nat.lt_or_ge c L.cs.length with
    | inl h => exact h
    | inr h =>
      exfalso
      unfold Lw.refu at h5
      rw [if_neg (fun z => absurd z.2 (by omega))] at h5
      exact h5
  obtain ⟨ss, e1, e2⟩ := O.hR hR p.1 c hc
  have hx : L.cs[c]? = some L.cs[c] := List.getElem?_eq_getElem hc
  have hm : L.cs[c] ∈ L.cs := List.getElem_mem hc
  have hcls := T.parts.2.2.2.2.1 _ hm
  unfold clsB at hcls
  simp only [Bool.and_eq_true, List.all_eq_true, decide_eq_true_eq] at hcls
  obtain ⟨k1, k2, k3, k4, k5, k6⟩ := hcls
  have hga : (L.ct K w m W).ca c = He.ga K L.cs[c] := by
    show He.ga K (L.cs.getD c Str.empty) = _
    rw [getD_at hx]
  rw [hga] at h3
  let C : Ct := { L.ct K w m W with glob := fun _ => .no, fn := fun _ _ => .no, W := fun _ _ _ _ => False }
  have G : Gh (cxH (L2N.CX P w) P w K mg base L.rfd.N L.rfd.x (defScope L.rfd.st) (He.ga K L.rfd.g) cdv A outer s H E p) C 0 p.1 (L.cl c) := by
    refine ⟨⟨rfl, rfl, S.nd, by have := hr.un; show (A.deeper (envOfC L.rfd.x (defScope L.rfd.st) s.heap.objs.size (He.ga K L.rfd.g) cdv)).units + 65 < cLine; omega⟩, fun _ => rfl, fun x y b p1 p2 p3 pos hb hN hv hp hg hgy hpy => ?_⟩
    have fin : ∀ (cV : V) (cv : Value), PE (cxH (L2N.CX P w) P w K mg base L.rfd.N L.rfd.x (defScope L.rfd.st) (He.ga K L.rfd.g) cdv A outer s H E p) (.Name y p3) (tC cV) → (∀ u, RelV cV u → u = cv) → PySem.W.kitOne K (.ref (He.ga K L.cs[c])) cv = some b →
        PE (cxH (L2N.CX P w) P w K mg base L.rfd.N L.rfd.x (defScope L.rfd.st) (He.ga K L.rfd.g) cdv A outer s H E p) (.Call (.Name "isinstance" p1) [.Name x p2, .Name y p3] [] pos) (C.rd (.isx 0 p.1 b)) := fun cV cv hc1 hc2 hc3 =>
      s_isx (oe := p.2) (List.mem_singleton.mpr rfl) (excCB_ok k3) ⟨h3, h2⟩ hfl hN hv hp hg (T.free (T.parts.2.2.1 _ (by decide +kernel))) hc1 hc2 hc3
    unfold Lw.cl at hb
    split at hb
    · rename_i ey
      cases hb
      subst ey
      exact fin (.ty "ValueError") (.type "ValueError") (pe_bltn hgy (T.free T.parts.2.2.2.1) (by decide +kernel) rfl (by decide) (by decide)) (fun u r => r) k6
    · obtain ⟨j, hj, rfl⟩ := Option.map_eq_some_iff.mp hb
      have hyj := posOf_at hj
      have hjl : j < L.cs.length := (List.getElem?_eq_some_iff.mp hyj).1
      have hym : y ∈ L.cs := List.mem_of_getElem? hyj
      have hgy2 := T.parts.2.2.2.2.1 _ hym
      unfold clsB at hgy2
      rw [Bool.and_eq_true] at hgy2
      refine fin (.ref (He.ga K y)) (.ref (He.ga K y)) (pe_glob hgy (T.glo hgy2.1) rfl (plain1 hpy).1) (fun u r => r) ?_
      rw [k5 y hym]
      congr 1
      have e3 : L.cs[j] = y := by
        rw [List.getElem?_eq_getElem hjl] at hyj
        exact Option.some.inj hyj
      rw [← e3]
      by_cases ejc : j = c
      · subst ejc; simp
      · have : ¬ L.cs[j] = L.cs[c] := fun z => ejc ((List.getElem_inj O.nd).mp z)
        rw [decide_eq_false this, decide_eq_false ejc]
  refine ⟨C.rss (fun _ => .no) ss, compSs_ok (fun st s h => compHS_ok G 10 st s h) e1, F0, H, F0, [.sh (.adr p.1), .no], ?_, ?_⟩
  · subst h1
    refine ⟨?_, Ext.refl h4, fun i d hi => ?_, fun i d hi => ?_, fun i j d e a hi => ?_⟩
    · show (L2.start L.rfd.N [V.ref p.1]).length = 2
      unfold L2.start
      rw [List.length_append, List.length_map, List.length_replicate, O.lenN hR]; rfl
    · match i, hi with
      | 0, hi =>
        cases hi
        exact ⟨.ref p.1, rfl, rfl⟩
      | 1, hi => cases hi
    · match i, hi with
      | 0, hi => cases hi
      | 1, hi => cases hi
    · match i, hi with
      | 0, hi => cases hi
      | 1, hi => cases hi
  · show Cont C F0 H _ (exSs (fun _ => .no) (fun _ _ => .no) (fun _ => .no) ss [.sh (.adr p.1), .no])
    rw [e2]
    have e5 : L.refu c = .ok (.tup [.str refd, .int c]) := if_pos ⟨hR, hc⟩
    rw [e5] at h5
    exact fun v F' H' x r => h5 v F' H' x r
/-- each def keeps what the evaluator says, m calls deep -/
theorem Lw.fns (O : L.Ok) (T : L.At w K mg) : ∀ (m f : Nat) (d : Df), L.dfs[f]? = some d → ∃ fd, FnOk P w K mg base (L2N.CX P w) (m + 1) (He.ga K d.g) fd d.ps ((L.ct K w m fun _ _ _ _ => False).sp f d.ps.length) ∧ PySem.W.keepIn K (.ref (He.ga K d.g)) = true ∧ Binds K fd d.ps [] ∧ FunD K d.x d.x (defArgs d.st) (defBody d.st) (defScope d.st) [] [] (He.ga K d.g) fd := by
  intro m
  induction m with
  | zero =>
    intro f d hd
    obtain ⟨fd, F⟩ := T.fun_ d (.inl (List.mem_of_getElem? hd))
    refine ⟨fd, ⟨fun vs H Q E h => h.1, fun A outer s H args us vs Q E _ _ _ _ _ h => ?_⟩, F.kp, F.bindsN (O.binds d (.inl (List.mem_of_getElem? hd))), F⟩
    obtain ⟨_, F0, ds, _, _, q⟩ := h
    exact False.elim q
  | succ m ih =>
    intro f d hd
    have hmem := List.mem_of_getElem? hd
    obtain ⟨fd, F⟩ := T.fun_ d (.inl hmem)
    have S := C8.fnScope_by (O.sc d hmem)
    refine ⟨fd, fn_own F S (fun vs H Q E h => h.1) fun cdv A outer s H vs Q E hr h => ?_, F.kp, F.bindsN (O.binds d (.inl hmem)), F⟩
    obtain ⟨hlen, F0, ds, hs, hrep, q⟩ := h
    have hlds : ds.length = vs.length := hrep.length
    let C : Ct := L.ct K w m fun cls dd _ H' => E cls dd H'
    have q1 : fin K w (match L.fd f with
      | some fd => if ds.length = fd.ps then ended (exSs L.glob (callF L.pr m) L.refu fd.body (start fd ds)) else .no
      | none => .no) F0 H Q fun c H' => E (.ref (C.ca c)) none H' := q
    have efd : L.fd f = (L.body d).map fun b => ⟨d.ps.length, d.N.length, b⟩ := by
      unfold Lw.fd; rw [hd]; rfl
    rw [efd] at q1
    cases eb : L.body d with
    | none => rw [eb] at q1; exact False.elim q1
    | some b =>
      rw [eb] at q1
      have q2 : fin K w (if ds.length = d.ps.length then ended (exSs L.glob (callF L.pr m) L.refu b (start ⟨d.ps.length, d.N.length, b⟩ ds)) else .no) F0 H Q fun c H' => E (.ref (C.ca c)) none H' := q1
      rw [if_pos (by rw [hlds, hlen])] at q2
      have T' := T.parts
      have G : Gs L.tb (cxOf (L2N.CX P w) P w K mg base d.N d.x (defScope d.st) (He.ga K d.g) cdv A outer s H E) C L.refu := by
        refine { hK := rfl, hw := rfl, nd := S.nd, hu := by have := hr.un; show (A.deeper (envOfC d.x (defScope d.st) s.heap.objs.size (He.ga K d.g) cdv)).units + 65 < cLine; omega, calm := rfl, takes := L2N.takes_of rfl rfl rfl rfl, blt := fun b hb => T.free (T'.2.2.1 b hb), glo := ?_, gno := ?_, fns := ?_, hp := passes_of rfl, hk := S.kind, hst := rfl, hfr := rfl, hfn := fun _ => rfl, exc := ?_, ask := ?_, hot := ?_, rne := ?_ }
        · intro g x dd hg hgl
          have hg' : (L.gs.map (·.1))[g]? = some x := hg
          rw [List.getElem?_map] at hg'
          obtain ⟨p, hp, rfl⟩ := Option.map_eq_some_iff.mp hg'
          have hgl' : L.glob g = .ok dd := hgl
          unfold Lw.glob at hgl'
          rw [hp] at hgl'
          cases hgl'
          exact T.con (List.mem_of_getElem? hp)
        · intro g c
          show L.glob g ≠ _
          unfold Lw.glob
          split <;> (intro z; cases z)
        · intro f' x n hf'
          have hf2 : (L.dfs.map fun d => (d.g, d.ps.length))[f']? = some (x, n) := hf'
          rw [List.getElem?_map] at hf2
          obtain ⟨d', hd', e'⟩ := Option.map_eq_some_iff.mp hf2
          cases e'
          obtain ⟨fd', i1, i2, i3, _⟩ := ih f' d' hd'
          exact ⟨_, fd', d'.ps, m + 1, i1, hr, T.glo (T'.1 d' (List.mem_of_getElem? hd')), i2, i3⟩
        · intro c x hc
          have hc' : L.cs[c]? = some x := hc
          have hcls := T'.2.2.2.2.1 x (List.mem_of_getElem? hc')
          unfold clsB at hcls
          simp only [Bool.and_eq_true] at hcls
          obtain ⟨k1, k2, k3, k4, k5, k6⟩ := hcls
          obtain ⟨j1, j2, j3, j4⟩ := He.exc_ok k2
          have hga : C.ca c = He.ga K x := by
            show He.ga K (L.cs.getD c Str.empty) = _
            rw [getD_at hc']
          rw [hga]
          exact ⟨T.glo k1, j1, j2, raises_own j3 j4⟩
        · refine ⟨_, T.glo T'.2.2.2.2.2.1, fun c dd hc => ?_⟩
          have hlt : c < L.cs.length := by
            cases Nat.lt_or_ge c L.cs.length with
            | inl h => exact h
            | inr h => unfold Lw.refu at hc; rw [if_neg (fun z => absurd z.2 (by omega))] at hc; cases hc
          have hcls := T'.2.2.2.2.1 _ (List.getElem_mem hlt)
          unfold clsB at hcls
          simp only [Bool.and_eq_true] at hcls
          have hga : C.ca c = He.ga K L.cs[c] := by
            show He.ga K (L.cs.getD c Str.empty) = _
            rw [getD_at (List.getElem?_eq_getElem hlt)]
          rw [hga]
          exact He.exm_ok hcls.2.2.2.1
        · intro i n q1 q2 q3 hN hv hp hg a oe cls dd pn hz hfl
          cases hR : L.hr with
          | false =>
            refine ⟨fun pins s σ H Q I h => ?_⟩
            obtain ⟨_, _, _, c, F, _, _, q⟩ := h
            have e : L.refu c = .no := by unfold Lw.refu; rw [if_neg (fun z => by rw [hR] at z; cases z.1)]
            rw [show (L.refu c) = .no from e] at q
            exact False.elim q
          | true =>
            obtain ⟨fdR, FR⟩ := T.fun_ L.rfd (.inr ⟨hR, rfl⟩)
            have rx := O.rx hR
            have hF := Lw.refs (P := P) (base := base) hR O T (m := m) (W := fun cls dd _ H' => E cls dd H') (k := m) FR (a, oe) hfl
            exact hot_call hF hr hN hv hp hg (by decide) (by rw [← rx]; exact T.glo (T'.2.1 hR)) FR.kp (FR.bindsN (O.binds L.rfd (.inr ⟨hR, rfl⟩))) hz hfl
        · intro c k
          show L.refu c ≠ _
          unfold Lw.refu
          split <;> (intro z; cases z)
      have hquo : Quo L.tb L.gd (cxOf (L2N.CX P w) P w K mg base d.N d.x (defScope d.st) (He.ga K d.g) cdv A outer s H E) C := fun g x hx hg => by
        have hx' : (L.gs.map (·.1))[g]? = some x := hx
        rw [List.getElem?_map] at hx'
        obtain ⟨⟨px, pd⟩, hp, rfl⟩ := Option.map_eq_some_iff.mp hx'
        unfold Lw.gd at hg
        rw [hp] at hg
        cases pd <;> first | (cases hg; done) | skip
        rename_i ks ds
        refine ⟨ks, ds, ?_, fun a ha => T.quo (List.mem_of_getElem? hp) rfl ha⟩
        show L.glob g = _
        unfold Lw.glob
        rw [hp]
      refine ⟨C.rss L.refu b, compB_ok G hquo (fun st s h => compS_ok G 40 st s h) eb, F0, H, F0, start ⟨d.ps.length, d.N.length, b⟩ ds, ?_, ?_⟩
      · have lenN : d.ps.length ≤ d.N.length := by have := congrArg List.length S.pre; rw [List.length_take] at this; omega
        have at1 : ∀ (i : Nat) (x : Sl), (start ⟨d.ps.length, d.N.length, b⟩ ds)[i]? = some x → x = .no ∨ ∃ y, ds[i]? = some y ∧ x = .sh y := fun i x hx => by
          unfold start at hx
          by_cases hi : i < ds.length
          · rw [List.getElem?_append_left (by simpa using hi), List.getElem?_map] at hx
            obtain ⟨y, h1, rfl⟩ := Option.map_eq_some_iff.mp hx
            exact .inr ⟨y, h1, rfl⟩
          · rw [List.getElem?_append_right (by simpa using hi), List.getElem?_replicate] at hx
            split at hx
            · cases hx; exact .inl rfl
            · cases hx
        refine ⟨?_, Ext.refl hs, fun i x hx => ?_, fun i x hx => ?_, fun i j x y a hx => ?_⟩
        · show (L2.start d.N vs).length = (start _ ds).length
          unfold L2.start start
          simp only [List.length_append, List.length_map, List.length_replicate]
          omega
        · rcases at1 i _ hx with z | ⟨y, h1, h2⟩
          · cases z
          · cases h2
            obtain ⟨v, g1, g2⟩ := hrep.get h1
            refine ⟨v, ?_, g2⟩
            have hi : i < vs.length := (List.getElem?_eq_some_iff.mp g1).1
            show (L2.start d.N vs)[i]? = _
            unfold L2.start
            rw [List.getElem?_append_left (by simpa using hi), List.getElem?_map, g1]; rfl
        · rcases at1 i _ hx with z | ⟨y, h1, h2⟩
          · cases z
          · cases h2
        · rcases at1 i _ hx with z | ⟨y, h1, h2⟩
          · cases z
          · cases h2
      · have q3 : fin K w (ended (exSs C.glob C.fn L.refu b (start ⟨d.ps.length, d.N.length, b⟩ ds))) F0 H Q fun c H' => E (.ref (C.ca c)) none H' := q2
        cases eo : exSs C.glob C.fn L.refu b (start ⟨d.ps.length, d.N.length, b⟩ ds) with
        | nx env => rw [eo] at q3; exact fun F' σ H' st => q3 .non F' H' st.ext rfl
        | rt dd => rw [eo] at q3; exact fun v F' H' x r => q3 v F' H' x r
        | ex c => rw [eo] at q3; exact fun σ H' s => q3 H' s
        | no => rw [eo] at q3; exact q3
end
end Ev

/-! From the head to the law's call, with the tokens drawn. -/
noncomputable section
namespace Ev
open PySem PySem.W PySem.Calls PyProof.Rows
/-- the law's call, of a state that has drawn so many tokens -/
def CallT (q : Program) (loose : List PySem.Str) (XP : (PySem.Str → Option Value) → Heap → Prop) (YP : World → Heap → Prop) (r : RowW) (d : DefRec) (kwd : List (PySem.Str × Expr)) : Prop :=
  ∀ (w : World) (z₀ z₁ : Shared) (mg mb : PySem.Str → Option Value), Ground q loose r.records XP w z₀ mg mb z₁.heap → YP w z₁.heap → lowT ≤ z₁.toks →
    ∀ (fa : Addr) (o : Obj) (pm cd doc dV kV : Value), z₁.heap.get? fa = some o → o.data = .func { docDef d.name d.params d.body d.scope pm cd doc with defaults := dV, kwdefaults := kV } → z₁.heap.CodeRec cd d.name →
      Dflts mg z₁.heap d.params kwd dV kV → mg d.name = some (.ref fa) → z₁.gens = #[] →
    ∀ (args : List WData) (vals : List Value) (as : List Addr), r.claim.pre args = true → WData.layableAll args = true → ReadsAllW r.records (classAt z₀.heap) z₁.heap vals args as → WellAll w.params z₁.heap vals args → (∀ a ∈ as, (a == sysModules) = false) →
      wpAny (model r.prog w) callerA (PySem.call (.ref fa) vals) (fun v z => GoodWG r.claim (classAt z₀.heap) (ExcName.means z₀.heap) args z₁ (.ok (.ret v)) z) (fun e z => GoodWG r.claim (classAt z₀.heap) (ExcName.means z₀.heap) args z₁ (.error e) z) z₁
theorem holds_tok {r : OpenRow} {q : Program} {loose : List PySem.Str} {Xt : Shared → Bool} {XP : (PySem.Str → Option Value) → Heap → Prop} {α : Type} {Yf : Shared → α} {Ya : World → α} {YP : World → Heap → Prop} {d : DefRec} {kwd : List (PySem.Str × Expr)} {N : Nat}
    (left : LeftO r.prog q loose Xt Yf Ya N) (hY : ∀ w s, Yf s = Ya w → YP w s.heap ∧ lowT ≤ s.toks) (hYk : ∀ w h h', YP w h → (∀ b o, h.get? b = some o → h'.get? b = some o) → YP w h')
    (hX : ∀ s, Xt s = true → XP (s.heap.nsMap mainGlobals) s.heap) (hXk : ∀ mg h h', XP mg h → (∀ b o, h.get? b = some o → h'.get? b = some o) → XP mg h')
    (hdef : defOf q r.name = some (d, kwd)) (hp : r.prog.theDef r.name = some (d.params, d.body, d.scope)) (hk : kwWritten? d.params.kwonlyargs d.params.kw_defaults = some kwd) (hRf : ∀ s, Xt s = true → RecFacts r.records s.heap) (hwr : (!r.writes || r.records.isEmpty) = true)
    (k1 : r.wellSaid = true) (ok : (chainsOk q && opensWell r.prog && (frees r.toRowW && r.within.isEmpty)) = true) (hb : r.prog.bare) (hw : r.toRowW.promised) (go : CallT q loose XP YP r.toRowW d kwd) : r.Holds := by
  obtain ⟨ok, k5⟩ := Bool.and_eq_true_iff.mp ok
  obtain ⟨hch, o1⟩ := Bool.and_eq_true_iff.mp ok
  obtain ⟨k5, k6⟩ := Bool.and_eq_true_iff.mp k5
  obtain ⟨hsame, hu, ha, hap, hm⟩ := frees_parts k5
  refine ⟨k1, hw, ⟨⟨hb, o1, by show r.makers.map _ = []; rw [hm]; rfl⟩, hw.witness, fun w => ⟨(left.behind hX hch w).1, fun z' hz' => ?_⟩⟩⟩
  obtain ⟨z₀, hf, hg0, s, hT, hz, hgens, hg, GG, y⟩ := (left.behind (XP := fun mg h => XP mg h ∧ RecFacts r.records h) (fun s hs => ⟨hX s hs, hRf s hs⟩) hch w).2 z' hz'
  have G0 : Ground q loose [] XP w s (s.heap.nsMap mainGlobals) (s.heap.nsMap builtinsNs) s.heap := ⟨GG.T, GG.B, GG.D, GG.TE, GG.TD, GG.W, GG.X.1, GG.cls, GG.has, GG.apart, GG.once, GG.K⟩
  have RF := GG.X.2
  have hT' := hT
  refine ⟨z₀, hf, hg0, s, hT, fun n hn => ?_, RF.1, RF.2.1, ?_⟩
  · obtain rfl : n = r.name := by split at hn <;> simp_all
    exact pinned_of_view hg G0 hdef hp hk
  have hgens : s.gens = #[] := Array.eq_empty_of_size_eq_zero (beq_iff_eq.mp hgens)
  have G : Ground q loose r.records XP w s _ _ s.heap := RF.ground G0
  refine ClaimW.callFrom_of_specG (c := r.claim) hz hgens fun args hpre hlay ord hord => ?_
  obtain ⟨⟨vs, s₁⟩, hlaid⟩ := Option.isSome_iff_exists.mp (layAllW_isSome (P := w.params) (ord := ord) G.has args r.args s (pre_splitW hpre).1)
  have keeps := layAllW_keeps _ _ _ hlaid
  have grow := layAllW_grows _ _ _ hlaid
  obtain ⟨as, hrd, hin, hold⟩ := reads_layAllW hord _ _ _ hlaid hlay s₁.heap (fun _ _ e => e)
  have L : Laid r.records w s s₁ args vs as := ⟨⟨ord, hord, hlaid⟩, hrd, hin, hold, keeps, grow.alike.1.trans hgens, grow.alike.2.2.1⟩
  have G₁ := G.keeps hXk keeps
  obtain ⟨yp, low⟩ := hY w s y
  obtain ⟨a, o, pm, cd, doc, dV, kV, h1, h2, h3, h4, h5⟩ := G₁.fn hdef
  have h := go w s s₁ _ _ G₁ (hYk _ _ _ yp keeps) (Nat.le_trans low grow.toks) a o pm cd doc dV kV h2 h3 h4 h5 (defOf_name hdef ▸ h1) L.gens args vs as hpre hlay L.reads L.well (L.low G.low)
  have hi := ident_freeW hu ha hap
  have hwi : r.claim.within = [] := List.isEmpty_iff.mp k6
  refine ⟨vs, s₁, hlaid, wpAny_bind (wpAny_nsGet G₁.T.g ?_)⟩
  rw [h1]
  exact wpAny_bind (wpAny_mono h (fun v z g => wpAny_pure ⟨_, rfl, have x := g.laid (c := r.claim) hsame hwi hi L; ⟨x.1, x.2.1, x.2.2, fun q => ⟨namesKept_of hT' hg _ keeps g.2.1.old, noTable hwr q⟩⟩⟩)
    fun e z g => have x := g.laid (c := r.claim) hsame hwi hi L; ⟨x.1, x.2.1, x.2.2, fun q => ⟨namesKept_of hT' hg _ keeps g.2.1.old, noTable hwr q⟩⟩)
theorem head_tok {r : OpenRow} {q : Program} {H : Hook} {ob : SharedT → (HookT H).α} {M : Nat} {loose : List PySem.Str} {d : DefRec} {kwd : List (PySem.Str × Expr)} (ho : ∀ s : SharedT, ob s = (HookT H).obs s.abs)
    (e : opening r.prog = plainProg r.prog.main.scope.names) (f : ∀ s, fenceModules? r.prog s = some s) (run : ∀ w, HandSHeadRun.RunEq r q (HookT H) ob M loose w)
    (hdef : defOf q r.name = some (d, kwd)) (hp : r.prog.theDef r.name = some (d.params, d.body, d.scope)) (hk : kwWritten? d.params.kwonlyargs d.params.kw_defaults = some kwd)
    (hwr : (!r.writes || r.records.isEmpty) = true) (k1 : r.wellSaid = true) (ok : (chainsOk q && opensWell r.prog && (frees r.toRowW && r.within.isEmpty)) = true) (hb : r.prog.bare) (hw : r.toRowW.promised) (go : CallT q loose (XL q []) H.says r.toRowW d kwd) : r.Holds := by
  have left : LeftO r.prog q loose (fun s => xlAt q [] s && recOk r.toRowW.records s) (HookT H).obs (HookT H).val (M + 600) true := by
    refine HandSHeadRun.left_one (M := M) e (Nat.ble_eq_true_of_le (by omega)) f (Nat.ble_eq_true_of_le (by omega)) fun w os => ?_
    have z := run w os
    rw [show ob = fun s => (HookT H).obs s.abs from funext ho] at z
    simp only [HandSHeadRun.endQ_eq, HandSHeadRun.seenQ_eq]
    exact z
  exact holds_tok left (fun w s y => ⟨(HookT H).of w s y, Nat.le_of_ble_eq_true (congrArg Prod.snd y)⟩) H.keeps (fun s z => xl_of s (Bool.and_eq_true_iff.mp z).1) XL.keeps hdef hp hk (fun s z => recFacts_of (Bool.and_eq_true_iff.mp z).2) hwr k1 ok hb hw go
end Ev
namespace Ev
open PySem PySem.Spec L2 PyProof.Rows
/-- the call of the law, from its promise -/
theorem law_own {P : Program} {w : World} {K : PySem.W.Frag} {mg mb : Str → Option Value} {CX : CXT} {k : Nat} {fa a : Addr} {fd : FuncData} {x : Str} {sp : Sp} {z : Shared} {vs : List Value} {ns : List Int} (low : lowT ≤ z.toks)
    (KX : K.In z.heap) (hns : z.heap.Ns mainGlobals mg) (hb : z.heap.Ns builtinsNs mb) (hbb : ∀ x : Str, x ≠ "__name__" → mb x = bootBuiltins x) (hlim : z.heap.NoLimit) (hg : z.gens = #[])
    (ha : z.heap.get? a = some { cls := .type "list", data := .seq vs.toArray }) (hi : IntsAre vs ns) (hl : ns.length ≤ sizeLine) (hr : Room k callerA)
    (F : ∀ base : Heap, K.In base → base.Ns mainGlobals mg → FnOk P w K mg base CX k fa fd [x] sp) (hbind : ∀ (s : Shared) (u : Value), BindsTo s fd ⟨[u], []⟩ [(x, u)])
    (hsp : ∀ H : Hp, Only H → SqL K H a (ns.map V.int) → sp [.ref a] H (fun v _ => v = .bl true) fun _ _ _ => False) (hCX : ∀ H e s', CX [] H z (fun _ _ _ => False) e s' → False) :
    codeAny (model P w) callerA (.call (.ref fa) ⟨[.ref a], []⟩) (fun r s' => r = .ok (.ret (.bool true)) ∧ OldK z.heap s'.heap ∧ s'.os = z.os ∧ AllBare s'.gens) z := by
  have rv := vals_ints hi
  have lenV := hi.length
  have main : ∀ H : Hp, Only H → SqL K H a (ns.map V.int) → HOk P w H z.heap → (∀ b, H b ≠ none → b = a) → (H a ≠ none → K.lookup a = none) →
      codeAny (model P w) callerA (.call (.ref fa) ⟨[.ref a], []⟩) (fun r s' => r = .ok (.ret (.bool true)) ∧ OldK z.heap s'.heap ∧ s'.os = z.os ∧ AllBare s'.gens) z := by
    intro H hO hS hok hA hK
    have only : ∀ {b : Addr} {o : HO}, H b = some o → b = a := fun {b o} e => hA b (by rw [e]; simp)
    have free : ∀ {b : Addr} {o : Obj} {es : Array DictEntry} {ep : Nat}, z.heap.get? b = some o → o.data = .dict es ep → H b = none := fun {b o es ep} e d => by
      cases q : H b with
      | none => rfl
      | some u =>
        have e' := only q
        subst e'
        rw [ha] at e; cases e
        cases (show Data.seq vs.toArray _ = Data.dict es ep from d)
    have nsB : ∀ {b : Addr} {m : Str → Option Value}, z.heap.Ns b m → (hidT z.heap H).Ns b m := fun {b m} ⟨o, es, ep, e, d, r⟩ => ⟨o, es, ep, hidT_get e (free e d), d, r⟩
    have kin : K.In (hidT z.heap H) := fun b o e => hidT_get (KX b o e) (by
      cases q : H b with
      | none => rfl
      | some u =>
        have e' := only q
        subst e'
        rw [hK (by rw [q]; simp)] at e; cases e)
    have hM : Mod K mg (hidT z.heap H) := ⟨kin, nsB hns, ⟨mb, nsB hb, hbb⟩, let ⟨mc, h1, h2⟩ := hlim; ⟨mc, nsB h1, h2⟩⟩
    have en : Env0 P w K mg (hidT z.heap H) callerA [] z H := ⟨rfl, hM, fun b o e => of_hidT e, Nat.le_of_eq (hidT_size _ _), trivial, fun b hb => absurd (show b ∈ ([] : List Addr) from hb) (by simp), hok, .of_eq hg⟩
    refine codeAny_mono ((F _ kin (nsB hns)).run callerA [] z H ⟨[.ref a], []⟩ [.ref a] [.ref a] _ _ low hr en (hbind z (.ref a)) (.cons rfl .nil) (hsp H hO hS)) fun r s' h => ?_
    match r, h with
    | .error e, h => exact (hCX H e s' h).elim
    | .ok (.ret u), h =>
      obtain ⟨v, G, os, bare, un, hok', r', q⟩ := h
      obtain rfl : v = .bl true := q
      obtain rfl : u = Value.bool true := r'
      refine ⟨rfl, OldK.of_keep fun b o e => ?_, os, bare⟩
      cases q : H b with
      | none => exact un.keep b o e q (fun y => absurd (show b ∈ ([] : List Addr) from y) (by simp)) (by simp)
      | some u =>
        rcases hO b with y | ⟨ob, xs, y⟩
        · rw [q] at y; cases y
        · obtain ⟨e1, _⟩ := hok b _ y
          obtain ⟨e2, _⟩ := hok' b _ (un.frzs b ob _ y)
          rw [e] at e1; cases e1
          exact e2
  cases hk : K.lookup a with
  | some o =>
    have e := KX a o hk
    rw [ha] at e
    cases e
    exact main (fun _ => none) (fun _ => .inl rfl) (.inr ⟨_, vs.toArray, _, hk, rfl, rfl, rfl, by rw [List.size_toArray, lenV]; exact hl, by simpa using rv⟩) (fun b u y => by cases (show (none : Option HO) = some u from y)) (fun b y => absurd rfl y) fun y => absurd rfl y
  | none =>
    refine main (fun b => if b = a then some (.frz { cls := .type "list", data := .seq vs.toArray } (.lst (ns.map V.int))) else none) (fun b => ?_) (.inl (.inr ⟨{ cls := .type "list", data := .seq vs.toArray }, if_pos rfl⟩)) (fun b u y => ?_) (fun b y => ?_) fun _ => hk
    · by_cases hb : b = a
      · exact .inr ⟨_, _, if_pos hb⟩
      · exact .inl (if_neg hb)
    · by_cases hb : b = a
      · have y' := (if_pos hb).symm.trans y
        cases y'
        subst hb
        exact ⟨ha, by rw [List.length_map]; exact hl, vs, _, rv, ha⟩
      · have y' := (if_neg hb).symm.trans y
        cases y'
    · by_cases hb : b = a
      · exact hb
      · exact absurd (if_neg hb) y
theorem walk_tok {l : PySem.W.OpenLaw} {n k : Nat} {q : Program} {loose : List Str} {XP : (Str → Option Value) → Heap → Prop} {YP : World → Heap → Prop} {d : DefRec} {CX : CXT} {x : Str} (hn : l.most = some n) (hn2 : n ≤ sizeLine) (hdf : d.params.defaults = []) (hr : Room k callerA)
    (F : ∀ (w : World) (mg : Str → Option Value) (fa : Addr) (h : Heap), YP w h → h.Ns mainGlobals mg → mg d.name = some (.ref fa) →
      ∃ (K : PySem.W.Frag) (fd : FuncData) (sp : Sp), K.In h ∧ (∀ (s : Shared) (u : Value), BindsTo s fd ⟨[u], []⟩ [(x, u)]) ∧
        (∀ (H : Hp) (a : Addr) (ns : List Int), ns.length ≤ n → Only H → SqL K H a (ns.map V.int) → sp [.ref a] H (fun v _ => v = .bl true) fun _ _ _ => False) ∧ ∀ base : Heap, K.In base → base.Ns mainGlobals mg → FnOk l.prog w K mg base CX k fa fd [x] sp)
    (hCX : ∀ (H : Hp) (s : Shared) (e : Value) (s' : Shared), CX [] H s (fun _ _ _ => False) e s' → False) : CallT q loose XP YP l.row.toRowW d [] := by
  intro w z₀ z₁ mg mb G Y low fa o pm cd doc dV kV ho hd hcd hD hmg hg args vals as hpre hlay hrd hwl hlo
  obtain rfl : dV = .none := PySem.W.Dflts.none hD hdf
  obtain rfl : kV = .none := PySem.W.Dflts.noKw hD
  obtain ⟨a, vs, ns, rfl, rfl, hobj, hints, hlen⟩ := Att.script_of hn hpre hwl
  obtain ⟨K, fd, sp, KX, hb, hsp, hF⟩ := F w mg fa _ Y G.T.g hmg
  refine PySem.W.enter_call (codeAny_mono (law_own low KX G.T.g G.T.b G.T.builtins G.T.nolimit hg hobj hints (Nat.le_trans hlen hn2) hr hF hb (fun H hO hS => hsp H a ns hlen hO hS) fun H e s' => hCX H z₁ e s') fun r s' hq => ?_)
  obtain ⟨rfl, h2, h3, h4⟩ := hq
  exact ⟨.inl ⟨.bool true, .bool true, [], rfl, fun _ => rfl, .bool true, Att.post_true l _, fun _ => ⟨List.Pairwise.nil, fun _ hm => (nomatch hm)⟩⟩, h2, h3, h4⟩
end Ev

/-! The refusing def's own text; from the head to the end. -/
namespace Ev
open PySem PySem.Spec L2 PyProof.Rows RZ L2H

def refS (a : Nat) (f : Nat → Bool) : List S :=
  [.asg (.one 1) (.lst [.isx 0 a (f 0), .isx 0 a (f 1), .isx 0 a (f 2), .isx 0 a (f 3)]) false [],
   .asg (.one 1) (.bin .add (.var 1) (.lst [.isx 0 a (f 4), .isx 0 a (f 5), .isx 0 a (f 6)])) false [],
   .asg (.one 1) (.bin .add (.var 1) (.lst [.isx 0 a (f 7)])) false [],
   .asg (.one 1) (.bin .add (.var 1) (.lst [.isx 0 a (f 8), .isx 0 a (f 9)])) false [],
   .ite (.or_ (.cmp .ne (.mt1 .count (.var 1) (.lit (.bl true))) (.lit (.int 1))) (.not_ (.isx 0 a true))) [.ret (.tup [.lit (.str refd), .neg (.lit (.int 1))])] [],
   .ret (.tup [.lit (.str refd), .mt1 .index (.var 1) (.lit (.bl true))])]
/-- the same with the tests' answers put in -/
def refT (f : Nat → Bool) : List S :=
  [.asg (.one 1) (.lst [.lit (.bl (f 0)), .lit (.bl (f 1)), .lit (.bl (f 2)), .lit (.bl (f 3))]) false [],
   .asg (.one 1) (.bin .add (.var 1) (.lst [.lit (.bl (f 4)), .lit (.bl (f 5)), .lit (.bl (f 6))])) false [],
   .asg (.one 1) (.bin .add (.var 1) (.lst [.lit (.bl (f 7))])) false [],
   .asg (.one 1) (.bin .add (.var 1) (.lst [.lit (.bl (f 8)), .lit (.bl (f 9))])) false [],
   .ite (.or_ (.cmp .ne (.mt1 .count (.var 1) (.lit (.bl true))) (.lit (.int 1))) (.not_ (.lit (.bl true)))) [.ret (.tup [.lit (.str refd), .neg (.lit (.int 1))])] [],
   .ret (.tup [.lit (.str refd), .mt1 .index (.var 1) (.lit (.bl true))])]
section
variable (a : Nat)
theorem isx0 (b : Bool) (s : Sl) : ev (fun _ => .no) (fun _ _ => .no) (.isx 0 a b) [.sh (.adr a), s] = .ok (.bl b) := if_pos rfl
theorem r_cons (s : S) (ss : List S) (env env' : Env) (o : Out) (h : exS (fun _ => .no) (fun _ _ => .no) (fun _ => .no) s env = .nx env') (g : exSs (fun _ => .no) (fun _ _ => .no) (fun _ => .no) ss env' = o) : exSs (fun _ => .no) (fun _ _ => .no) (fun _ => .no) (s :: ss) env = o := by
  show (match exS (fun _ => .no) (fun _ _ => .no) (fun _ => .no) s env with
    | .nx env' => exSs (fun _ => .no) (fun _ _ => .no) (fun _ => .no) ss env'
    | .rt d => .rt d
    | .ex c => .ex c
    | .no => .no) = o
  rw [h]; exact g
theorem r_ret (e : E) (ss : List S) (env : Env) (d : D) (h : ev (fun _ => .no) (fun _ _ => .no) e (open_ env) = .ok d) : exSs (fun _ => .no) (fun _ _ => .no) (fun _ => .no) (.ret e :: ss) env = .rt d := by
  show (match R.out (ev (fun _ => .no) (fun _ _ => .no) e (open_ env)) Out.rt with
    | .nx env' => exSs (fun _ => .no) (fun _ _ => .no) (fun _ => .no) ss env'
    | .rt d => .rt d
    | .ex c => .ex c
    | .no => .no) = _
  rw [h]; rfl
theorem r_asg (e : E) (s : Sl) (xs : List D) (hs : mask [] [.sh (.adr a), s] = [.sh (.adr a), s] ∧ demote [] [.sh (.adr a), s] = [.sh (.adr a), s]) (h : ev (fun _ => .no) (fun _ _ => .no) e [.sh (.adr a), s] = .ok (.lst xs)) :
    exS (fun _ => .no) (fun _ _ => .no) (fun _ => .no) (.asg (.one 1) e false []) [.sh (.adr a), s] = .nx [.sh (.adr a), .sh (.lst xs)] := by
  show R.out (ev (fun _ => .no) (fun _ _ => .no) e (mask [] [.sh (.adr a), s])) _ = _
  rw [hs.1, h]
  show R.out (bind (.one 1) (.lst xs) (demote [] [.sh (.adr a), s])) Out.nx = _
  rw [hs.2]; rfl
theorem isxs : ∀ (bs : List Bool) (s : Sl), evs (fun _ => .no) (fun _ _ => .no) (bs.map fun b => E.isx 0 a b) [.sh (.adr a), s] = .ok (bs.map D.bl)
  | [], _ => rfl
  | b :: bs, s => by
    show R.bind (ev _ _ (E.isx 0 a b) _) _ = _
    rw [isx0]
    show R.bind (evs _ _ (bs.map fun b => E.isx 0 a b) _) _ = _
    rw [isxs bs s]; rfl
theorem lsts (bs : List Bool) (s : Sl) (hb : bs.length ≤ lim) : ev (fun _ => .no) (fun _ _ => .no) (.lst (bs.map fun b => E.isx 0 a b)) [.sh (.adr a), s] = .ok (.lst (bs.map D.bl)) := by
  show R.bind (evs _ _ (bs.map fun b => E.isx 0 a b) _) _ = _
  rw [isxs]
  show fit _ _ = _
  unfold fit
  rw [if_pos (by rw [List.length_map]; exact hb)]
theorem adds (xs : List D) (bs : List Bool) (hb : bs.length ≤ 10) (hx : xs.length ≤ 10) : ev (fun _ => .no) (fun _ _ => .no) (.bin .add (.var 1) (.lst (bs.map fun b => E.isx 0 a b))) [.sh (.adr a), .sh (.lst xs)] = .ok (.lst (xs ++ bs.map D.bl)) := by
  show R.bind (R.ok (D.lst xs)) (fun x => R.bind (ev _ _ (.lst (bs.map fun b => E.isx 0 a b)) _) _) = _
  rw [R.bind_ok, lsts a bs _ (Nat.le_trans hb (by decide))]
  show fit _ _ = _
  unfold fit
  rw [if_pos (by rw [List.length_map]; exact Nat.le_trans (Nat.add_le_add hx hb) (by decide))]
end
theorem refS_ok (a c : Nat) (hc : c < 10) : exSs (fun _ => .no) (fun _ _ => .no) (fun _ => .no) (refS a fun j => decide (j = c)) [.sh (.adr a), .no] = .rt (.tup [.str refd, .int c]) := by
  unfold refS
  refine r_cons _ _ _ _ _ (r_asg a _ _ _ ⟨rfl, rfl⟩ (lsts a [decide (0 = c), decide (1 = c), decide (2 = c), decide (3 = c)] _ (by simp [lim]))) ?_
  refine r_cons _ _ _ _ _ (r_asg a _ _ _ ⟨rfl, rfl⟩ (adds a _ [decide (4 = c), decide (5 = c), decide (6 = c)] (by simp) (by simp))) ?_
  refine r_cons _ _ _ _ _ (r_asg a _ _ _ ⟨rfl, rfl⟩ (adds a _ [decide (7 = c)] (by simp) (by simp))) ?_
  refine r_cons _ _ _ _ _ (r_asg a _ _ _ ⟨rfl, rfl⟩ (adds a _ [decide (8 = c), decide (9 = c)] (by simp) (by simp))) ?_
  have key : ∀ xs : List D, mCount (.lst xs) (.bl true) = .ok (.int 1) → mIndex (.lst xs) (.bl true) = .ok (.int c) →
      exSs (fun _ => .no) (fun _ _ => .no) (fun _ => .no) [.ite (.or_ (.cmp .ne (.mt1 .count (.var 1) (.lit (.bl true))) (.lit (.int 1))) (.not_ (.isx 0 a true))) [.ret (.tup [.lit (.str refd), .neg (.lit (.int 1))])] [],
        .ret (.tup [.lit (.str refd), .mt1 .index (.var 1) (.lit (.bl true))])] [.sh (.adr a), .sh (.lst xs)] = .rt (.tup [.str refd, .int c]) := fun xs h1 h2 => by
    refine r_cons _ _ _ [.sh (.adr a), .sh (.lst xs)] _ ?_ ?_
    · have e1 : ev (fun _ => .no) (fun _ _ => .no) (.mt1 .count (.var 1) (.lit (.bl true))) [.sh (.adr a), .sh (.lst xs)] = .ok (.int 1) := h1
      have e2 : ev (fun _ => .no) (fun _ _ => .no) (.cmp .ne (.mt1 .count (.var 1) (.lit (.bl true))) (.lit (.int 1))) [.sh (.adr a), .sh (.lst xs)] = .ok (.bl false) := by
        show R.bind (ev _ _ (.mt1 .count (.var 1) (.lit (.bl true))) _) _ = _
        rw [e1]; rfl
      have e3 : ev (fun _ => .no) (fun _ _ => .no) (.or_ (.cmp .ne (.mt1 .count (.var 1) (.lit (.bl true))) (.lit (.int 1))) (.not_ (.isx 0 a true))) [.sh (.adr a), .sh (.lst xs)] = .ok (.bl false) := by
        show R.bind (ev _ _ (.cmp .ne (.mt1 .count (.var 1) (.lit (.bl true))) (.lit (.int 1))) _) _ = _
        rw [e2]
        show R.bind (ev _ _ (.isx 0 a true) _) _ = _
        rw [isx0]; rfl
      show R.out (R.bind (ev _ _ (.or_ (.cmp .ne (.mt1 .count (.var 1) (.lit (.bl true))) (.lit (.int 1))) (.not_ (.isx 0 a true))) [.sh (.adr a), .sh (.lst xs)]) asBool) _ = _
      rw [e3]; rfl
    · have e1 : ev (fun _ => .no) (fun _ _ => .no) (.mt1 .index (.var 1) (.lit (.bl true))) [.sh (.adr a), .sh (.lst xs)] = .ok (.int c) := h2
      have e2 : ev (fun _ => .no) (fun _ _ => .no) (.tup [.lit (.str refd), .mt1 .index (.var 1) (.lit (.bl true))]) [.sh (.adr a), .sh (.lst xs)] = .ok (.tup [.str refd, .int c]) := by
        show R.bind (R.bind (ev _ _ (.mt1 .index (.var 1) (.lit (.bl true))) _) _ |>.bind _) _ = _
        rw [e1]; rfl
      refine r_ret _ _ _ _ ?_
      exact e2
  refine key _ ?_ ?_
  · match c, hc with
    | 0, _ => rfl
    | 1, _ => rfl
    | 2, _ => rfl
    | 3, _ => rfl
    | 4, _ => rfl
    | 5, _ => rfl
    | 6, _ => rfl
    | 7, _ => rfl
    | 8, _ => rfl
    | 9, _ => rfl
  · match c, hc with
    | 0, _ => rfl
    | 1, _ => rfl
    | 2, _ => rfl
    | 3, _ => rfl
    | 4, _ => rfl
    | 5, _ => rfl
    | 6, _ => rfl
    | 7, _ => rfl
    | 8, _ => rfl
    | 9, _ => rfl

/-- the refusing def, its tests in any number of lists -/
def refE (a : Nat) : List S := [.ite (.or_ (.cmp .ne (.mt1 .count (.var 1) (.lit (.bl true))) (.lit (.int 1))) (.not_ (.isx 0 a true))) [.ret (.tup [.lit (.str refd), .neg (.lit (.int 1))])] [],
        .ret (.tup [.lit (.str refd), .mt1 .index (.var 1) (.lit (.bl true))])]
def refM (a : Nat) : List (List Bool) → List S
  | [] => refE a
  | bs :: bss => .asg (.one 1) (.bin .add (.var 1) (.lst (bs.map fun b => E.isx 0 a b))) false [] :: refM a bss
def refG (a : Nat) (bs : List Bool) (bss : List (List Bool)) : List S := .asg (.one 1) (.lst (bs.map fun b => E.isx 0 a b)) false [] :: refM a bss
theorem refE_ok (a c : Nat) (xs : List D) (h1 : mCount (.lst xs) (.bl true) = .ok (.int 1)) (h2 : mIndex (.lst xs) (.bl true) = .ok (.int c)) : exSs (fun _ => .no) (fun _ _ => .no) (fun _ => .no) (refE a) [.sh (.adr a), .sh (.lst xs)] = .rt (.tup [.str refd, .int c]) := by
  unfold refE
  refine r_cons _ _ _ [.sh (.adr a), .sh (.lst xs)] _ ?_ ?_
  · have e1 : ev (fun _ => .no) (fun _ _ => .no) (.mt1 .count (.var 1) (.lit (.bl true))) [.sh (.adr a), .sh (.lst xs)] = .ok (.int 1) := h1
    have e2 : ev (fun _ => .no) (fun _ _ => .no) (.cmp .ne (.mt1 .count (.var 1) (.lit (.bl true))) (.lit (.int 1))) [.sh (.adr a), .sh (.lst xs)] = .ok (.bl false) := by
      show R.bind (ev _ _ (.mt1 .count (.var 1) (.lit (.bl true))) _) _ = _
      rw [e1]; rfl
    have e3 : ev (fun _ => .no) (fun _ _ => .no) (.or_ (.cmp .ne (.mt1 .count (.var 1) (.lit (.bl true))) (.lit (.int 1))) (.not_ (.isx 0 a true))) [.sh (.adr a), .sh (.lst xs)] = .ok (.bl false) := by
      show R.bind (ev _ _ (.cmp .ne (.mt1 .count (.var 1) (.lit (.bl true))) (.lit (.int 1))) _) _ = _
      rw [e2]
      show R.bind (ev _ _ (.isx 0 a true) _) _ = _
      rw [isx0]; rfl
    show R.out (R.bind (ev _ _ (.or_ (.cmp .ne (.mt1 .count (.var 1) (.lit (.bl true))) (.lit (.int 1))) (.not_ (.isx 0 a true))) [.sh (.adr a), .sh (.lst xs)]) asBool) _ = _
    rw [e3]; rfl
  · have e1 : ev (fun _ => .no) (fun _ _ => .no) (.mt1 .index (.var 1) (.lit (.bl true))) [.sh (.adr a), .sh (.lst xs)] = .ok (.int c) := h2
    have e2 : ev (fun _ => .no) (fun _ _ => .no) (.tup [.lit (.str refd), .mt1 .index (.var 1) (.lit (.bl true))]) [.sh (.adr a), .sh (.lst xs)] = .ok (.tup [.str refd, .int c]) := by
      show R.bind (R.bind (ev _ _ (.mt1 .index (.var 1) (.lit (.bl true))) _) _ |>.bind _) _ = _
      rw [e1]; rfl
    refine r_ret _ _ _ _ ?_
    exact e2
theorem refM_ok (a c : Nat) : ∀ (bss : List (List Bool)) (xs : List D), xs.length + bss.flatten.length ≤ 10 → mCount (.lst (xs ++ bss.flatten.map D.bl)) (.bl true) = .ok (.int 1) → mIndex (.lst (xs ++ bss.flatten.map D.bl)) (.bl true) = .ok (.int c) → exSs (fun _ => .no) (fun _ _ => .no) (fun _ => .no) (refM a bss) [.sh (.adr a), .sh (.lst xs)] = .rt (.tup [.str refd, .int c])
  | [], xs, _, h1, h2 => by
    rw [List.flatten_nil, List.map_nil, List.append_nil] at h1 h2
    exact refE_ok a c xs h1 h2
  | bs :: bss, xs, hl, h1, h2 => by
    rw [List.flatten_cons, List.length_append] at hl
    rw [List.flatten_cons, List.map_append, ← List.append_assoc] at h1 h2
    refine r_cons _ _ _ _ _ (r_asg a _ _ _ ⟨rfl, rfl⟩ (adds a xs bs (by omega) (by omega))) ?_
    exact refM_ok a c bss _ (by rw [List.length_append, List.length_map]; omega) h1 h2
theorem refG_ok (a c : Nat) (bs : List Bool) (bss : List (List Bool)) (hl : bs.length + bss.flatten.length ≤ 10) (h1 : mCount (.lst (bs.map D.bl ++ bss.flatten.map D.bl)) (.bl true) = .ok (.int 1)) (h2 : mIndex (.lst (bs.map D.bl ++ bss.flatten.map D.bl)) (.bl true) = .ok (.int c)) : exSs (fun _ => .no) (fun _ _ => .no) (fun _ => .no) (refG a bs bss) [.sh (.adr a), .no] = .rt (.tup [.str refd, .int c]) := by
  unfold refG
  refine r_cons _ _ _ _ _ (r_asg a _ _ _ ⟨rfl, rfl⟩ (lsts a bs _ (Nat.le_trans (by omega : bs.length ≤ 10) (by simp [lim])))) ?_
  exact refM_ok a c bss _ (by rw [List.length_map]; exact hl) h1 h2
/-- no exception leaves it -/
theorem fn_calm {P : Program} {w : World} {K : PySem.W.Frag} {mg : Str → Option Value} {base : Heap} {k : Nat} {f : Addr} {fd : FuncData} {ps : List Str} {sp : Sp} (F : FnOk P w K mg base (L2N.CX P w) k f fd ps sp) : FnOk P w K mg base CX0 k f fd ps (fun vs H Q _ => sp vs H Q fun _ _ _ => False) :=
  ⟨fun vs H Q _ h => F.len vs H Q _ h, fun A outer s H args us vs Q E low hr he hb hv hs => codeAny_mono (F.run A outer s H args us vs Q (fun _ _ _ => False) low hr he hb hv hs) fun r s' hq => by
    cases r with
    | error e =>
      obtain ⟨_, _, _, _, _, _, _, _, _, _, _, _, z⟩ := hq
      exact z.elim
    | ok fl => cases fl <;> exact hq⟩
theorem Lw.at_of {L : Lw} {w : World} {K : PySem.W.Frag} {h : Heap} {mg : Str → Option Value} {ts : List He.Tab} (X : K.In h) (G : h.Ns mainGlobals mg) (c : He.SaysX [] (L.all.map dfD) ts [] L.okK w h K)
    (hd : ∀ p ∈ L.gs, ∀ ks ds, p.2 = .gdc ks ds → ∃ (i : Nat) (t : He.Tab), ts[i]? = some t ∧ t.1 K = He.ga K p.1) : L.At w K mg where
  ok := c.more
  mgf := fun x v e => PySem.W.mg_of X G e
  mgn := fun x e => PySem.W.mg_none_of X G e
  dict := fun p hp ks ds e => by
    obtain ⟨i, t, h1, h2⟩ := hd p hp ks ds e
    rw [← h2]
    exact c.t.tab i h1
  fun_ := fun d hd => by
    have hm : d ∈ L.all := by
      unfold Lw.all
      rcases hd with h | ⟨h0, h⟩
      · exact List.mem_append_left _ h
      · exact List.mem_append_right _ (by rw [if_pos h0, h]; exact List.mem_singleton.mpr rfl)
    exact He.SaysD.defs c.t.d (List.mem_map.mpr ⟨d, hm, rfl⟩)
/-- the law's end -/
theorem Lw.end_ {L : Lw} {P : Program} {w : World} {K : PySem.W.Frag} {h : Heap} {mg : Str → Option Value} {fa : Addr} (O : L.Ok) (T : L.At w K mg) (X : K.In h) (m j : Nat) (d : Df) (hj : L.dfs[j]? = some d) (hp : d.ps = [("script" : Str)]) (hfa : mg d.g = some (.ref fa))
    (hlaw : ∀ ns : List Int, ns.length ≤ 63 → callF L.pr m j [.scr ns] = .ok (.bl true)) :
    ∃ (K : PySem.W.Frag) (fd : FuncData) (sp : Sp), K.In h ∧ (∀ (s : Shared) (u : Value), BindsTo s fd ⟨[u], []⟩ [("script", u)]) ∧
        (∀ (H : Hp) (a : Addr) (ns : List Int), ns.length ≤ 63 → Only H → SqL K H a (ns.map V.int) → sp [.ref a] H (fun v _ => v = .bl true) fun _ _ _ => False) ∧
        ∀ base : Heap, K.In base → base.Ns mainGlobals mg → FnOk P w K mg base CX0 (m + 1) fa fd ["script"] sp := by
  have hmem := List.mem_of_getElem? hj
  have hg := T.glo (T.parts.1 d hmem)
  rw [hfa] at hg
  cases hg
  obtain ⟨fd, F⟩ := T.fun_ d (.inl hmem)
  have hb := O.binds d (.inl hmem)
  rw [hp] at hb
  refine ⟨K, fd, fun vs H Q _ => (L.ct K w m fun _ _ _ _ => False).sp j 1 vs H Q fun _ _ _ => False, X, fun s u => F.bindsA (ps := ["script"]) hb s [u] rfl, fun H a ns hl _ hS => ?_, fun base _ _ => ?_⟩
  · refine ⟨rfl, H, [.scr ns], Same.refl _, ⟨.ref a, [], rfl, ⟨a, rfl, hS⟩, rfl⟩, ?_⟩
    show fin K w (callF L.pr m j [.scr ns]) H H _ _
    rw [hlaw ns hl]
    exact fun v F' H' _ r => r
  · obtain ⟨fd2, G1, _, _, F2⟩ := Lw.fns (P := P) (base := base) O T m j d hj
    have e : fd2 = fd := by
      obtain ⟨_, _, _, _, _, _, _, _, _, _, _, l1, _⟩ := F.ex
      obtain ⟨_, _, _, _, _, _, _, _, _, _, _, l2, _⟩ := F2.ex
      rw [l1] at l2
      cases l2; rfl
    subst e
    have G2 := fn_calm G1
    rw [hp] at G2
    exact G2
end Ev

/-! Plain reckoning with the evaluator. -/
namespace Ev
def Out.thn (o : Out) (f : Env → Out) : Out := match o with
  | .nx env' => f env'
  | .rt d => .rt d
  | .ex c => .ex c
  | .no => .no
@[simp] theorem thn_nx (e : Env) (f : Env → Out) : (Out.nx e).thn f = f e := rfl
@[simp] theorem thn_rt (d : D) (f : Env → Out) : (Out.rt d).thn f = .rt d := rfl
@[simp] theorem thn_ex (c : Nat) (f : Env → Out) : (Out.ex c).thn f = .ex c := rfl
@[simp] theorem thn_no (f : Env → Out) : Out.no.thn f = .no := rfl
section
variable {glob : Nat → R D} {fn : Nat → List D → R D} {refu : Nat → R D} {env : Env}
@[simp] theorem ev_nul : ev glob fn .nul env = .ok .non := rfl
@[simp] theorem ev_var (i : Nat) : ev glob fn (.var i) env = look env i := rfl
@[simp] theorem ev_lit (d : D) : ev glob fn (.lit d) env = .ok d := rfl
@[simp] theorem ev_glo (g : Nat) : ev glob fn (.glo g) env = glob g := rfl
@[simp] theorem ev_tup (es : List E) : ev glob fn (.tup es) env = (evs glob fn es env).bind fun ds => fit ds.length (.tup ds) := rfl
@[simp] theorem ev_lst (es : List E) : ev glob fn (.lst es) env = (evs glob fn es env).bind fun ds => fit ds.length (.lst ds) := rfl
@[simp] theorem ev_bin (o : B2) (a b : E) : ev glob fn (.bin o a b) env = (ev glob fn a env).bind fun x => (ev glob fn b env).bind fun y => bop o x y := rfl
@[simp] theorem ev_cmp (o : C2) (a b : E) : ev glob fn (.cmp o a b) env = (ev glob fn a env).bind fun x => (ev glob fn b env).bind fun y => (cop o x y).bind fun z => .ok (.bl z) := rfl
@[simp] theorem ev_cmp2 (o p : C2) (a b c : E) : ev glob fn (.cmp2 o p a b c) env = (ev glob fn a env).bind fun x => (ev glob fn b env).bind fun y => (cop o x y).bind fun z =>
      if z then (ev glob fn c env).bind fun w => (cop p y w).bind fun u => .ok (.bl u) else .ok (.bl false) := rfl
@[simp] theorem ev_and (a b : E) : ev glob fn (.and_ a b) env = (ev glob fn a env).bind fun x => (asBool x).bind fun z => if z then ev glob fn b env else .ok (.bl false) := rfl
@[simp] theorem ev_or (a b : E) : ev glob fn (.or_ a b) env = (ev glob fn a env).bind fun x => (asBool x).bind fun z => if z then .ok (.bl true) else ev glob fn b env := rfl
@[simp] theorem ev_not (a : E) : ev glob fn (.not_ a) env = (ev glob fn a env).bind fun x => (asBool x).bind fun z => .ok (.bl (!z)) := rfl
@[simp] theorem ev_ite (c a b : E) : ev glob fn (.ite c a b) env = (ev glob fn c env).bind fun x => (asBool x).bind fun z => if z then ev glob fn a env else ev glob fn b env := rfl
@[simp] theorem ev_idx (a i : E) : ev glob fn (.idx a i) env = (ev glob fn a env).bind fun x => (ev glob fn i env).bind fun y => idx x y := rfl
@[simp] theorem ev_slc (a l u : E) : ev glob fn (.slc a l u) env = (ev glob fn a env).bind fun x => (if l.isNul then .ok none else (ev glob fn l env).bind intOf).bind fun y =>
      (if u.isNul then .ok none else (ev glob fn u env).bind intOf).bind fun z => slc x y z := rfl
@[simp] theorem ev_rev (a : E) : ev glob fn (.rev a) env = (ev glob fn a env).bind fun x => rvs x := rfl
@[simp] theorem ev_call (f : Nat) (es : List E) : ev glob fn (.call f es) env = (evs glob fn es env).bind fun ds => fn f ds := rfl
@[simp] theorem ev_isi (a : E) (t : Ty) : ev glob fn (.isi a t) env = (ev glob fn a env).bind fun x => isTyR t x := rfl
@[simp] theorem ev_bi1 (f : Bi) (a : E) : ev glob fn (.bi1 f a) env = (ev glob fn a env).bind fun x => bi1 f x := rfl
@[simp] theorem ev_bi2 (f : Bi) (a b : E) : ev glob fn (.bi2 f a b) env = (ev glob fn a env).bind fun x => (ev glob fn b env).bind fun y => bi2 f x y := rfl
@[simp] theorem ev_neg (a : E) : ev glob fn (.neg a) env = (ev glob fn a env).bind fun x => match x with
    | .int i => .ok (.int (-i))
    | _ => .no := rfl
@[simp] theorem evs_nil : evs glob fn [] env = .ok [] := rfl
@[simp] theorem evs_cons (e : E) (es : List E) : evs glob fn (e :: es) env = (ev glob fn e env).bind fun d => (evs glob fn es env).bind fun ds => .ok (d :: ds) := rfl
@[simp] theorem exSs_nil : exSs glob fn refu [] env = .nx env := rfl
@[simp] theorem exSs_cons (s : S) (ss : List S) : exSs glob fn refu (s :: ss) env = (exS glob fn refu s env).thn (exSs glob fn refu ss) := rfl
@[simp] theorem exS_ret (e : E) : exS glob fn refu (.ret e) env = (ev glob fn e (open_ env)).out .rt := rfl
@[simp] theorem exS_exp (e : E) : exS glob fn refu (.exp e) env = (ev glob fn e (open_ env)).out fun _ => .nx env := rfl
@[simp] theorem exS_ite (c : E) (a b : List S) : exS glob fn refu (.ite c a b) env = ((ev glob fn c (open_ env)).bind asBool).out fun z => if z then exSs glob fn refu a env else exSs glob fn refu b env := rfl
@[simp] theorem exS_raise (c : Nat) (e : E) : exS glob fn refu (.raise c e) env = (ev glob fn e (open_ env)).out fun _ => .ex c := rfl
@[simp] theorem exS_asg (t : T) (e : E) (uses : List Nat) : exS glob fn refu (.asg t e false uses) env = (ev glob fn e (mask uses env)).out fun d => (bind t d (after d uses env)).out .nx := rfl
@[simp] theorem look_zero (s : Sl) (r : Env) : look (s :: r) 0 = s.val := rfl
@[simp] theorem look_succ (s : Sl) (r : Env) (i : Nat) : look (s :: r) (i + 1) = look r i := rfl
@[simp] theorem val_sh (d : D) : (Sl.sh d).val = .ok d := rfl
@[simp] theorem val_ow (d : D) : (Sl.ow d).val = .ok d := rfl
@[simp] theorem val_no : Sl.no.val = .no := rfl
@[simp] theorem asBool_bl (b : Bool) : asBool (.bl b) = .ok b := rfl
@[simp] theorem bind_one (i : Nat) (d : D) (e : Env) : bind (.one i) d e = if i < e.length then .ok (e.set i (.sh d)) else .no := rfl
@[simp] theorem bind_many (ts : List T) (xs : List D) (e : Env) : bind (.many ts) (.tup xs) e = binds ts xs e := rfl
@[simp] theorem binds_nil (e : Env) : binds [] [] e = .ok e := rfl
@[simp] theorem binds_cons (t : T) (ts : List T) (x : D) (xs : List D) (e : Env) : binds (t :: ts) (x :: xs) e = (bind t x e).bind fun e' => binds ts xs e' := rfl
@[simp] theorem intOf_int (i : Int) : intOf (.int i) = .ok (some i) := rfl
@[simp] theorem bop_add (a b : Int) : bop .add (.int a) (.int b) = .ok (.int (a + b)) := rfl
end
/-- no slot of one's own -/
def plain : Env → Bool
  | [] => true
  | .ow _ :: _ => false
  | .sh _ :: r => plain r
  | .no :: r => plain r
@[simp] theorem plain_nil : plain [] = true := rfl
@[simp] theorem plain_sh (d : D) (r : Env) : plain (.sh d :: r) = plain r := rfl
@[simp] theorem plain_no (r : Env) : plain (.no :: r) = plain r := rfl
theorem seen_of (b : Bool) : ∀ (s : Sl), (∀ d, s ≠ .ow d) → s.seen b = s ∧ s.free b = s
  | .no, _ => ⟨rfl, rfl⟩
  | .sh _, _ => ⟨rfl, rfl⟩
  | .ow d, h => absurd rfl (h d)
theorem plain_at : ∀ {env : Env} {i : Nat} {s : Sl}, plain env = true → env[i]? = some s → ∀ d, s ≠ .ow d
  | [], i, s, _, e => by simp at e
  | .ow _ :: _, _, _, h, _ => by cases h
  | .sh x :: r, 0, s, h, e => by cases e; exact fun d z => by cases z
  | .sh x :: r, i + 1, s, h, e => plain_at (env := r) (i := i) h e
  | .no :: r, 0, s, h, e => by cases e; exact fun d z => by cases z
  | .no :: r, i + 1, s, h, e => plain_at (env := r) (i := i) h e
theorem mask_plain {env : Env} {uses : List Nat} (h : plain env = true) : mask uses env = env := by
  unfold mask
  refine List.ext_getElem? fun i => ?_
  rw [List.getElem?_mapIdx]
  cases e : env[i]? with
  | none => rfl
  | some s => rw [Option.map_some, (seen_of _ s (plain_at h e)).1]
theorem open_plain {env : Env} (h : plain env = true) : open_ env = env := by
  unfold open_
  refine List.ext_getElem? fun i => ?_
  rw [List.getElem?_map]
  cases e : env[i]? with
  | none => rfl
  | some s => rw [Option.map_some, (seen_of _ s (plain_at h e)).1]
theorem demote_plain {env : Env} {uses : List Nat} (h : plain env = true) : demote uses env = env := by
  unfold demote
  refine List.ext_getElem? fun i => ?_
  rw [List.getElem?_mapIdx]
  cases e : env[i]? with
  | none => rfl
  | some s => rw [Option.map_some, (seen_of _ s (plain_at h e)).2]
theorem after_plain {env : Env} {uses : List Nat} {d : D} (h : plain env = true) : after d uses env = env := by
  unfold after
  rw [demote_plain h]; split <;> rfl
@[simp] theorem open_nil : open_ [] = [] := rfl
@[simp] theorem open_sh (d : D) (r : Env) : open_ (.sh d :: r) = .sh d :: open_ r := rfl
@[simp] theorem open_no (r : Env) : open_ (.no :: r) = .no :: open_ r := rfl
@[simp] theorem open_ow (d : D) (r : Env) : open_ (.ow d :: r) = .sh d :: open_ r := rfl
def maskK (k : Nat) (uses : List Nat) : Env → Env
  | [] => []
  | s :: r => s.seen (decide (k ∈ uses)) :: maskK (k + 1) uses r
def demK (k : Nat) (uses : List Nat) : Env → Env
  | [] => []
  | s :: r => s.free (decide (k ∈ uses)) :: demK (k + 1) uses r
theorem maskK_eq (uses : List Nat) : ∀ (env : Env) (k : Nat), (env.mapIdx fun i s => s.seen (decide (i + k ∈ uses))) = maskK k uses env
  | [], _ => rfl
  | s :: r, k => by
    rw [List.mapIdx_cons, maskK, ← maskK_eq uses r (k + 1), Nat.zero_add]
    congr 2
    funext i s
    rw [show i + 1 + k = i + (k + 1) by omega]
theorem demK_eq (uses : List Nat) : ∀ (env : Env) (k : Nat), (env.mapIdx fun i s => s.free (decide (i + k ∈ uses))) = demK k uses env
  | [], _ => rfl
  | s :: r, k => by
    rw [List.mapIdx_cons, demK, ← demK_eq uses r (k + 1), Nat.zero_add]
    congr 2
    funext i s
    rw [show i + 1 + k = i + (k + 1) by omega]
@[simp] theorem mask_K (uses : List Nat) (env : Env) : mask uses env = maskK 0 uses env := maskK_eq uses env 0
@[simp] theorem demote_K (uses : List Nat) (env : Env) : demote uses env = demK 0 uses env := demK_eq uses env 0
@[simp] theorem maskK_nil (k : Nat) (uses : List Nat) : maskK k uses [] = [] := rfl
@[simp] theorem maskK_sh (k : Nat) (uses : List Nat) (d : D) (r : Env) : maskK k uses (.sh d :: r) = .sh d :: maskK (k + 1) uses r := rfl
@[simp] theorem maskK_no (k : Nat) (uses : List Nat) (r : Env) : maskK k uses (.no :: r) = .no :: maskK (k + 1) uses r := rfl
@[simp] theorem maskK_ow (k : Nat) (uses : List Nat) (d : D) (r : Env) : maskK k uses (.ow d :: r) = (if decide (k ∈ uses) then .sh d else .no) :: maskK (k + 1) uses r := rfl
@[simp] theorem demK_nil (k : Nat) (uses : List Nat) : demK k uses [] = [] := rfl
@[simp] theorem demK_sh (k : Nat) (uses : List Nat) (d : D) (r : Env) : demK k uses (.sh d :: r) = .sh d :: demK (k + 1) uses r := rfl
@[simp] theorem demK_no (k : Nat) (uses : List Nat) (r : Env) : demK k uses (.no :: r) = .no :: demK (k + 1) uses r := rfl
@[simp] theorem demK_ow (k : Nat) (uses : List Nat) (d : D) (r : Env) : demK k uses (.ow d :: r) = (if decide (k ∈ uses) then .sh d else .ow d) :: demK (k + 1) uses r := rfl
@[simp] theorem after_K (d : D) (uses : List Nat) (env : Env) : after d uses env = if flat d then env else demK 0 uses env := by unfold after; rw [demote_K]
theorem call_eq {P : Pr} {f : Nat} {fd : Fd} {ds : List D} (n : Nat) (h : P.fd f = some fd) (hl : ds.length = fd.ps) : callF P (n + 1) f ds = ended (exSs P.glob (callF P n) P.refu fd.body (start fd ds)) := by
  show (match P.fd f with
    | some fd => if ds.length = fd.ps then ended (exSs P.glob (callF P n) P.refu fd.body (start fd ds)) else .no
    | none => .no) = _
  rw [h]
  show (if ds.length = fd.ps then _ else _) = _
  rw [if_pos hl]

/-! ### texts -/
theorem dLen_str {l : List Nat} (h : l.length ≤ 1000) : dLen (.str l) = .ok (.int l.length) := by
  show (if l.length ≤ lim then R.ok (D.int l.length) else .no) = _
  rw [if_pos (Nat.le_trans h (by decide))]
@[simp] theorem bi1_len (d : D) : bi1 .len d = dLen d := rfl
@[simp] theorem bi1_int (d : D) : bi1 .int_ d = dInt d := rfl
@[simp] theorem dInt_bl (b : Bool) : dInt (.bl b) = .ok (.int (if b then 1 else 0)) := rfl
theorem idx_str {l : List Nat} {s : Nat} {c : Nat} (h : l.length ≤ 1000) (hc : l[s]? = some c) : idx (.str l) (.int s) = .ok (.str [c]) := by
  have hs : s < l.length := (List.getElem?_eq_some_iff.mp hc).1
  have hp : place l.length (s : Int) = some s := by
    unfold place
    rw [if_pos (by omega), if_pos (by omega)]; simp
  show (if l.length ≤ lim then (match (place l.length s).bind (l[·]?) with
    | some c => R.ok (D.str [c])
    | none => .no) else .no) = _
  rw [if_pos (Nat.le_trans h (by decide)), hp]
  show (match l[s]? with
    | some c => R.ok (D.str [c])
    | none => .no) = _
  rw [hc]
theorem sIx_nat (n d a : Nat) : sIx n d (some (a : Int)) = min a n := by
  show (if (a : Int) < 0 then ((a : Int) + (n : Int)).toNat else min (a : Int).toNat n) = _
  rw [if_neg (by omega), Int.toNat_natCast]
theorem slc_str {l : List Nat} {a b : Nat} (h : l.length ≤ 1000) : slc (.str l) (some (a : Int)) (some (b : Int)) = .ok (.str ((l.drop a).take (b - a))) := by
  show (if l.length ≤ lim then R.ok (D.str (cut l (some (a : Int)) (some (b : Int)))) else .no) = _
  rw [if_pos (Nat.le_trans h (by decide))]
  have e : cut l (some (a : Int)) (some (b : Int)) = (l.drop a).take (b - a) := by
    unfold cut
    rw [sIx_nat, sIx_nat]
    by_cases ha : a ≤ l.length
    · rw [Nat.min_eq_left ha]
      by_cases hb : b ≤ l.length
      · rw [Nat.min_eq_left hb]
      · rw [Nat.min_eq_right (by omega), List.take_of_length_le (by rw [List.length_drop]; omega), List.take_of_length_le (by rw [List.length_drop]; omega)]
    · rw [List.drop_eq_nil_of_le (i := min a l.length) (by omega), List.drop_eq_nil_of_le (i := a) (by omega)]
      simp
  rw [e]
theorem add_str {a b : List Nat} (h : a.length + b.length ≤ 4000) : bop .add (.str a) (.str b) = .ok (.str (a ++ b)) := by
  show fit _ _ = _
  unfold fit
  rw [if_pos (Nat.le_trans h (by decide))]
@[simp] theorem deqR_str (a b : List Nat) : deqR (.str a) (.str b) = .ok (a == b) := rfl
@[simp] theorem cop_eq (a b : D) : cop .eq a b = deqR a b := rfl
@[simp] theorem cop_neq (a b : D) : cop .ne a b = (deqR a b).bind fun z => .ok (!z) := rfl
@[simp] theorem cop_lt (a b : Int) : cop .lt (.int a) (.int b) = .ok (decide (a < b)) := rfl
@[simp] theorem cop_gt (a b : Int) : cop .gt (.int a) (.int b) = .ok (decide (b < a)) := rfl
@[simp] theorem cop_in (a b : D) : cop .isin a b = isIn a b := rfl
@[simp] theorem cop_notin (a b : D) : cop .notin a b = (isIn a b).bind fun z => .ok (!z) := rfl
@[simp] theorem isIn_sign (c : Nat) (l : List Nat) : isIn (.str [c]) (.str l) = .ok (decide (c ∈ l)) := rfl
/-- texts among texts -/
theorem okds_strs : ∀ (n : Nat) (ws : List (List Nat)), okds n (ws.map D.str) = true
  | _, [] => rfl
  | 0, w :: ws => by show (okd 0 (.str w) && okds 0 (ws.map D.str)) = true; rw [okds_strs]; rfl
  | n + 1, w :: ws => by show (okd (n + 1) (.str w) && okds (n + 1) (ws.map D.str)) = true; rw [okds_strs]; rfl
theorem any_strs (x : List Nat) : ∀ (ws : List (List Nat)), ((ws.map D.str).any fun z => deq z (.str x)) = decide (x ∈ ws)
  | [] => by simp
  | w :: ws => by
    show (deq (.str w) (.str x) || (ws.map D.str).any fun z => deq z (.str x)) = _
    rw [any_strs x ws]
    show ((w == x) || decide (x ∈ ws)) = _
    by_cases h : w = x
    · subst h; simp
    · have h2 : ¬ x = w := fun e => h e.symm
      simp [h, h2]
theorem anyR_strs (x : List Nat) (ws : List (List Nat)) : anyR (.str x) (ws.map D.str) = .ok (decide (x ∈ ws)) := by
  unfold anyR
  have e1 : okd deep (.str x) = true := rfl
  rw [e1, okds_strs, any_strs]; rfl
theorem isIn_tupS (x : List Nat) (ws : List (List Nat)) : isIn (.str x) (.tup (ws.map D.str)) = .ok (decide (x ∈ ws)) := anyR_strs x ws
@[simp] theorem isIn_tup2 (x a b : List Nat) : isIn (.str x) (.tup [.str a, .str b]) = .ok (decide (x = a) || decide (x = b)) := by
  have := isIn_tupS x [a, b]
  simpa using this
theorem fit_ok {n : Nat} {d : D} (h : n ≤ 4000) : fit n d = .ok d := by unfold fit; rw [if_pos (Nat.le_trans h (by decide))]
theorem isIn_lstS (x : List Nat) (ws : List (List Nat)) : isIn (.str x) (.lst (ws.map D.str)) = .ok (decide (x ∈ ws)) := anyR_strs x ws
theorem setRows_flat {l : List D} (h : ∀ w ∈ l, ∀ xs, w ≠ .tup xs) : setRows l = none := by
  cases l with
  | nil => rfl
  | cons w l =>
    have e : rowsOf (w :: l) = none := by
      cases w <;> first | rfl | exact absurd rfl (h _ List.mem_cons_self _)
    unfold setRows
    rw [e]
theorem sortset_flat {l : List D} (h : ∀ w ∈ l, ∀ xs, w ≠ .tup xs) : dSortset (.lst l) = dSortset0 (.lst l) := by
  show (match setRows l with
    | some rs => R.ok (D.lst (rs.map D.tup))
    | none => dSortset0 (.lst l)) = _
  rw [setRows_flat h]
end Ev

/-! Plain reckoning: normal forms, loops. -/
namespace Ev
section
variable {A B C : Type}
@[simp] theorem bind_assoc (x : R A) (f : A → R B) (g : B → R C) : R.bind (R.bind x f) g = R.bind x fun a => R.bind (f a) g := by cases x <;> rfl
@[simp] theorem out_bind (x : R A) (f : A → R B) (g : B → Out) : R.out (R.bind x f) g = R.out x fun a => R.out (f a) g := by cases x <;> rfl
@[simp] theorem thn_out (x : R A) (f : A → Out) (g : Env → Out) : (R.out x f).thn g = R.out x fun a => (f a).thn g := by cases x <;> rfl
@[simp] theorem ended_out (x : R A) (f : A → Out) : ended (R.out x f) = R.bind x fun a => ended (f a) := by cases x <;> rfl
@[simp] theorem ended_rt (d : D) : ended (.rt d) = .ok d := rfl
@[simp] theorem ended_nx (e : Env) : ended (.nx e) = .ok .non := rfl
@[simp] theorem ended_ex (c : Nat) : ended (.ex c) = .ex c := rfl
@[simp] theorem ended_no : ended .no = .no := rfl
theorem thn_if (c : Prop) [Decidable c] (a b : Out) (g : Env → Out) : (if c then a else b).thn g = if c then a.thn g else b.thn g := by split <;> rfl
theorem ended_if (c : Prop) [Decidable c] (a b : Out) : ended (if c then a else b) = if c then ended a else ended b := by split <;> rfl
theorem bind_if (c : Prop) [Decidable c] (a b : R A) (f : A → R B) : R.bind (if c then a else b) f = if c then R.bind a f else R.bind b f := by split <;> rfl
theorem out_if (c : Prop) [Decidable c] (a b : R A) (f : A → Out) : R.out (if c then a else b) f = if c then R.out a f else R.out b f := by split <;> rfl
end
section
variable {glob : Nat → R D} {fn : Nat → List D → R D} {refu : Nat → R D} {env : Env}
@[simp] theorem ev_emp : ev glob fn .emp env = .ok (.dic [] []) := rfl
@[simp] theorem ev_cat (a b : E) : ev glob fn (.cat a b) env = (ev glob fn a env).bind fun x => (ev glob fn b env).bind fun y => catL x y := rfl
theorem ev_lc (e : E) (t : T) (k : Ik) (args c : List E) (own : List Nat) : ev glob fn (.lc e t k args c own) env = (evs glob fn args env).bind fun ds => (walk k ds).bind fun xs =>
      (calmly (lcGo (fun x => bind t x (wipe env own)) (fun env' => evc glob fn c env') (fun env' => ev glob fn e env') xs)).bind fun rs => fit rs.length (.lst rs) := rfl
@[simp] theorem ev_get2 (o k x : E) : ev glob fn (.get2 o k x) env = (ev glob fn o env).bind fun a => if isDic a then (ev glob fn k env).bind fun y => (ev glob fn x env).bind fun z => dGet2 a y z else .no := rfl
@[simp] theorem ev_mt1 (m : Mt) (o a : E) : ev glob fn (.mt1 m o a) env = (ev glob fn o env).bind fun x => if mtOk m x then (ev glob fn a env).bind fun y => mt1 m x y else .no := rfl
@[simp] theorem ev_dct (ks : List Ky) (vs : List E) : ev glob fn (.dct ks vs) env = (evs glob fn vs env).bind fun es => if (ks.length = es.length && ks.length ≤ 15) && (!ks.isEmpty && nodupK ks) then .ok (.dic ks es) else .no := rfl
@[simp] theorem evc_nil : evc glob fn [] env = .ok true := rfl
@[simp] theorem evc_one (e : E) (r : List E) : evc glob fn (e :: r) env = (ev glob fn e env).bind fun x => asBool x := rfl
@[simp] theorem exS_own (t : T) (e : E) (uses : List Nat) : exS glob fn refu (.asg t e true uses) env = (ev glob fn e (mask uses env)).out fun d => if !fresh e then .no else (asgOut t true d (demote uses env)).out .nx := rfl
theorem exS_for (t : T) (k : Ik) (args : List E) (uses : List Nat) (body : List S) : exS glob fn refu (.for_ t k args uses body) env = (evs glob fn args (mask uses env)).out fun ds => (walk k ds).out fun xs =>
      forGo (fun x env' => bind t x env') (fun env' => exSs glob fn refu body env') (demote uses env) xs (demote uses env) := rfl
@[simp] theorem exS_app (i : Nat) (e : E) (uses : List Nat) : exS glob fn refu (.app i e uses) env = (ownAt env i).out fun o => match o with
    | .lst xs => (ev glob fn e (mask uses env)).out fun d => (ownAt (after d uses env) i).out fun _ =>
      if xs.length < lim then .nx ((after d uses env).set i (.ow (.lst (xs ++ [d])))) else .no
    | _ => .no := rfl
@[simp] theorem exS_ext (i : Nat) (e : E) (uses : List Nat) : exS glob fn refu (.ext i e uses) env = (ownAt env i).out fun o => match o with
    | .lst _ => (ev glob fn e (mask uses env)).out fun d => (ownAt (demote uses env) i).out fun o => match o, d with
      | .lst xs, .lst ys => if xs.length + ys.length ≤ lim then .nx ((demote uses env).set i (.ow (.lst (xs ++ ys)))) else .no
      | _, _ => .no
    | _ => .no := rfl
@[simp] theorem exS_put (i : Nat) (k v : E) (uses : List Nat) : exS glob fn refu (.put i k v uses) env = (ownAt env i).out fun _ => (ev glob fn v (mask uses env)).out fun d => (ev glob fn k (mask [] (after d uses env))).out fun kd =>
      if flat kd then (putOut i kd d (after d uses env)).out .nx else .no := rfl
@[simp] theorem exS_asgput (i j : Nat) (k e : E) (uses : List Nat) : exS glob fn refu (.asgput i j k e uses) env = (ownAt env j).out fun _ => if i = j then .no else (ev glob fn e (mask uses env)).out fun d => match d with
    | .tup [a, b] => (bind (.one i) a (after d uses env)).out fun env1 => (ev glob fn k (mask [] env1)).out fun kd => if flat kd then (putOut j kd b env1).out .nx else .no
    | _ => .no := rfl
@[simp] theorem exS_tryR (e : E) (i : Nat) : exS glob fn refu (.tryR e i) env = match ev glob fn e (open_ env) with
    | .ok d => .rt d
    | .ex c => (refu c).out .rt
    | .no => .no := rfl
end
@[simp] theorem wipe_nil (env : Env) : wipe env [] = env := rfl
@[simp] theorem wipe_cons (env : Env) (v : Nat) (vs : List Nat) : wipe env (v :: vs) = (wipe env vs).set v .no := rfl
@[simp] theorem flat_int (i : Int) : flat (.int i) = true := rfl
@[simp] theorem flat_str (l : List Nat) : flat (.str l) = true := rfl
@[simp] theorem flat_bl (b : Bool) : flat (.bl b) = true := rfl
@[simp] theorem flat_non : flat .non = true := rfl
@[simp] theorem flat_tup (xs : List D) : flat (.tup xs) = false := rfl
@[simp] theorem flat_lst (xs : List D) : flat (.lst xs) = false := rfl
@[simp] theorem flat_dic (ks : List Ky) (vs : List D) : flat (.dic ks vs) = false := rfl
@[simp] theorem fit_le (n : Nat) (h : n ≤ 4000) (d : D) : fit n d = .ok d := fit_ok h
@[simp] theorem ownAt_ow0 (d : D) (r : Env) : ownAt (.ow d :: r) 0 = .ok d := rfl
@[simp] theorem ownAt_sh0 (d : D) (r : Env) : ownAt (.sh d :: r) 0 = .no := rfl
@[simp] theorem ownAt_no0 (r : Env) : ownAt (.no :: r) 0 = .no := rfl
@[simp] theorem ownAt_succ (s : Sl) (r : Env) (i : Nat) : ownAt (s :: r) (i + 1) = ownAt r i := rfl
@[simp] theorem bi1_all (d : D) : bi1 .all_ d = dAll d := rfl
@[simp] theorem bi1_list (d : D) : bi1 .list d = dList d := rfl
@[simp] theorem bi1_tuple (d : D) : bi1 .tuple d = dTuple d := rfl
@[simp] theorem bi1_dict (d : D) : bi1 .dict d = dDict d := rfl
@[simp] theorem bi1_sorted (d : D) : bi1 .sorted d = Ev.sorted d := rfl
@[simp] theorem bi1_lenset (d : D) : bi1 .lenset d = dLenset d := rfl
@[simp] theorem dList_tup (xs : List D) : dList (.tup xs) = .ok (.lst xs) := rfl
@[simp] theorem dList_lst (xs : List D) : dList (.lst xs) = .ok (.lst xs) := rfl
@[simp] theorem dTuple_lst (xs : List D) : dTuple (.lst xs) = .ok (.tup xs) := rfl
@[simp] theorem dTuple_tup (xs : List D) : dTuple (.tup xs) = .ok (.tup xs) := rfl
@[simp] theorem dLen_tup (xs : List D) : dLen (.tup xs) = .ok (.int xs.length) := rfl
@[simp] theorem dLen_lst (xs : List D) : dLen (.lst xs) = .ok (.int xs.length) := rfl
@[simp] theorem walk_lst (xs : List D) : walk .val [.lst xs] = .ok xs := rfl
@[simp] theorem walk_tup (xs : List D) : walk .val [.tup xs] = .ok xs := rfl
@[simp] theorem walk_enumT (xs : List D) : walk .enum [.tup xs] = .ok (numbered 0 xs) := rfl
@[simp] theorem walk_enumL (xs : List D) : walk .enum [.lst xs] = .ok (numbered 0 xs) := rfl
@[simp] theorem rvs_tup (xs : List D) : rvs (.tup xs) = .ok (.tup xs.reverse) := rfl
@[simp] theorem rvs_lst (xs : List D) : rvs (.lst xs) = .ok (.lst xs.reverse) := rfl
@[simp] theorem isTyR_non (t : Ty) : isTyR t .non = .ok (.bl (isTy t .non)) := rfl
@[simp] theorem isTyR_bl (t : Ty) (b : Bool) : isTyR t (.bl b) = .ok (.bl (isTy t (.bl b))) := rfl
@[simp] theorem isTyR_int (t : Ty) (b : Int) : isTyR t (.int b) = .ok (.bl (isTy t (.int b))) := rfl
@[simp] theorem isTyR_str (t : Ty) (b : List Nat) : isTyR t (.str b) = .ok (.bl (isTy t (.str b))) := rfl
@[simp] theorem isTyR_tup (t : Ty) (b : List D) : isTyR t (.tup b) = .ok (.bl (isTy t (.tup b))) := rfl
@[simp] theorem isTyR_lst (t : Ty) (b : List D) : isTyR t (.lst b) = .ok (.bl (isTy t (.lst b))) := rfl
@[simp] theorem bop_addT (a b : List D) (h : a.length + b.length ≤ 4000) : bop .add (.tup a) (.tup b) = .ok (.tup (a ++ b)) := fit_ok h
@[simp] theorem bop_addL (a b : List D) (h : a.length + b.length ≤ 4000) : bop .add (.lst a) (.lst b) = .ok (.lst (a ++ b)) := fit_ok h
@[simp] theorem catL_ok (a b : List D) (h : a.length + b.length ≤ 4000) : catL (.lst a) (.lst b) = .ok (.lst (a ++ b)) := fit_ok h
@[simp] theorem slc_tup (xs : List D) (lo hi : Option Int) : slc (.tup xs) lo hi = .ok (.tup (cut xs lo hi)) := rfl
@[simp] theorem slc_lst (xs : List D) (lo hi : Option Int) : slc (.lst xs) lo hi = .ok (.lst (cut xs lo hi)) := rfl
@[simp] theorem isNul_nul : E.nul.isNul = true := rfl
@[simp] theorem isNul_var (i : Nat) : (E.var i).isNul = false := rfl
@[simp] theorem isNul_lit (d : D) : (E.lit d).isNul = false := rfl
@[simp] theorem isNul_bin (o : B2) (a b : E) : (E.bin o a b).isNul = false := rfl
@[simp] theorem isNul_call (f : Nat) (es : List E) : (E.call f es).isNul = false := rfl
@[simp] theorem isNul_bi1 (f : Bi) (a : E) : (E.bi1 f a).isNul = false := rfl
@[simp] theorem isNul_idx (a b : E) : (E.idx a b).isNul = false := rfl
@[simp] theorem cop_le (a b : Int) : cop .le (.int a) (.int b) = .ok (decide (a ≤ b)) := rfl
@[simp] theorem cop_ge (a b : Int) : cop .ge (.int a) (.int b) = .ok (decide (b ≤ a)) := rfl
@[simp] theorem cop_ltS (a b : List Nat) : cop .lt (.str a) (.str b) = .ok (decide (a < b)) := rfl
@[simp] theorem cop_leS (a b : List Nat) : cop .le (.str a) (.str b) = .ok (!decide (b < a)) := rfl
@[simp] theorem cop_is_non : cop .is_ .non .non = .ok true := rfl
@[simp] theorem cop_isnot_non : cop .isnot .non .non = .ok false := rfl
@[simp] theorem cop_is_tup (xs : List D) : cop .is_ (.tup xs) .non = .ok false := rfl
@[simp] theorem cop_isnot_tup (xs : List D) : cop .isnot (.tup xs) .non = .ok true := rfl
@[simp] theorem cop_is_str (xs : List Nat) : cop .is_ (.str xs) .non = .ok false := rfl
@[simp] theorem cop_isnot_str (xs : List Nat) : cop .isnot (.str xs) .non = .ok true := rfl
@[simp] theorem cop_is_int (i : Int) : cop .is_ (.int i) .non = .ok false := rfl
@[simp] theorem cop_isnot_int (i : Int) : cop .isnot (.int i) .non = .ok true := rfl
@[simp] theorem deqR_int (a b : Int) : deqR (.int a) (.int b) = .ok (decide (a = b)) := rfl
/-- a list's place -/
theorem idx_tup {xs : List D} {d : D} {k : Nat} (h : xs[k]? = some d) : idx (.tup xs) (.int k) = .ok d := by
  have hs : k < xs.length := (List.getElem?_eq_some_iff.mp h).1
  have hp : place xs.length (k : Int) = some k := by unfold place; rw [if_pos (by omega), if_pos (by omega)]; simp
  show (match (place xs.length k).bind (xs[·]?) with
    | some d => R.ok d
    | none => .no) = _
  rw [hp, Option.bind_some, h]
theorem idx_lst {xs : List D} {d : D} {k : Nat} (h : xs[k]? = some d) : idx (.lst xs) (.int k) = .ok d := by
  have hs : k < xs.length := (List.getElem?_eq_some_iff.mp h).1
  have hp : place xs.length (k : Int) = some k := by unfold place; rw [if_pos (by omega), if_pos (by omega)]; simp
  show (match (place xs.length k).bind (xs[·]?) with
    | some d => R.ok d
    | none => .no) = _
  rw [hp, Option.bind_some, h]
@[simp] theorem idx_t0 (a : D) (r : List D) : idx (.tup (a :: r)) (.int 0) = .ok a := idx_tup (k := 0) rfl
@[simp] theorem idx_t1 (a b : D) (r : List D) : idx (.tup (a :: b :: r)) (.int 1) = .ok b := idx_tup (k := 1) rfl
@[simp] theorem idx_t2 (a b c : D) (r : List D) : idx (.tup (a :: b :: c :: r)) (.int 2) = .ok c := idx_tup (k := 2) rfl
@[simp] theorem idx_t3 (a b c d : D) (r : List D) : idx (.tup (a :: b :: c :: d :: r)) (.int 3) = .ok d := idx_tup (k := 3) rfl
@[simp] theorem idx_t4 (a b c d e : D) (r : List D) : idx (.tup (a :: b :: c :: d :: e :: r)) (.int 4) = .ok e := idx_tup (k := 4) rfl
@[simp] theorem idx_t5 (a b c d e f : D) (r : List D) : idx (.tup (a :: b :: c :: d :: e :: f :: r)) (.int 5) = .ok f := idx_tup (k := 5) rfl
@[simp] theorem idx_l0 (a : D) (r : List D) : idx (.lst (a :: r)) (.int 0) = .ok a := idx_lst (k := 0) rfl
@[simp] theorem idx_l1 (a b : D) (r : List D) : idx (.lst (a :: b :: r)) (.int 1) = .ok b := idx_lst (k := 1) rfl
@[simp] theorem idx_l2 (a b c : D) (r : List D) : idx (.lst (a :: b :: c :: r)) (.int 2) = .ok c := idx_lst (k := 2) rfl
/-! ### loops as statements -/
theorem lc_run {glob : Nat → R D} {fn : Nat → List D → R D} {env : Env} {e : E} {t : T} {k : Ik} {args c : List E} {own : List Nat} {ds xs rs : List D} (h1 : evs glob fn args env = .ok ds) (h2 : walk k ds = .ok xs)
    (h3 : lcGo (fun x => bind t x (wipe env own)) (fun env' => evc glob fn c env') (fun env' => ev glob fn e env') xs = .ok rs) (h4 : rs.length ≤ 4000) : ev glob fn (.lc e t k args c own) env = .ok (.lst rs) := by
  rw [ev_lc, h1, R.bind_ok, h2, R.bind_ok, h3]
  exact fit_ok h4
section
variable {glob : Nat → R D} {fn : Nat → List D → R D} {refu : Nat → R D} {env : Env}
theorem for_run {t : T} {k : Ik} {args : List E} {uses : List Nat} {body ss : List S} {ds : List D} {xs : List D} {o : Out} (h1 : evs glob fn args (mask uses env) = .ok ds) (h2 : walk k ds = .ok xs)
    (h3 : forGo (fun x env' => bind t x env') (fun env' => exSs glob fn refu body env') (demote uses env) xs (demote uses env) = o) : exSs glob fn refu (.for_ t k args uses body :: ss) env = o.thn (exSs glob fn refu ss) := by
  rw [exSs_cons, exS_for, h1, R.out_ok, h2, R.out_ok, h3]
end
/-! ### walks -/
/-- a comprehension over items told by a -/
theorem lcGo_eq {A : Type} {bnd : D → R Env} {test : Env → R Bool} {elt : Env → R D} (enc : A → D) (p : A → Bool) (f : A → D) : ∀ (l : List A), (∀ a ∈ l, ∃ env', bnd (enc a) = .ok env' ∧ test env' = .ok (p a) ∧ (p a = true → elt env' = .ok (f a))) →
    lcGo bnd test elt (l.map enc) = .ok ((l.filter p).map f)
  | [], _ => rfl
  | a :: l, h => by
    obtain ⟨env', h1, h2, h3⟩ := h a List.mem_cons_self
    have ih := lcGo_eq enc p f l fun b hb => h b (List.mem_cons_of_mem _ hb)
    rw [List.map_cons]
    show (bnd (enc a)).bind (fun env => (test env).bind fun b => if b then (elt env).bind fun d => (lcGo bnd test elt (l.map enc)).bind fun r => .ok (d :: r) else lcGo bnd test elt (l.map enc)) = _
    rw [h1, R.bind_ok, h2, R.bind_ok, ih]
    cases hp : p a with
    | true => rw [if_pos rfl, h3 hp, List.filter_cons_of_pos hp]; rfl
    | false => rw [if_neg Bool.false_ne_true, List.filter_cons_of_neg (by rw [hp]; exact Bool.false_ne_true)]
/-- without a test -/
theorem lcGo_map {A : Type} {bnd : D → R Env} {elt : Env → R D} {test : Env → R Bool} (enc : A → D) (f : A → D) (l : List A) (h : ∀ a ∈ l, ∃ env', bnd (enc a) = .ok env' ∧ test env' = .ok true ∧ elt env' = .ok (f a)) : lcGo bnd test elt (l.map enc) = .ok (l.map f) := by
  rw [lcGo_eq enc (fun _ => true) f l fun a ha => let ⟨e, h1, h2, h3⟩ := h a ha; ⟨e, h1, h2, fun _ => h3⟩]
  rw [List.filter_eq_self.mpr (fun _ _ => rfl)]
theorem lcGo_id {bnd : D → R Env} {elt : Env → R D} {test : Env → R Bool} (f : D → D) (l : List D) (h : ∀ a ∈ l, ∃ env', bnd a = .ok env' ∧ test env' = .ok true ∧ elt env' = .ok (f a)) : lcGo bnd test elt l = .ok (l.map f) := by
  have := lcGo_map (enc := id) f l h
  rwa [List.map_id] at this
theorem lcGo_idp {bnd : D → R Env} {elt : Env → R D} {test : Env → R Bool} (p : D → Bool) (f : D → D) (l : List D) (h : ∀ a ∈ l, ∃ env', bnd a = .ok env' ∧ test env' = .ok (p a) ∧ (p a = true → elt env' = .ok (f a))) : lcGo bnd test elt l = .ok ((l.filter p).map f) := by
  have := lcGo_eq (enc := id) p f l h
  rwa [List.map_id] at this
@[simp] theorem calmly_ok {A : Type} (a : A) : calmly (.ok a) = .ok a := rfl
/-- a loop that runs through: a state St, told as an env -/
theorem forGo_eq {A St : Type} {bnd : D → Env → R Env} {body : Env → Out} {e0 : Env} (enc : A → D) (mk : St → Env) (step : St → A → St) : ∀ (l : List A) (s : St),
    (∀ (pre : List A) (a : A) (post : List A), l = pre ++ a :: post → ∃ env1 env2, bnd (enc a) (mk (pre.foldl step s)) = .ok env1 ∧ body env1 = .nx env2 ∧ refit e0 env2 = mk (step (pre.foldl step s) a)) →
    forGo bnd body e0 (l.map enc) (mk s) = .nx (mk (l.foldl step s))
  | [], s, _ => rfl
  | a :: l, s, h => by
    obtain ⟨env1, env2, h1, h2, h3⟩ := h [] a l rfl
    have ih := forGo_eq enc mk step l (step s a) fun pre b post e => h (a :: pre) b post (by rw [e]; rfl)
    show (bnd (enc a) (mk s)).out (fun env' => match body env' with
      | .nx env2 => forGo bnd body e0 (l.map enc) (refit e0 env2)
      | .rt d => .rt d
      | .ex c => .ex c
      | .no => .no) = _
    rw [show bnd (enc a) (mk s) = .ok env1 from h1, R.out_ok, h2]
    show forGo bnd body e0 (l.map enc) (refit e0 env2) = _
    rw [show refit e0 env2 = mk (step s a) from h3, ih]; rfl
/-- simpler: the step does not look back -/
theorem forGo_fold {A St : Type} {bnd : D → Env → R Env} {body : Env → Out} {e0 : Env} (enc : A → D) (mk : St → Env) (step : St → A → St) (P : St → Prop) (l : List A) (s : St) (h0 : P s)
    (h : ∀ s a, P s → a ∈ l → P (step s a) ∧ ∃ env1 env2, bnd (enc a) (mk s) = .ok env1 ∧ body env1 = .nx env2 ∧ refit e0 env2 = mk (step s a)) :
    forGo bnd body e0 (l.map enc) (mk s) = .nx (mk (l.foldl step s)) ∧ P (l.foldl step s) := by
  induction l generalizing s with
  | nil => exact ⟨rfl, h0⟩
  | cons a l ih =>
    obtain ⟨h1, env1, env2, g1, g2, g3⟩ := h s a h0 List.mem_cons_self
    obtain ⟨i1, i2⟩ := ih (step s a) h1 fun s b hs hb => h s b hs (List.mem_cons_of_mem _ hb)
    refine ⟨?_, i2⟩
    show (bnd (enc a) (mk s)).out (fun env' => match body env' with
      | .nx env2 => forGo bnd body e0 (l.map enc) (refit e0 env2)
      | .rt d => .rt d
      | .ex c => .ex c
      | .no => .no) = _
    rw [g1, R.out_ok, g2]
    show forGo bnd body e0 (l.map enc) (refit e0 env2) = _
    rw [g3, i1]; rfl
/-- a loop by what holds ahead of each turn -/
theorem forGo_inv {A St : Type} {bnd : D → Env → R Env} {body : Env → Out} {e0 : Env} (enc : A → D) (mk : St → Env) (P : List A → St → Prop) : ∀ (l : List A) (s : St), P l s →
    (∀ (a : A) (rest : List A) (s : St), P (a :: rest) s → ∃ s' env1 env2, P rest s' ∧ bnd (enc a) (mk s) = .ok env1 ∧ body env1 = .nx env2 ∧ refit e0 env2 = mk s') →
    ∃ s', P [] s' ∧ forGo bnd body e0 (l.map enc) (mk s) = .nx (mk s')
  | [], s, h0, _ => ⟨s, h0, rfl⟩
  | a :: l, s, h0, h => by
    obtain ⟨s1, env1, env2, h1, g1, g2, g3⟩ := h a l s h0
    obtain ⟨s2, i1, i2⟩ := forGo_inv enc mk P l s1 h1 h
    refine ⟨s2, i1, ?_⟩
    show (bnd (enc a) (mk s)).out (fun env' => match body env' with
      | .nx env2 => forGo bnd body e0 (l.map enc) (refit e0 env2)
      | .rt d => .rt d
      | .ex c => .ex c
      | .no => .no) = _
    rw [g1, R.out_ok, g2]
    show forGo bnd body e0 (l.map enc) (refit e0 env2) = _
    rw [g3, i2]
/-- a comprehension by what holds of each part -/
theorem lcGo_ex {A : Type} {bnd : D → R Env} {test : Env → R Bool} {elt : Env → R D} (enc : A → D) (Q : A → D → Prop) : ∀ (l : List A), (∀ a ∈ l, ∃ env' d, bnd (enc a) = .ok env' ∧ test env' = .ok true ∧ elt env' = .ok d ∧ Q a d) →
    ∃ ds, lcGo bnd test elt (l.map enc) = .ok ds ∧ ds.length = l.length ∧ ∀ (i : Nat) (a : A), l[i]? = some a → ∃ d, ds[i]? = some d ∧ Q a d
  | [], _ => ⟨[], rfl, rfl, fun i a e => by simp at e⟩
  | a :: l, h => by
    obtain ⟨env', d, h1, h2, h3, h4⟩ := h a List.mem_cons_self
    obtain ⟨ds, i1, i2, i3⟩ := lcGo_ex enc Q l fun b hb => h b (List.mem_cons_of_mem _ hb)
    refine ⟨d :: ds, ?_, by simp [i2], fun i b e => ?_⟩
    · show (bnd (enc a)).bind (fun env => (test env).bind fun b => if b then (elt env).bind fun d => (lcGo bnd test elt (l.map enc)).bind fun r => .ok (d :: r) else lcGo bnd test elt (l.map enc)) = _
      rw [h1, R.bind_ok, h2, R.bind_ok, if_pos rfl, h3, R.bind_ok, i1]; rfl
    · cases i with
      | zero => cases e; exact ⟨d, rfl, h4⟩
      | succ i => exact i3 i b e
/-- a loop over numbers -/
theorem forGo_rangeFrom {St : Type} {bnd : D → Env → R Env} {body : Env → Out} {e0 : Env} (mk : St → Env) (step : St → Nat → St) (P : Nat → St → Prop) : ∀ (c i : Nat) (s : St), P i s →
    (∀ (k : Nat) (s : St), i ≤ k → k < i + c → P k s → P (k + 1) (step s k) ∧ ∃ env1 env2, bnd (.int (k : Int)) (mk s) = .ok env1 ∧ body env1 = .nx env2 ∧ refit e0 env2 = mk (step s k)) →
    forGo bnd body e0 ((List.range' i c).map fun (k : Nat) => D.int (k : Int)) (mk s) = .nx (mk ((List.range' i c).foldl step s)) ∧ P (i + c) ((List.range' i c).foldl step s)
  | 0, i, s, h0, _ => ⟨rfl, h0⟩
  | c + 1, i, s, h0, h => by
    obtain ⟨h1, env1, env2, g1, g2, g3⟩ := h i s (Nat.le_refl _) (by omega) h0
    obtain ⟨i1, i2⟩ := forGo_rangeFrom (bnd := bnd) (body := body) (e0 := e0) mk step P c (i + 1) (step s i) h1 fun k s hk hc hp => h k s (by omega) (by omega) hp
    rw [List.range'_succ]
    refine ⟨?_, ?_⟩
    · show (bnd (.int (i : Int)) (mk s)).out (fun env' => match body env' with
        | .nx env2 => forGo bnd body e0 ((List.range' (i + 1) c).map fun (k : Nat) => D.int (k : Int)) (refit e0 env2)
        | .rt d => .rt d
        | .ex c => .ex c
        | .no => .no) = _
      rw [g1, R.out_ok, g2]
      show forGo bnd body e0 ((List.range' (i + 1) c).map fun (k : Nat) => D.int (k : Int)) (refit e0 env2) = _
      rw [g3, i1]; rfl
    · rw [List.foldl_cons, show i + (c + 1) = i + 1 + c by omega]; exact i2
theorem forGo_range {St : Type} {bnd : D → Env → R Env} {body : Env → Out} {e0 : Env} (mk : St → Env) (step : St → Nat → St) (P : Nat → St → Prop) (m : Nat) (s : St) (h0 : P 0 s)
    (h : ∀ (k : Nat) (s : St), k < m → P k s → P (k + 1) (step s k) ∧ ∃ env1 env2, bnd (.int (k : Int)) (mk s) = .ok env1 ∧ body env1 = .nx env2 ∧ refit e0 env2 = mk (step s k)) :
    forGo bnd body e0 ((List.range m).map fun (k : Nat) => D.int (k : Int)) (mk s) = .nx (mk ((List.range m).foldl step s)) ∧ P m ((List.range m).foldl step s) := by
  rw [List.range_eq_range']
  have := forGo_rangeFrom (bnd := bnd) (body := body) (e0 := e0) mk step P m 0 s h0 fun k s _ hk hp => h k s (by omega) hp
  rwa [Nat.zero_add] at this
/-- a loop that leaves nothing: each turn passes -/
theorem forGo_pass {A : Type} {bnd : D → Env → R Env} {body : Env → Out} {e0 env : Env} (enc : A → D) (l : List A) (h : ∀ a ∈ l, ∃ env1 env2, bnd (enc a) env = .ok env1 ∧ body env1 = .nx env2 ∧ refit e0 env2 = env) : forGo bnd body e0 (l.map enc) env = .nx env := by
  have := (forGo_fold (St := Unit) enc (fun _ => env) (fun _ _ => ()) (fun _ => True) l () trivial fun s a _ ha => ⟨trivial, h a ha⟩).1
  exact this
@[simp] theorem refit_nil (q : Env) : refit [] q = q := by cases q <;> rfl
@[simp] theorem refit_no (r : Env) (t : Sl) (q : Env) : refit (.no :: r) (t :: q) = .no :: refit r q := rfl
@[simp] theorem refit_sh (d : D) (r : Env) (t : Sl) (q : Env) : refit (.sh d :: r) (t :: q) = t :: refit r q := rfl
@[simp] theorem refit_ow (d : D) (r : Env) (t : Sl) (q : Env) : refit (.ow d :: r) (t :: q) = t :: refit r q := rfl
end Ev

/-! Steps: loops and comprehensions met in a goal. -/
namespace Ev
section
variable {glob : Nat → R D} {fn : Nat → List D → R D} {refu : Nat → R D} {env : Env}
/-- a loop by what holds ahead of each turn -/
theorem for_then {A St : Type} {t : T} {k : Ik} {args : List E} {uses : List Nat} {body ss : List S} {o : Out} (enc : A → D) (l : List A) (mk : St → Env) (P : List A → St → Prop) (s0 : St)
    (h1 : (evs glob fn args (mask uses env)).bind (walk k) = .ok (l.map enc)) (hm : demote uses env = mk s0) (h0 : P l s0)
    (hs : ∀ a rest s, P (a :: rest) s → ∃ s', P rest s' ∧ (bind t (enc a) (mk s)).out (fun e1 => (exSs glob fn refu body e1).thn fun e2 => .nx (refit (mk s0) e2)) = .nx (mk s'))
    (he : ∀ s, P [] s → exSs glob fn refu ss (mk s) = o) : exSs glob fn refu (.for_ t k args uses body :: ss) env = o := by
  have key : ∃ s', P [] s' ∧ forGo (fun x env' => bind t x env') (fun env' => exSs glob fn refu body env') (mk s0) (l.map enc) (mk s0) = .nx (mk s') := by
    refine forGo_inv enc mk P l s0 h0 fun a rest s hp => ?_
    obtain ⟨s', h1, h2⟩ := hs a rest s hp
    cases hb : bind t (enc a) (mk s) with
    | no => rw [hb] at h2; cases h2
    | ex c => rw [hb] at h2; cases h2
    | ok e1 =>
      rw [hb, R.out_ok] at h2
      cases hx : exSs glob fn refu body e1 with
      | nx e2 =>
        rw [hx, thn_nx] at h2
        injection h2 with h2
        exact ⟨s', e1, e2, h1, rfl, hx, h2⟩
      | rt d => rw [hx] at h2; cases h2
      | ex c => rw [hx] at h2; cases h2
      | no => rw [hx] at h2; cases h2
  obtain ⟨s', p1, p2⟩ := key
  rw [exSs_cons, exS_for]
  cases ha : evs glob fn args (mask uses env) with
  | no => rw [ha] at h1; cases h1
  | ex c => rw [ha] at h1; cases h1
  | ok ds =>
    rw [ha, R.bind_ok] at h1
    rw [R.out_ok, h1, R.out_ok, hm, p2, thn_nx]
    exact he s' p1
/-- a loop whose turns leave nothing -/
theorem for_pass {A : Type} {t : T} {k : Ik} {args : List E} {uses : List Nat} {body ss : List S} {o : Out} (enc : A → D) (l : List A) (e0 : Env)
    (h1 : (evs glob fn args (mask uses env)).bind (walk k) = .ok (l.map enc)) (hm : demote uses env = e0)
    (hs : ∀ a ∈ l, (bind t (enc a) e0).out (fun e1 => (exSs glob fn refu body e1).thn fun e2 => .nx (refit e0 e2)) = .nx e0)
    (he : exSs glob fn refu ss e0 = o) : exSs glob fn refu (.for_ t k args uses body :: ss) env = o :=
  for_then enc l (fun _ : Unit => e0) (fun r _ => ∀ a ∈ r, a ∈ l) () h1 hm (fun a h => h) (fun a rest s h => ⟨(), fun b hb => h b (List.mem_cons_of_mem _ hb), hs a (h a List.mem_cons_self)⟩) fun _ _ => he
theorem for_passX {A : Type} {t : T} {k : Ik} {args : List E} {uses : List Nat} {body ss : List S} {o : Out} (enc : A → D) (l : List A) (e0 : Env)
    (h1 : (evs glob fn args (mask uses env)).bind (walk k) = .ok (l.map enc)) (hm : demote uses env = e0)
    (hs : ∀ a ∈ l, ∃ e1 e2, bind t (enc a) e0 = .ok e1 ∧ exSs glob fn refu body e1 = .nx e2 ∧ refit e0 e2 = e0)
    (he : exSs glob fn refu ss e0 = o) : exSs glob fn refu (.for_ t k args uses body :: ss) env = o :=
  for_pass enc l e0 h1 hm (fun a ha => by
    obtain ⟨e1, e2, g1, g2, g3⟩ := hs a ha
    rw [g1, R.out_ok, g2, thn_nx, g3]) he
theorem for_thenX {A St : Type} {t : T} {k : Ik} {args : List E} {uses : List Nat} {body ss : List S} {o : Out} (enc : A → D) (l : List A) (mk : St → Env) (P : List A → St → Prop) (s0 : St)
    (h1 : (evs glob fn args (mask uses env)).bind (walk k) = .ok (l.map enc)) (hm : demote uses env = mk s0) (h0 : P l s0)
    (hs : ∀ a rest s, P (a :: rest) s → ∃ s' e1 e2, P rest s' ∧ bind t (enc a) (mk s) = .ok e1 ∧ exSs glob fn refu body e1 = .nx e2 ∧ refit (mk s0) e2 = mk s')
    (he : ∀ s, P [] s → exSs glob fn refu ss (mk s) = o) : exSs glob fn refu (.for_ t k args uses body :: ss) env = o :=
  for_then enc l mk P s0 h1 hm h0 (fun a rest s hp => by
    obtain ⟨s', e1, e2, g0, g1, g2, g3⟩ := hs a rest s hp
    exact ⟨s', g0, by rw [g1, R.out_ok, g2, thn_nx, g3]⟩) he
theorem exS_forL (t : T) (k : Ik) (args : List E) (uses : List Nat) (body : List S) : exS glob fn refu (.forL t k args uses body) env = (evs glob fn args (mask uses env)).out fun ds => (walk k ds).out fun xs => forGo (fun x env' => bind t x env') (fun env' => exSs glob fn refu body env') [] xs (demote uses env) := rfl
/-- a loop whose names stay -/
theorem forL_thenX {A St : Type} {t : T} {k : Ik} {args : List E} {uses : List Nat} {body ss : List S} {o : Out} (enc : A → D) (l : List A) (mk : St → Env) (P : List A → St → Prop) (s0 : St)
    (h1 : (evs glob fn args (mask uses env)).bind (walk k) = .ok (l.map enc)) (hm : demote uses env = mk s0) (h0 : P l s0)
    (hs : ∀ a rest s, P (a :: rest) s → ∃ s' e1, P rest s' ∧ bind t (enc a) (mk s) = .ok e1 ∧ exSs glob fn refu body e1 = .nx (mk s'))
    (he : ∀ s, P [] s → exSs glob fn refu ss (mk s) = o) : exSs glob fn refu (.forL t k args uses body :: ss) env = o := by
  have key : ∃ s', P [] s' ∧ forGo (fun x env' => bind t x env') (fun env' => exSs glob fn refu body env') [] (l.map enc) (mk s0) = .nx (mk s') := by
    refine forGo_inv enc mk P l s0 h0 fun a rest s hp => ?_
    obtain ⟨s', e1, g1, g2, g3⟩ := hs a rest s hp
    exact ⟨s', e1, _, g1, g2, g3, refit_nil _⟩
  obtain ⟨s', p1, p2⟩ := key
  rw [exSs_cons, exS_forL]
  cases ha : evs glob fn args (mask uses env) with
  | no => rw [ha] at h1; cases h1
  | ex c => rw [ha] at h1; cases h1
  | ok ds =>
    rw [ha, R.bind_ok] at h1
    rw [R.out_ok, h1, R.out_ok, hm, p2, thn_nx]
    exact he s' p1
/-- a comprehension: what is told of each -/
theorem lc_eq {A : Type} {e : E} {t : T} {k : Ik} {args c : List E} {own : List Nat} (enc : A → D) (l : List A) (p : A → Bool) (f : A → D)
    (h1 : (evs glob fn args env).bind (walk k) = .ok (l.map enc))
    (h2 : ∀ a ∈ l, (bind t (enc a) (wipe env own)).bind (fun e1 => (evc glob fn c e1).bind fun b => if b then (ev glob fn e e1).bind fun d => .ok (some d) else .ok none) = .ok (if p a then some (f a) else none))
    (h3 : l.length ≤ 4000) : ev glob fn (.lc e t k args c own) env = .ok (.lst ((l.filter p).map f)) := by
  cases ha : evs glob fn args env with
  | no => rw [ha] at h1; cases h1
  | ex c => rw [ha] at h1; cases h1
  | ok ds =>
    rw [ha, R.bind_ok] at h1
    refine lc_run ha h1 ?_ (by rw [List.length_map]; exact Nat.le_trans (List.length_filter_le _ _) h3)
    refine lcGo_eq enc p f l fun a hm => ?_
    have := h2 a hm
    cases hb : bind t (enc a) (wipe env own) with
    | no => rw [hb] at this; cases this
    | ex c => rw [hb] at this; cases this
    | ok e1 =>
      rw [hb, R.bind_ok] at this
      refine ⟨e1, rfl, ?_⟩
      cases hc : evc glob fn c e1 with
      | no => rw [hc] at this; cases this
      | ex c => rw [hc] at this; cases this
      | ok b =>
        rw [hc, R.bind_ok] at this
        cases b with
        | false =>
          rw [if_neg Bool.false_ne_true] at this
          injection this with this
          split at this
          · cases this
          · rename_i h; simp [h]
        | true =>
          rw [if_pos rfl] at this
          cases he : ev glob fn e e1 with
          | no => rw [he] at this; cases this
          | ex c => rw [he] at this; cases this
          | ok d =>
            rw [he, R.bind_ok] at this
            injection this with this
            split at this
            · rename_i h; injection this with this; simp [h, this]
            · cases this
/-- without a test -/
theorem lc_map {A : Type} {e : E} {t : T} {k : Ik} {args : List E} {own : List Nat} (enc : A → D) (l : List A) (f : A → D)
    (h1 : (evs glob fn args env).bind (walk k) = .ok (l.map enc))
    (h2 : ∀ a ∈ l, (bind t (enc a) (wipe env own)).bind (fun e1 => ev glob fn e e1) = .ok (f a))
    (h3 : l.length ≤ 4000) : ev glob fn (.lc e t k args [] own) env = .ok (.lst (l.map f)) := by
  rw [lc_eq enc l (fun _ => true) f h1 (fun a ha => ?_) h3, List.filter_eq_self.mpr (fun _ _ => rfl)]
  have := h2 a ha
  cases hb : bind t (enc a) (wipe env own) with
  | no => rw [hb] at this; cases this
  | ex c => rw [hb] at this; cases this
  | ok e1 =>
    rw [hb, R.bind_ok] at this
    rw [R.bind_ok, evc_nil, R.bind_ok, if_pos rfl, this]; rfl
end
@[simp] theorem bi1_rep (c : Nat) (z : List Nat) (d : D) : bi1 (.rep c z) d = dRep c z d := rfl
@[simp] theorem bi2_quote (d e : D) : bi2 .quote d e = dQuote d e := rfl
@[simp] theorem bi2_dct1 (d e : D) : bi2 .dct1 d e = dDct1 d e := rfl
@[simp] theorem bi1_sortset (d : D) : bi1 .sortset d = dSortset d := rfl
@[simp] theorem bi1_sum (d : D) : bi1 .sum d = dSum d := rfl
@[simp] theorem bi1_abs (d : D) : bi1 .abs_ d = dAbs d := rfl
@[simp] theorem bi1_str (d : D) : bi1 .str_ d = dStr d := rfl
theorem ended_is {o : Out} {d : D} (h : o = .rt d) : ended o = .ok d := by rw [h]; rfl
end Ev

namespace Ev
namespace Lp
def F_is_number : Nat := 0
def F_is_signs : Nat := 1
def F_is_name : Nat := 2
def F_is_worth : Nat := 3
def F_need_tongue : Nat := 4
def F_name_said : Nat := 5
def F_worth_said : Nat := 6
def F__law_cell : Nat := 7
def F__law_drawn : Nat := 8
def F__law_told : Nat := 9
def F__law_quoted : Nat := 10
def F__law_names : Nat := 11
def F__law_worths : Nat := 12
def F_law : Nat := 13
def G_MOST_NAME : Nat := 0
def G_MOST_TEXT : Nat := 1
def G_MOST_NUMBER : Nat := 2
def G_TONGUES : Nat := 3
def G_NAMES : Nat := 4
abbrev X_NoBook : Nat := 0
abbrev X_NoTable : Nat := 1
abbrev X_NoAsk : Nat := 2
abbrev X_Faulty : Nat := 3
abbrev X_NoName : Nat := 4
abbrev X_NoTongue : Nat := 5
abbrev X_NoText : Nat := 6
abbrev X_NoStore : Nat := 7
abbrev X_Taken : Nat := 8
abbrev X_NoPart : Nat := 9
def B_is_number : List S :=
   [(.ret (.and_ (.isi (.var 0) .int) (.and_ (.not_ (.isi (.var 0) .bool)) (.cmp2 .le .le (.var 1) (.var 0) (.var 2)))))]
def E_is_signs_1 : E := (.cmp2 .le .le (.lit (.str [32])) (.var 3) (.lit (.str [126])))
def B_is_signs : List S :=
   [(.ret (.and_ (.isi (.var 0) .str) (.and_ (.cmp2 .le .le (.var 1) (.bi1 .len (.var 0)) (.var 2)) (.bi1 .all_ (.lc E_is_signs_1 (.one 3) .val [(.var 0)] [] [3])))))]
def B_is_name : List S :=
   [(.ret (.call F_is_signs [(.var 0), (.lit (.int (1))), (.glo G_MOST_NAME)]))]
def B_is_worth : List S :=
   [(.ret (.or_ (.call F_is_number [(.var 0), (.bin .sub (.lit (.int (0))) (.glo G_MOST_NUMBER)), (.glo G_MOST_NUMBER)]) (.call F_is_signs [(.var 0), (.lit (.int (0))), (.glo G_MOST_TEXT)])))]
def B_need_tongue : List S :=
   [(.ite (.or_ (.not_ (.isi (.var 0) .str)) (.cmp .notin (.var 0) (.glo G_TONGUES))) [(.raise X_NoTongue (.lit .non))] [])]
def B_name_said : List S :=
   [(.exp (.call F_need_tongue [(.var 0)])),
    (.ite (.not_ (.call F_is_name [(.var 1)])) [(.raise X_NoName (.lit .non))] []),
    (.ret (.bi2 .quote (.idx (.glo G_NAMES) (.var 0)) (.var 1)))]
def B_worth_said : List S :=
   [(.exp (.call F_need_tongue [(.var 0)])),
    (.ite (.not_ (.call F_is_worth [(.var 1)])) [(.raise X_NoAsk (.lit .non))] []),
    (.ite (.not_ (.isi (.var 1) .str)) [(.ret (.bi1 .str_ (.var 1)))] []),
    (.ite (.cmp .eq (.var 0) (.lit (.str [116, 105, 99, 107]))) [(.ret (.bin .add (.bin .add (.lit (.str [39])) (.bi1 (.rep 39 [92, 39]) (.bi1 (.rep 92 [92, 92]) (.var 1)))) (.lit (.str [39]))))] []),
    (.ret (.bin .add (.bin .add (.lit (.str [39])) (.bi1 (.rep 39 [39, 39]) (.var 1))) (.lit (.str [39]))))]
def B__law_cell : List S :=
   [(.ite (.cmp .eq (.var 0) (.lst [])) [(.ret (.bin .mul (.lit (.int (7))) (.var 1)))] []),
    (.ret (.bin .add (.idx (.var 0) (.bin .mod (.var 1) (.bi1 .len (.var 0)))) (.bin .mul (.lit (.int (6553))) (.bin .fdiv (.var 1) (.bi1 .len (.var 0))))))]
def B__law_drawn : List S :=
   [(.asg (.one 3) (.bin .mod (.bin .add (.bin .mul (.bin .mod (.call F__law_cell [(.var 0), (.var 1)]) (.lit (.int (2147483563)))) (.lit (.int (69069)))) (.bin .mul (.lit (.int (104723))) (.bin .add (.var 1) (.lit (.int (1)))))) (.lit (.int (2147483563)))) false [0, 1, 1]),
    (.asg (.one 3) (.bin .mod (.bin .add (.bin .mul (.var 3) (.var 3)) (.bin .fdiv (.var 3) (.lit (.int (3))))) (.lit (.int (2147483399)))) false [3, 3, 3]),
    (.ret (.bin .mod (.bin .fdiv (.bin .mod (.bin .add (.bin .mul (.var 3) (.var 3)) (.bin .fdiv (.var 3) (.lit (.int (7))))) (.lit (.int (2147483647)))) (.lit (.int (11)))) (.var 2)))]
def B__law_told : List S :=
   [(.tryR (.ite (.cmp .eq (.var 0) (.lit (.int (0)))) (.call F_name_said [(.var 1), (.var 2)]) (.call F_worth_said [(.var 1), (.var 2)])) 3)]
def B__law_quoted_1 : List S := [(.asg (.one 4) (.bin .add (.bin .add (.var 4) (.ite (.cmp .isin (.var 5) (.var 3)) (.idx (.var 3) (.var 5)) (.lit (.str [])))) (.var 5)) false [4, 5, 3, 3, 5, 5])]
def B__law_quoted : List S :=
   [(.asg (.one 4) (.var 1) false [1]),
    (.for_ (.one 5) .val [(.var 0)] [0] B__law_quoted_1),
    (.ret (.bin .add (.var 4) (.var 2)))]
def B__law_names : List S :=
   [(.asg (.many [(.one 2), (.one 3)]) (.idx (.dct [(.s [100, 111, 117, 98, 108, 101]), (.s [98, 114, 97, 99, 107, 101, 116]), (.s [116, 105, 99, 107])] [(.tup [(.lit (.str [34])), (.lit (.str [34]))]), (.tup [(.lit (.str [91])), (.lit (.str [93]))]), (.tup [(.lit (.str [96])), (.lit (.str [96]))])]) (.var 0)) false [0]),
    (.ret (.call F__law_quoted [(.var 1), (.var 2), (.var 3), (.bi2 .dct1 (.var 3) (.var 3))]))]
def B__law_worths : List S :=
   [(.ite (.not_ (.isi (.var 1) .str)) [(.ret (.bin .add (.bin .mul (.lit (.str [45])) (.bi1 .int_ (.cmp .lt (.var 1) (.lit (.int (0)))))) (.bi1 .str_ (.bi1 .abs_ (.var 1)))))] []),
    (.ret (.call F__law_quoted [(.var 1), (.lit (.str [39])), (.lit (.str [39])), (.ite (.cmp .eq (.var 0) (.lit (.str [116, 105, 99, 107]))) (.dct [(.s [39]), (.s [92])] [(.lit (.str [92])), (.lit (.str [92]))]) (.dct [(.s [39])] [(.lit (.str [39]))]))]))]
def E_law_1 : E := (.idx (.var 1) (.call F__law_drawn [(.var 0), (.bin .add (.lit (.int (1))) (.var 7)), (.lit (.int (10)))]))
def E_law_2 : E := (.call F__law_told [(.lit (.int (0))), (.var 4), (.var 8)])
def E_law_3 : E := (.call F__law_names [(.var 4), (.var 8)])
def E_law_4 : E := (.call F__law_told [(.lit (.int (1))), (.var 4), (.var 9)])
def E_law_5 : E := (.call F__law_worths [(.var 4), (.var 9)])
def B_law_6 : List S := [(.ite (.cmp .ne (.call F__law_told [(.lit (.int (0))), (.var 4), (.var 5)]) (.tup [(.lit (.str [114, 101, 102, 117, 115, 101, 100])), (.lit (.int (4)))])) [(.ret (.lit (.bl false)))] [])]
def B_law_7 : List S := [(.ite (.cmp .ne (.call F__law_told [(.lit (.int (1))), (.var 4), (.var 5)]) (.tup [(.lit (.str [114, 101, 102, 117, 115, 101, 100])), (.lit (.int (2)))])) [(.ret (.lit (.bl false)))] [])]
def B_law_8 : List S := [(.ite (.cmp .ne (.lc E_law_2 (.one 8) .val [(.var 3)] [] [8]) (.lc E_law_3 (.one 8) .val [(.var 3)] [] [8])) [(.ret (.lit (.bl false)))] []),
    (.asg (.one 6) (.bin .add (.var 3) (.lst [(.lit (.str [])), (.bin .add (.var 2) (.lit (.str [39, 92, 39]))), (.lit (.int (0))), (.neg (.lit (.int (1)))), (.lit (.int (9999))), (.neg (.lit (.int (9999)))), (.bin .sub (.call F__law_drawn [(.var 0), (.lit (.int (20))), (.lit (.int (19999)))]) (.lit (.int (9999))))])) false [3, 2, 0]),
    (.ite (.cmp .ne (.lc E_law_4 (.one 9) .val [(.var 6)] [] [9]) (.lc E_law_5 (.one 9) .val [(.var 6)] [] [9])) [(.ret (.lit (.bl false)))] []),
    (.for_ (.one 5) .val [(.tup [(.lit (.str [])), (.lit (.str [97, 98, 99, 100, 101, 102, 103, 104, 105])), (.lit .non), (.lit (.int (5))), (.lit (.str [97, 10])), (.tup [(.lit (.str [97]))])])] [] B_law_6),
    (.for_ (.one 5) .val [(.tup [(.lit (.str [97, 98, 99, 100, 101, 102, 103, 104, 105, 106, 107, 108, 109])), (.lit .non), (.lit (.bl true)), (.lit (.int (10000))), (.neg (.lit (.int (10000)))), (.lit (.str [97, 10])), (.tup [(.lit (.str [97]))])])] [] B_law_7)]
def E_law_9 : E := (.call F__law_told [(.var 10), (.var 5), (.lit .non)])
def B_law_10 : List S := [(.ite (.cmp .ne (.lc E_law_9 (.one 10) .range [(.lit (.int (2)))] [] [10]) (.bin .mul (.lst [(.tup [(.lit (.str [114, 101, 102, 117, 115, 101, 100])), (.lit (.int (5)))])]) (.lit (.int (2))))) [(.ret (.lit (.bl false)))] [])]
def B_law : List S :=
   [(.asg (.one 1) (.lit (.str [32, 33, 34, 39, 96, 91, 93, 92, 97, 126])) false []),
    (.asg (.one 2) (.mt1 .join (.lit (.str [])) (.lc E_law_1 (.one 7) .range [(.bin .add (.lit (.int (1))) (.call F__law_drawn [(.var 0), (.lit (.int (0))), (.lit (.int (8)))]))] [] [7])) false [1, 0, 7, 0]),
    (.asg (.one 3) (.lst [(.var 2), (.lit (.str [97])), (.lit (.str [34])), (.lit (.str [93, 93])), (.lit (.str [91, 96, 96, 91])), (.lit (.str [96])), (.lit (.str [92, 92])), (.lit (.str [39])), (.lit (.str [92, 39])), (.lit (.str [39, 92])), (.lit (.str [97, 98, 99, 100, 101, 102, 103, 104])), (.lit (.str [32])), (.lit (.str [34, 34]))]) false [2]),
    (.for_ (.one 4) .val [(.tup [(.lit (.str [100, 111, 117, 98, 108, 101])), (.lit (.str [98, 114, 97, 99, 107, 101, 116])), (.lit (.str [116, 105, 99, 107]))])] [] B_law_8),
    (.for_ (.one 5) .val [(.tup [(.lit (.str [])), (.lit (.str [68, 111, 117, 98, 108, 101])), (.lit .non), (.lit (.int (1))), (.lit (.str [100, 111, 117, 98, 108])), (.tup [(.lit (.str [116, 105, 99, 107]))])])] [] B_law_10),
    (.ret (.lit (.bl true)))]
def V_MOST_NAME : D := (.int (8))
@[simp] theorem gv_MOST_NAME : V_MOST_NAME = (.int (8)) := rfl
def V_MOST_TEXT : D := (.int (12))
@[simp] theorem gv_MOST_TEXT : V_MOST_TEXT = (.int (12)) := rfl
def V_MOST_NUMBER : D := (.int (9999))
@[simp] theorem gv_MOST_NUMBER : V_MOST_NUMBER = (.int (9999)) := rfl
def V_TONGUES : D := (.tup [(.str [100, 111, 117, 98, 108, 101]), (.str [98, 114, 97, 99, 107, 101, 116]), (.str [116, 105, 99, 107])])
@[simp] theorem gv_TONGUES : V_TONGUES = (.tup [(.str [100, 111, 117, 98, 108, 101]), (.str [98, 114, 97, 99, 107, 101, 116]), (.str [116, 105, 99, 107])]) := rfl
def V_NAMES : D := (.gdc [[100, 111, 117, 98, 108, 101], [98, 114, 97, 99, 107, 101, 116], [116, 105, 99, 107]] [(.tup [(.str [34]), (.str [34])]), (.tup [(.str [91]), (.str [93])]), (.tup [(.str [96]), (.str [96])])])
@[simp] theorem gv_NAMES : V_NAMES = (.gdc [[100, 111, 117, 98, 108, 101], [98, 114, 97, 99, 107, 101, 116], [116, 105, 99, 107]] [(.tup [(.str [34]), (.str [34])]), (.tup [(.str [91]), (.str [93])]), (.tup [(.str [96]), (.str [96])])]) := rfl
def gl : Nat → R D
  | 0 => .ok V_MOST_NAME
  | 1 => .ok V_MOST_TEXT
  | 2 => .ok V_MOST_NUMBER
  | 3 => .ok V_TONGUES
  | 4 => .ok V_NAMES
  | _ => .no
def fds : Nat → Option Fd
  | 0 => some ⟨3, 3, B_is_number⟩
  | 1 => some ⟨3, 4, B_is_signs⟩
  | 2 => some ⟨1, 1, B_is_name⟩
  | 3 => some ⟨1, 1, B_is_worth⟩
  | 4 => some ⟨1, 1, B_need_tongue⟩
  | 5 => some ⟨2, 4, B_name_said⟩
  | 6 => some ⟨2, 2, B_worth_said⟩
  | 7 => some ⟨2, 2, B__law_cell⟩
  | 8 => some ⟨3, 4, B__law_drawn⟩
  | 9 => some ⟨3, 4, B__law_told⟩
  | 10 => some ⟨4, 6, B__law_quoted⟩
  | 11 => some ⟨2, 4, B__law_names⟩
  | 12 => some ⟨2, 2, B__law_worths⟩
  | 13 => some ⟨1, 11, B_law⟩
  | _ => none
def refd : List Nat := [114, 101, 102, 117, 115, 101, 100]
def rfu (c : Nat) : R D := if true = true ∧ c < 10 then .ok (.tup [.str refd, .int c]) else .no
def pr : Pr := ⟨gl, fds, rfu⟩
@[simp] theorem gl_MOST_NAME : gl G_MOST_NAME = .ok V_MOST_NAME := rfl
@[simp] theorem gl_MOST_TEXT : gl G_MOST_TEXT = .ok V_MOST_TEXT := rfl
@[simp] theorem gl_MOST_NUMBER : gl G_MOST_NUMBER = .ok V_MOST_NUMBER := rfl
@[simp] theorem gl_TONGUES : gl G_TONGUES = .ok V_TONGUES := rfl
@[simp] theorem gl_NAMES : gl G_NAMES = .ok V_NAMES := rfl
theorem fd_is_number : pr.fd F_is_number = some ⟨3, 3, B_is_number⟩ := rfl
theorem call_is_number (n : Nat) (a0 a1 a2 : D) : callF pr (n + 1) F_is_number [a0, a1, a2] = ended (exSs gl (callF pr n) rfu B_is_number [.sh a0, .sh a1, .sh a2]) := rfl
theorem fd_is_signs : pr.fd F_is_signs = some ⟨3, 4, B_is_signs⟩ := rfl
theorem call_is_signs (n : Nat) (a0 a1 a2 : D) : callF pr (n + 1) F_is_signs [a0, a1, a2] = ended (exSs gl (callF pr n) rfu B_is_signs [.sh a0, .sh a1, .sh a2, .no]) := rfl
theorem fd_is_name : pr.fd F_is_name = some ⟨1, 1, B_is_name⟩ := rfl
theorem call_is_name (n : Nat) (a0 : D) : callF pr (n + 1) F_is_name [a0] = ended (exSs gl (callF pr n) rfu B_is_name [.sh a0]) := rfl
theorem fd_is_worth : pr.fd F_is_worth = some ⟨1, 1, B_is_worth⟩ := rfl
theorem call_is_worth (n : Nat) (a0 : D) : callF pr (n + 1) F_is_worth [a0] = ended (exSs gl (callF pr n) rfu B_is_worth [.sh a0]) := rfl
theorem fd_need_tongue : pr.fd F_need_tongue = some ⟨1, 1, B_need_tongue⟩ := rfl
theorem call_need_tongue (n : Nat) (a0 : D) : callF pr (n + 1) F_need_tongue [a0] = ended (exSs gl (callF pr n) rfu B_need_tongue [.sh a0]) := rfl
theorem fd_name_said : pr.fd F_name_said = some ⟨2, 4, B_name_said⟩ := rfl
theorem call_name_said (n : Nat) (a0 a1 : D) : callF pr (n + 1) F_name_said [a0, a1] = ended (exSs gl (callF pr n) rfu B_name_said [.sh a0, .sh a1, .no, .no]) := rfl
theorem fd_worth_said : pr.fd F_worth_said = some ⟨2, 2, B_worth_said⟩ := rfl
theorem call_worth_said (n : Nat) (a0 a1 : D) : callF pr (n + 1) F_worth_said [a0, a1] = ended (exSs gl (callF pr n) rfu B_worth_said [.sh a0, .sh a1]) := rfl
theorem fd__law_cell : pr.fd F__law_cell = some ⟨2, 2, B__law_cell⟩ := rfl
theorem call__law_cell (n : Nat) (a0 a1 : D) : callF pr (n + 1) F__law_cell [a0, a1] = ended (exSs gl (callF pr n) rfu B__law_cell [.sh a0, .sh a1]) := rfl
theorem fd__law_drawn : pr.fd F__law_drawn = some ⟨3, 4, B__law_drawn⟩ := rfl
theorem call__law_drawn (n : Nat) (a0 a1 a2 : D) : callF pr (n + 1) F__law_drawn [a0, a1, a2] = ended (exSs gl (callF pr n) rfu B__law_drawn [.sh a0, .sh a1, .sh a2, .no]) := rfl
theorem fd__law_told : pr.fd F__law_told = some ⟨3, 4, B__law_told⟩ := rfl
theorem call__law_told (n : Nat) (a0 a1 a2 : D) : callF pr (n + 1) F__law_told [a0, a1, a2] = ended (exSs gl (callF pr n) rfu B__law_told [.sh a0, .sh a1, .sh a2, .no]) := rfl
theorem fd__law_quoted : pr.fd F__law_quoted = some ⟨4, 6, B__law_quoted⟩ := rfl
theorem call__law_quoted (n : Nat) (a0 a1 a2 a3 : D) : callF pr (n + 1) F__law_quoted [a0, a1, a2, a3] = ended (exSs gl (callF pr n) rfu B__law_quoted [.sh a0, .sh a1, .sh a2, .sh a3, .no, .no]) := rfl
theorem fd__law_names : pr.fd F__law_names = some ⟨2, 4, B__law_names⟩ := rfl
theorem call__law_names (n : Nat) (a0 a1 : D) : callF pr (n + 1) F__law_names [a0, a1] = ended (exSs gl (callF pr n) rfu B__law_names [.sh a0, .sh a1, .no, .no]) := rfl
theorem fd__law_worths : pr.fd F__law_worths = some ⟨2, 2, B__law_worths⟩ := rfl
theorem call__law_worths (n : Nat) (a0 a1 : D) : callF pr (n + 1) F__law_worths [a0, a1] = ended (exSs gl (callF pr n) rfu B__law_worths [.sh a0, .sh a1]) := rfl
theorem fd_law : pr.fd F_law = some ⟨1, 11, B_law⟩ := rfl
theorem call_law (n : Nat) (a0 : D) : callF pr (n + 1) F_law [a0] = ended (exSs gl (callF pr n) rfu B_law [.sh a0, .no, .no, .no, .no, .no, .no, .no, .no, .no, .no]) := rfl
end Lp
end Ev

/-! What is drawn. -/
namespace Ev
namespace Lp
theorem bop_mod {a b : Int} (h : 0 < b) : bop .mod (.int a) (.int b) = .ok (.int (a % b)) := if_pos h
theorem bop_fdiv {a b : Int} (h : 0 < b) (h2 : b < 1073741824) : bop .fdiv (.int a) (.int b) = .ok (.int (a / b)) := by
  show (if (0 < b && b < 1073741824 : Bool) then R.ok (D.int (a / b)) else .no) = _
  rw [if_pos (by simp [h, h2])]
theorem bop_mulL {a b : Int} (h : a.natAbs < 18446744073709551616) : bop .mul (.int a) (.int b) = .ok (.int (a * b)) := by
  show (if (a.natAbs < 18446744073709551616 || b.natAbs < 18446744073709551616 : Bool) then R.ok (D.int (a * b)) else .no) = _
  rw [if_pos (by simp [h])]
theorem bop_mulR {a b : Int} (h : b.natAbs < 18446744073709551616) : bop .mul (.int a) (.int b) = .ok (.int (a * b)) := by
  show (if (a.natAbs < 18446744073709551616 || b.natAbs < 18446744073709551616 : Bool) then R.ok (D.int (a * b)) else .no) = _
  rw [if_pos (by simp [h])]
@[simp] theorem bop_sub (a b : Int) : bop .sub (.int a) (.int b) = .ok (.int (a - b)) := rfl
/-- the cell at a place -/
def cellZ (ns : List Int) (k : Int) : Int := if ns = [] then 7 * k else ns.getD (k % ns.length).toNat 0 + 6553 * (k / ns.length)
def drawZ (ns : List Int) (k m : Int) : Int :=
  let c := (cellZ ns k % 2147483563 * 69069 + 104723 * (k + 1)) % 2147483563
  let c2 := (c * c + c / 3) % 2147483399
  (c2 * c2 + c2 / 7) % 2147483647 / 11 % m
theorem drawZ_nonneg (ns : List Int) (k : Int) {m : Int} (h : 0 < m) : 0 ≤ drawZ ns k m := Int.emod_nonneg _ (by omega)
theorem drawZ_lt (ns : List Int) (k : Int) {m : Int} (h : 0 < m) : drawZ ns k m < m := Int.emod_lt_of_pos _ h
section
variable (n : Nat) {ns : List Int} (hn : ns.length ≤ 63)
include hn
theorem law_cell (k : Int) : callF pr (n + 1) F__law_cell [.scr ns, .int k] = .ok (.int (cellZ ns k)) := by
  rw [call__law_cell]
  unfold B__law_cell
  have hf : fit 0 (D.lst []) = .ok (.lst []) := rfl
  have hd : deqR (.scr ns) (.lst []) = .ok ns.isEmpty := rfl
  cases ns with
  | nil => simp [hf, hd, bop_mulL, cellZ]
  | cons x xs =>
    have hlen : dLen (.scr (x :: xs)) = .ok (.int ((x :: xs).length : Nat)) := rfl
    have hp : (0 : Int) < ((x :: xs).length : Nat) := by rw [List.length_cons]; omega
    have hs : (((x :: xs).length : Nat) : Int) < 1073741824 := by omega
    have hm0 : 0 ≤ k % ((x :: xs).length : Nat) := Int.emod_nonneg _ (by omega)
    have hm1 : k % ((x :: xs).length : Nat) < ((x :: xs).length : Nat) := Int.emod_lt_of_pos _ hp
    have hpl : place (x :: xs).length (k % ((x :: xs).length : Nat)) = some (k % ((x :: xs).length : Nat)).toNat := by
      unfold place
      rw [if_pos hm0, if_pos hm1]
    have hlt : (k % ((x :: xs).length : Nat)).toNat < (x :: xs).length := by omega
    have hi : idx (.scr (x :: xs)) (.int (k % ((x :: xs).length : Nat))) = .ok (.int ((x :: xs).getD (k % ((x :: xs).length : Nat)).toNat 0)) := by
      show (match (place (x :: xs).length (k % ((x :: xs).length : Nat))).bind ((x :: xs)[·]?) with
        | some n => R.ok (D.int n)
        | none => .no) = _
      rw [hpl, Option.bind_some, List.getElem?_eq_getElem hlt, List.getD_eq_getElem?_getD, List.getElem?_eq_getElem hlt]; rfl
    have hc : cellZ (x :: xs) k = (x :: xs).getD (k % ((x :: xs).length : Nat)).toNat 0 + 6553 * (k / ((x :: xs).length : Nat)) := if_neg (by simp)
    rw [hc]
    generalize hL : (((x :: xs).length : Nat) : Int) = L at hp hs hi hlen
    simp only [exSs_cons, exS_ite, exSs_nil, exS_ret, open_sh, open_nil, ev_cmp, ev_var, look_zero, look_succ, val_sh, R.bind_ok, ev_lst, evs_nil, List.length_nil, hf, cop_eq, hd, List.isEmpty_cons, asBool_bl, R.out_ok, Bool.false_eq_true, if_false, thn_nx, ev_bin, ev_idx, ev_bi1, bi1_len, hlen, bop_mod hp, hi, ev_lit, bop_fdiv hp hs,
      bop_mulL (show (6553 : Int).natAbs < 18446744073709551616 by decide), bop_add, thn_rt, ended_rt]
theorem big_mod (y b : Int) (h1 : 0 < b) (h2 : b ≤ 2147483648) : (y % b).natAbs < 18446744073709551616 := by
  have a1 := Int.emod_nonneg y (show b ≠ 0 by omega)
  have a2 := Int.emod_lt_of_pos y h1
  omega
theorem law_drawn (k : Int) {m : Int} (hm : 0 < m) : callF pr (n + 2) F__law_drawn [.scr ns, .int k, .int m] = .ok (.int (drawZ ns k m)) := by
  rw [call__law_drawn]
  have hx := law_cell n hn k
  unfold B__law_drawn
  unfold drawZ
  have b1 := big_mod hn (cellZ ns k % 2147483563 * 69069 + 104723 * (k + 1)) 2147483563 (by decide) (by decide)
  have b2 := fun c : Int => big_mod hn (c * c + c / 3) 2147483399 (by decide) (by decide)
  have fl : ∀ i : Int, flat (.int i) = true := fun _ => rfl
  simp only [exSs_cons, exS_asg, mask_K, maskK_sh, maskK_no, maskK_nil, ev_bin, ev_call, evs_cons, ev_var, look_zero, look_succ, val_sh, R.bind_ok, evs_nil, hx, ev_lit, bop_mod (show (0 : Int) < 2147483563 by decide), bop_mulR (show (69069 : Int).natAbs < 18446744073709551616 by decide), bop_add, bop_mulL (show (104723 : Int).natAbs < 18446744073709551616 by decide), R.out_ok,
    after_K, fl, if_true, bind_one, List.length_cons, List.length_nil, List.set_cons_zero, List.set_cons_succ, Nat.lt_add_one, Nat.reduceAdd, Nat.reduceLT, thn_nx]
  simp only [exSs_cons, exS_asg, mask_K, maskK_sh, maskK_no, maskK_nil, ev_bin, ev_var, look_zero, look_succ, val_sh, R.bind_ok, ev_lit, bop_mod (show (0 : Int) < 2147483399 by decide), bop_mulL b1, bop_add, bop_fdiv (show (0 : Int) < 3 by decide) (show (3 : Int) < 1073741824 by decide), R.out_ok,
    after_K, fl, if_true, bind_one, List.length_cons, List.length_nil, List.set_cons_zero, List.set_cons_succ, Nat.lt_add_one, Nat.reduceAdd, Nat.reduceLT, thn_nx]
  simp only [exSs_cons, exS_ret, open_sh, open_nil, ev_bin, ev_var, look_zero, look_succ, val_sh, R.bind_ok, ev_lit, bop_mod (show (0 : Int) < 2147483647 by decide), bop_mulL (b2 _), bop_add, bop_fdiv (show (0 : Int) < 7 by decide) (show (7 : Int) < 1073741824 by decide), bop_fdiv (show (0 : Int) < 11 by decide) (show (11 : Int) < 1073741824 by decide), bop_mod hm, R.out_ok, thn_rt, ended_rt]
end
end Lp
end Ev

/-! Names and worths as the tongues say them. -/
namespace Ev
namespace Lp
abbrev Tx := List Nat
def NameOK (l : Tx) : Prop := 1 ≤ l.length ∧ l.length ≤ 8 ∧ ∀ c ∈ l, 32 ≤ c ∧ c ≤ 126
theorem okds_all : ∀ (n : Nat) (l : List D), (∀ e ∈ l, okd n e = true) → okds n l = true
  | _, [], _ => by unfold okds; rfl
  | n, e :: l, h => by
    unfold okds
    rw [h e List.mem_cons_self, okds_all n l fun x hx => h x (List.mem_cons_of_mem _ hx)]; rfl
mutual
theorem deq_refl : ∀ (n : Nat) (d : D), okd n d = true → deq d d = true
  | _, .non, _ => rfl
  | _, .bl b, _ => by show (b == b) = true; simp
  | _, .int i, _ => by show (i == i) = true; simp
  | _, .str l, _ => by show (l == l) = true; simp
  | n + 1, .tup xs, h => deqs_refl n xs h
  | n + 1, .lst xs, h => deqs_refl n xs h
  | 0, .tup _, h => by cases h
  | 0, .lst _, h => by cases h
  | 0, .dic _ _, h => by cases h
  | _ + 1, .dic _ _, h => by cases h
  | 0, .scr _, h => by cases h
  | _ + 1, .scr _, h => by cases h
  | 0, .gdc _ _, h => by cases h
  | _ + 1, .gdc _ _, h => by cases h
  | 0, .adr _, h => by cases h
  | _ + 1, .adr _, h => by cases h
theorem deqs_refl : ∀ (n : Nat) (l : List D), okds n l = true → deqs l l = true
  | _, [], _ => rfl
  | n, d :: l, h => by
    have h' : okd n d = true ∧ okds n l = true := by unfold okds at h; exact Bool.and_eq_true_iff.mp h
    show (deq d d && deqs l l) = true
    rw [deq_refl n d h'.1, deqs_refl n l h'.2]; rfl
end
theorem deqR_plain (a b : D) (ha : ∀ ns, a ≠ .scr ns) (hb : ∀ ns, b ≠ .scr ns) : deqR a b = if okd deep a && okd deep b then .ok (deq a b) else .no := by
  unfold deqR
  split
  · rename_i ns; exact absurd rfl (ha ns)
  · rename_i ns _; exact absurd rfl (ha ns)
  · rename_i ns _; exact absurd rfl (hb ns)
  · rfl
theorem deqR_refl {d : D} (h : okd deep d = true) (hs : ∀ ns, d ≠ .scr ns) : deqR d d = .ok true := by
  rw [deqR_plain d d hs hs, h, deq_refl _ d h]; rfl
theorem deqR_lst {l : List D} (h : ∀ e ∈ l, okd 59 e = true) : deqR (.lst l) (.lst l) = .ok true := deqR_refl (okds_all 59 l h) (fun ns z => by cases z)
theorem okd_strs (k : Nat) (l : Tx) : okd k (.str l) = true := by cases k <;> rfl
theorem bools_map {A : Type} (f : A → Bool) : ∀ l : List A, boolsOf (l.map fun a => D.bl (f a)) = some (l.map f)
  | [] => rfl
  | a :: l => by show (boolsOf (l.map fun a => D.bl (f a))).map _ = _; rw [bools_map f l]; rfl
theorem dAll_map {A : Type} (f : A → Bool) (l : List A) : dAll (.lst (l.map fun a => D.bl (f a))) = .ok (.bl (l.all f)) := by
  show (match boolsOf (l.map fun a => D.bl (f a)) with
    | some bs => R.ok (D.bl (bs.all id))
    | none => .no) = _
  rw [bools_map]
  show R.ok (D.bl ((l.map f).all id)) = _
  rw [List.all_map]; rfl
theorem lt_one (a b : Nat) : (([a] : Tx) < [b]) ↔ a < b := by simp [List.cons_lt_cons_iff]
def plainB (c : Nat) : Bool := decide (32 ≤ c) && decide (c ≤ 126)
theorem signs_lc (n : Nat) (l : Tx) (hl : l.length ≤ 1000) (s1 s2 : Sl) : ev gl (callF pr n) (.lc (.cmp2 .le .le (.lit (.str [32])) (.var 3) (.lit (.str [126]))) (.one 3) .val [(.var 0)] [] [3]) [.sh (.str l), s1, s2, .no] = .ok (.lst (l.map fun c => .bl (plainB c))) := by
  refine lc_run (ds := [.str l]) rfl (show walk .val [.str l] = .ok (l.map fun c => .str [c]) from ?_) ?_ (by simp; omega)
  · show (if l.length ≤ lim then _ else _) = _
    rw [if_pos (Nat.le_trans hl (by decide))]
  · refine lcGo_map _ _ _ fun c hc => ⟨_, rfl, rfl, ?_⟩
    by_cases h : c < 32
    · have : ¬ 32 ≤ c := by omega
      simp [lt_one, h, plainB, this]
    · have : 32 ≤ c := by omega
      by_cases h2 : 126 < c
      · have : ¬ c ≤ 126 := by omega
        simp [lt_one, h, plainB, *]
      · have : c ≤ 126 := by omega
        simp [lt_one, h, plainB, *]
theorem is_signs (n : Nat) (l : Tx) (hl : l.length ≤ 1000) (lo hi : Int) : callF pr (n + 1) F_is_signs [.str l, .int lo, .int hi] = .ok (.bl (decide (lo ≤ l.length) && (decide ((l.length : Int) ≤ hi) && l.all plainB))) := by
  rw [call_is_signs]
  unfold B_is_signs
  have hlc := signs_lc n l hl (.sh (.int lo)) (.sh (.int hi))
  unfold E_is_signs_1
  by_cases h1 : lo ≤ l.length
  · by_cases h2 : (l.length : Int) ≤ hi
    · simp [isTy, dLen_str hl, h1, h2, hlc, dAll_map]
    · simp [isTy, dLen_str hl, h1, h2]
  · simp [isTy, dLen_str hl, h1]
theorem is_signs_no (n : Nat) (d : D) (a b : D) (h : isTyR .str d = .ok (.bl false)) : callF pr (n + 1) F_is_signs [d, a, b] = .ok (.bl false) := by
  rw [call_is_signs]
  unfold B_is_signs
  simp [h]
theorem all_plain {l : Tx} (h : ∀ c ∈ l, 32 ≤ c ∧ c ≤ 126) : l.all plainB = true := by
  rw [List.all_eq_true]
  intro c hc
  have := h c hc
  simp [plainB, this]
theorem is_name (n : Nat) {l : Tx} (h : NameOK l) : callF pr (n + 2) F_is_name [.str l] = .ok (.bl true) := by
  rw [call_is_name]
  unfold B_is_name
  have := is_signs n l (by have := h.2.1; omega) 1 8
  rw [all_plain h.2.2] at this
  have h1 : (1 : Int) ≤ l.length := by have := h.1; omega
  have h2 : (l.length : Int) ≤ 8 := by have := h.2.1; omega
  simp [h1, h2] at this
  simp [this]
theorem is_number_int (n : Nat) (v lo hi : Int) : callF pr (n + 1) F_is_number [.int v, .int lo, .int hi] = .ok (.bl (decide (lo ≤ v) && decide (v ≤ hi))) := by
  rw [call_is_number]
  unfold B_is_number
  by_cases h : lo ≤ v <;> simp [isTy, h]

theorem is_number_str (n : Nat) (l : Tx) (a b : D) : callF pr (n + 1) F_is_number [.str l, a, b] = .ok (.bl false) := by
  rw [call_is_number]
  unfold B_is_number
  simp [isTy]
theorem is_worth_str (n : Nat) {l : Tx} (h : l.length ≤ 12) (h2 : ∀ c ∈ l, 32 ≤ c ∧ c ≤ 126) : callF pr (n + 2) F_is_worth [.str l] = .ok (.bl true) := by
  rw [call_is_worth]
  unfold B_is_worth
  have := is_signs n l (by omega) 0 12
  rw [all_plain h2] at this
  have h0 : (l.length : Int) ≤ 12 := by omega
  simp [h0] at this
  simp [is_number_str, this]
theorem is_worth_int (n : Nat) {v : Int} (h : -9999 ≤ v) (h2 : v ≤ 9999) : callF pr (n + 2) F_is_worth [.int v] = .ok (.bl true) := by
  rw [call_is_worth]
  unfold B_is_worth
  have := is_number_int n v (-9999) 9999
  simp [h, h2] at this
  simp [this]
def tDouble : Tx := [100, 111, 117, 98, 108, 101]
def tBracket : Tx := [98, 114, 97, 99, 107, 101, 116]
def tTick : Tx := [116, 105, 99, 107]
/-- a tongue, and its two signs -/
structure Tng (t : Tx) (b e : Nat) : Prop where
  need : ∀ n, callF pr (n + 1) F_need_tongue [.str t] = .ok .non
  at_ : idx V_NAMES (.str t) = .ok (.tup [.str [b], .str [e]])
  own : idx (.dic [(.s [100, 111, 117, 98, 108, 101]), (.s [98, 114, 97, 99, 107, 101, 116]), (.s [116, 105, 99, 107])] [.tup [.str [34], .str [34]], .tup [.str [91], .str [93]], .tup [.str [96], .str [96]]]) (.str t) = .ok (.tup [.str [b], .str [e]])
theorem need_ok (n : Nat) (t : Tx) (h : t = tDouble ∨ t = tBracket ∨ t = tTick) : callF pr (n + 1) F_need_tongue [.str t] = .ok .non := by
  rw [call_need_tongue]
  rcases h with rfl | rfl | rfl <;> rfl
theorem tng_double : Tng tDouble 34 34 := ⟨fun n => need_ok n _ (.inl rfl), rfl, rfl⟩
theorem tng_bracket : Tng tBracket 91 93 := ⟨fun n => need_ok n _ (.inr (.inl rfl)), rfl, rfl⟩
theorem tng_tick : Tng tTick 96 96 := ⟨fun n => need_ok n _ (.inr (.inr rfl)), rfl, rfl⟩
def quoT (b e : Nat) (l : Tx) : Tx := [b] ++ repl1 e [e, e] l ++ [e]
theorem name_said (n : Nat) {t : Tx} {b e : Nat} (T : Tng t b e) {l : Tx} (h : NameOK l) : callF pr (n + 3) F_name_said [.str t, .str l] = .ok (.str (quoT b e l)) := by
  rw [call_name_said]
  unfold B_name_said
  have h1 := T.need (n + 1)
  have h2 := is_name n h
  have h3 := T.at_
  have h4 : dQuote (.tup [.str [b], .str [e]]) (.str l) = .ok (.str (quoT b e l)) := by
    show (if l.length ≤ 1000 && ([b] : List Nat).length ≤ 10 then _ else _) = _
    have := h.2.1
    rw [if_pos (by simp; omega)]; rfl
  unfold V_NAMES at h3
  simp [h1, h2, h3, h4]
theorem rep_len (c : Nat) (z : Tx) (hz : z.length ≤ 2) : ∀ l : Tx, (repl1 c z l).length ≤ 2 * l.length
  | [] => Nat.le_refl _
  | d :: l => by
    have ih := rep_len c z hz l
    have e : repl1 c z (d :: l) = (if d = c then z else [d]) ++ repl1 c z l := rfl
    rw [e, List.length_append, List.length_cons]
    split <;> simp <;> omega
def sayT (tick : Bool) (l : Tx) : Tx := [39] ++ (if tick then repl1 39 [92, 39] (repl1 92 [92, 92] l) else repl1 39 [39, 39] l) ++ [39]
theorem worth_said (n : Nat) {t : Tx} {b e : Nat} (T : Tng t b e) {l : Tx} (h : l.length ≤ 12) (h2 : ∀ c ∈ l, 32 ≤ c ∧ c ≤ 126) : callF pr (n + 3) F_worth_said [.str t, .str l] = .ok (.str (sayT (decide (t = tTick)) l)) := by
  rw [call_worth_said]
  unfold B_worth_said
  have h1 := T.need (n + 1)
  have h3 := is_worth_str n h h2
  have r0 := rep_len 92 [92, 92] (by decide) l
  have r1 := rep_len 39 [92, 39] (by decide) (repl1 92 [92, 92] l)
  have r2 := rep_len 39 [39, 39] (by decide) l
  have d1 : dRep 92 [92, 92] (.str l) = .ok (.str (repl1 92 [92, 92] l)) := if_pos (by simp; omega)
  have d2 : dRep 39 [92, 39] (.str (repl1 92 [92, 92] l)) = .ok (.str (repl1 39 [92, 39] (repl1 92 [92, 92] l))) := if_pos (by simp; omega)
  have d3 : dRep 39 [39, 39] (.str l) = .ok (.str (repl1 39 [39, 39] l)) := if_pos (by simp; omega)
  have ed : deqR (.str t) (.str [116, 105, 99, 107]) = .ok (decide (t = tTick)) := by
    show R.ok (t == tTick) = _
    rw [show (t == tTick) = decide (t = tTick) from by by_cases h : t = tTick <;> simp [h]]
  have s1 : ∀ z : Tx, z.length ≤ 2000 → bop .add (.str [39]) (.str z) = .ok (.str ([39] ++ z)) := fun z hz => fit_ok (by simp; omega)
  have s2 : ∀ z : Tx, z.length ≤ 2000 → bop .add (.str ([39] ++ z)) (.str [39]) = .ok (.str ([39] ++ z ++ [39])) := fun z hz => fit_ok (by simp; omega)
  have s3 := s1 (repl1 39 [92, 39] (repl1 92 [92, 92] l)) (by omega)
  have s4 := s2 (repl1 39 [92, 39] (repl1 92 [92, 92] l)) (by omega)
  have s5 := s1 (repl1 39 [39, 39] l) (by omega)
  have s6 := s2 (repl1 39 [39, 39] l) (by omega)
  unfold sayT
  by_cases ht : t = tTick
  · simp only [ht, decide_true, if_true] at ed ⊢
    rw [ht] at h1
    simp only [List.cons_append, List.nil_append] at s3 s4
    simp [h1, h3, ed, d1, d2, s3, s4, isTy]
  · simp only [ht, decide_false, Bool.false_eq_true, if_false] at ed ⊢
    simp only [List.cons_append, List.nil_append] at s5 s6
    simp [h1, h3, ed, d3, s5, s6, isTy]
theorem worth_said_int (n : Nat) {t : Tx} {b e : Nat} (T : Tng t b e) {v : Int} (h : -9999 ≤ v) (h2 : v ≤ 9999) : callF pr (n + 3) F_worth_said [.str t, .int v] = .ok (.str (said v)) := by
  rw [call_worth_said]
  unfold B_worth_said
  have h1 := T.need (n + 1)
  have h3 := is_worth_int n h h2
  have d1 : dStr (.int v) = .ok (.str (said v)) := if_pos (by omega)
  simp [h1, h3, d1, isTy]
/-- the law's own going -/
theorem law_quoted (n : Nat) (T : D) (f : Nat → Tx) (l b e : Tx) (hl : l.length ≤ 100) (hb : b.length ≤ 10) (he : e.length ≤ 10) (hf : ∀ c, (f c).length ≤ 1)
    (hT : ∀ c ∈ l, (isIn (.str [c]) T = .ok true ∧ idx T (.str [c]) = .ok (.str (f c))) ∨ (isIn (.str [c]) T = .ok false ∧ f c = [])) :
    callF pr (n + 1) F__law_quoted [.str l, .str b, .str e, T] = .ok (.str (b ++ l.flatMap (fun c => f c ++ [c]) ++ e)) := by
  rw [call__law_quoted]
  unfold B__law_quoted
  have e1 : ∀ ss, exSs gl (callF pr n) rfu ((.asg (.one 4) (.var 1) false [1]) :: ss) [.sh (.str l), .sh (.str b), .sh (.str e), .sh T, .no, .no] = exSs gl (callF pr n) rfu ss [.sh (.str l), .sh (.str b), .sh (.str e), .sh T, .sh (.str b), .no] := fun ss => by simp
  rw [e1]
  refine ended_is ?_
  refine for_thenX (fun c : Nat => D.str [c]) l (fun s : Tx => [.sh (.str l), .sh (.str b), .sh (.str e), .sh T, .sh (.str s), .no]) (fun rest s => (∀ c ∈ rest, c ∈ l) ∧ s.length + 2 * rest.length ≤ 300 ∧ s ++ rest.flatMap (fun c => f c ++ [c]) = b ++ l.flatMap (fun c => f c ++ [c])) b ?_ (by simp) ⟨fun _ h => h, by omega, rfl⟩ (fun c rest s ⟨h0, h1, h2⟩ => ?_) fun s ⟨_, h1, h2⟩ => ?_
  · have : walk .val [.str l] = .ok (l.map fun c => .str [c]) := if_pos (Nat.le_trans hl (by decide))
    simp [this]
  · rw [List.length_cons] at h1
    have hfc := hf c
    have a1 : ∀ z : Tx, z.length ≤ 1 → bop .add (.str s) (.str z) = .ok (.str (s ++ z)) := fun z hz => fit_ok (by omega)
    have a2 : ∀ z : Tx, z.length ≤ 1 → bop .add (.str (s ++ z)) (.str [c]) = .ok (.str (s ++ z ++ [c])) := fun z hz => fit_ok (by rw [List.length_append, List.length_singleton]; omega)
    have a3 := a1 [] (by decide)
    have a4 := a2 [] (by decide)
    rw [List.append_nil] at a3 a4
    refine ⟨s ++ f c ++ [c], [.sh (.str l), .sh (.str b), .sh (.str e), .sh T, .sh (.str s), .sh (.str [c])], [.sh (.str l), .sh (.str b), .sh (.str e), .sh T, .sh (.str (s ++ f c ++ [c])), .sh (.str [c])], ⟨fun x hx => h0 x (List.mem_cons_of_mem _ hx), ?_, ?_⟩, rfl, ?_, rfl⟩
    · rw [List.length_append, List.length_append, List.length_singleton]; omega
    · rw [← h2, List.flatMap_cons, List.append_assoc, List.append_assoc, List.append_assoc]
    · unfold B__law_quoted_1
      rcases hT c (h0 c List.mem_cons_self) with ⟨q1, q2⟩ | ⟨q1, q2⟩
      · have a5 := a1 (f c) hfc
        have a6 := a2 (f c) hfc
        simp only [List.append_assoc] at a6 ⊢
        simp [q1, q2, a5, a6]
      · rw [q2, List.append_nil]
        simp [q1, a3, a4]
  · rw [List.flatMap_nil, List.append_nil] at h2
    have : bop .add (.str s) (.str e) = .ok (.str (s ++ e)) := fit_ok (by simp at h1; omega)
    rw [h2] at this ⊢
    simp only [List.append_assoc] at this ⊢
    simp [this]
end Lp
end Ev

/-! As the law writes them. -/
namespace Ev
namespace Lp
theorem quo_flat (e : Nat) : ∀ l : Tx, l.flatMap (fun c => (if c = e then [e] else []) ++ [c]) = repl1 e [e, e] l
  | [] => rfl
  | c :: l => by
    have ih := quo_flat e l
    have e1 : repl1 e [e, e] (c :: l) = (if c = e then [e, e] else [c]) ++ repl1 e [e, e] l := rfl
    rw [List.flatMap_cons, ih, e1]
    by_cases h : c = e
    · rw [if_pos h, if_pos h, h]; rfl
    · rw [if_neg h, if_neg h]; rfl
theorem tick_flat : ∀ l : Tx, l.flatMap (fun c => (if c = 39 ∨ c = 92 then [92] else []) ++ [c]) = repl1 39 [92, 39] (repl1 92 [92, 92] l)
  | [] => rfl
  | c :: l => by
    have ih := tick_flat l
    have e1 : repl1 92 [92, 92] (c :: l) = (if c = 92 then [92, 92] else [c]) ++ repl1 92 [92, 92] l := rfl
    have e2 : ∀ x y : Tx, repl1 39 [92, 39] (x ++ y) = repl1 39 [92, 39] x ++ repl1 39 [92, 39] y := fun x y => List.flatMap_append
    rw [List.flatMap_cons, ih, e1, e2]
    congr 1
    by_cases h : c = 92
    · subst h; rfl
    · by_cases h2 : c = 39
      · subst h2; rfl
      · rw [if_neg (by omega), if_neg h]
        show _ = (if c = 39 then [92, 39] else [c]) ++ []
        rw [if_neg h2]; rfl
theorem law_names (n : Nat) {t : Tx} {b e : Nat} (T : Tng t b e) {l : Tx} (h : l.length ≤ 100) : callF pr (n + 2) F__law_names [.str t, .str l] = .ok (.str (quoT b e l)) := by
  rw [call__law_names]
  unfold B__law_names
  have h1 := T.own
  have h2 : dDct1 (.str [e]) (.str [e]) = .ok (.dic [.s [e]] [.str [e]]) := rfl
  have h3 := law_quoted n (.dic [.s [e]] [.str [e]]) (fun c => if c = e then [e] else []) l [b] [e] h (by simp) (by simp) (fun c => by split <;> simp) fun c _ => by
    by_cases hc : c = e
    · left
      subst hc
      exact ⟨by show R.ok (decide (Ky.s [c] ∈ [Ky.s [c]])) = _; simp, by
        show (match (some (Ky.s [c])).bind fun k => (kyAt k [Ky.s [c]]).bind ([D.str [c]][·]?) with
          | some v => R.ok v
          | none => .no) = _
        simp [kyAt]⟩
    · right
      exact ⟨by show R.ok (decide (Ky.s [c] ∈ [Ky.s [e]])) = _; simp [hc], if_neg hc⟩
  rw [quo_flat] at h3
  simp [h1, h2, h3, nodupK]; rfl
theorem law_worths (n : Nat) (t : Tx) {l : Tx} (h : l.length ≤ 100) : callF pr (n + 2) F__law_worths [.str t, .str l] = .ok (.str (sayT (decide (t = tTick)) l)) := by
  rw [call__law_worths]
  unfold B__law_worths
  have h3 := law_quoted n (.dic [.s [39]] [.str [39]]) (fun c => if c = 39 then [39] else []) l [39] [39] h (by simp) (by simp) (fun c => by split <;> simp) fun c _ => by
    by_cases hc : c = 39
    · left
      subst hc
      exact ⟨rfl, rfl⟩
    · right
      exact ⟨by show R.ok (decide (Ky.s [c] ∈ [Ky.s [39]])) = _; simp [hc], if_neg hc⟩
  have h4 := law_quoted n (.dic [.s [39], .s [92]] [.str [92], .str [92]]) (fun c => if c = 39 ∨ c = 92 then [92] else []) l [39] [39] h (by simp) (by simp) (fun c => by split <;> simp) fun c _ => by
    by_cases hc : c = 39 ∨ c = 92
    · left
      rw [if_pos hc]
      rcases hc with rfl | rfl <;> exact ⟨rfl, rfl⟩
    · right
      exact ⟨by show R.ok (decide (Ky.s [c] ∈ [Ky.s [39], Ky.s [92]])) = _; simp at hc; simp [hc], if_neg hc⟩
  rw [quo_flat] at h3
  rw [tick_flat] at h4
  have ed : deqR (.str t) (.str [116, 105, 99, 107]) = .ok (decide (t = tTick)) := by
    show R.ok (t == tTick) = _
    rw [show (t == tTick) = decide (t = tTick) from by by_cases h : t = tTick <;> simp [h]]
  have k1 : nodupK [Ky.s [39], Ky.s [92]] = true := rfl
  have k2 : nodupK [Ky.s [39]] = true := rfl
  unfold sayT
  by_cases ht : t = tTick
  · simp only [ht, decide_true, if_true] at ed ⊢
    simp [ed, h4, k1, isTy]
  · simp only [ht, decide_false, Bool.false_eq_true, if_false] at ed ⊢
    simp [ed, h3, k2, isTy]
theorem figs_all : ((List.range 10000).all fun m => decide ((figs m).length ≤ 4)) = true := by kernel_rfl
theorem figs_len {m : Nat} (h : m < 10000) : (figs m).length ≤ 4 := of_decide_eq_true (List.all_eq_true.mp figs_all m (List.mem_range.mpr h))
theorem law_worths_int (n : Nat) (t : Tx) {v : Int} (h : -9999 ≤ v) (h2 : v ≤ 9999) : callF pr (n + 2) F__law_worths [.str t, .int v] = .ok (.str (said v)) := by
  rw [call__law_worths]
  unfold B__law_worths
  have d1 : ∀ w : Int, 0 ≤ w → w ≤ 9999 → dStr (.int w) = .ok (.str (figs w.natAbs)) := fun w w0 w1 => by
    show (if w.natAbs < 1000000000000 then R.ok (D.str (said w)) else .no) = _
    rw [if_pos (by omega)]
    unfold said
    rw [if_neg (by omega)]
  have a1 : dAbs (.int v) = .ok (.int (if v < 0 then -v else v)) := rfl
  have fl : (figs v.natAbs).length ≤ 3000 := by
    have := figs_len (m := v.natAbs) (by omega)
    omega
  by_cases hv : v < 0
  · have e := d1 (-v) (by omega) (by omega)
    rw [Int.natAbs_neg] at e
    have s1 : bop .mul (.str [45]) (.int 1) = .ok (.str [45]) := rfl
    have s2 : bop .add (.str [45]) (.str (figs v.natAbs)) = .ok (.str ([45] ++ figs v.natAbs)) := fit_ok (by simp; omega)
    have s3 : said v = [45] ++ figs v.natAbs := if_pos hv
    have s4 : dInt (.bl true) = .ok (.int 1) := rfl
    rw [s3]
    rw [if_pos hv] at a1
    simp [isTy, hv, a1, e, s1, s2, s4]
  · have e := d1 v (by omega) (by omega)
    have s1 : bop .mul (.str [45]) (.int 0) = .ok (.str []) := rfl
    have s2 : bop .add (.str []) (.str (figs v.natAbs)) = .ok (.str (figs v.natAbs)) := fit_ok (by simp; omega)
    have s3 : said v = figs v.natAbs := if_neg hv
    have s4 : dInt (.bl false) = .ok (.int 0) := rfl
    rw [s3]
    rw [if_neg hv] at a1
    simp [isTy, hv, a1, e, s1, s2, s4]
end Lp
end Ev

/-! The law. -/
namespace Ev
namespace Lp
theorem join1 {l : Tx} (hl : l.length ≤ 1000) : mJoin (.str []) (.lst (l.map fun c => D.str [c])) = .ok (.str l) := by
  have s1 : ∀ l : Tx, strsOf (l.map fun c => D.str [c]) = some (l.map fun c => [c]) := fun l => by
    induction l with
    | nil => rfl
    | cons c l ih => show (strsOf (l.map fun c => D.str [c])).map _ = _; rw [ih]; rfl
  have s2 : ∀ l : Tx, joinL [] (l.map fun c => [c]) = l := fun l => by
    induction l with
    | nil => rfl
    | cons c l ih =>
      cases l with
      | nil => rfl
      | cons d l => show [c] ++ [] ++ joinL [] ((d :: l).map fun c => [c]) = _; rw [ih]; rfl
  show (match strsOf (l.map fun c => D.str [c]) with
    | some ss => if (ss.map List.length).sum + ss.length * ([] : Tx).length ≤ lim then R.ok (D.str (joinL [] ss)) else .no
    | none => .no) = _
  rw [s1]
  have hsum : ((l.map fun c => [c]).map List.length).sum = l.length := by
    induction l with
    | nil => rfl
    | cons c l ih =>
      have := ih (by simp at hl; omega)
      simp at this ⊢
      omega
  simp only [hsum, s2]
  rw [if_pos (by simp; exact Nat.le_trans hl (by decide))]
theorem told0 (n : Nat) {t : Tx} {b e : Nat} (T : Tng t b e) {l : Tx} (h : NameOK l) : callF pr (n + 4) F__law_told [.int 0, .str t, .str l] = .ok (.str (quoT b e l)) := by
  rw [call__law_told]
  unfold B__law_told
  simp [name_said n T h]
theorem told1 (n : Nat) {t : Tx} {b e : Nat} (T : Tng t b e) {l : Tx} (h : l.length ≤ 12) (h2 : ∀ c ∈ l, 32 ≤ c ∧ c ≤ 126) : callF pr (n + 4) F__law_told [.int 1, .str t, .str l] = .ok (.str (sayT (decide (t = tTick)) l)) := by
  rw [call__law_told]
  unfold B__law_told
  simp [worth_said n T h h2]
theorem told1i (n : Nat) {t : Tx} {b e : Nat} (T : Tng t b e) {v : Int} (h : -9999 ≤ v) (h2 : v ≤ 9999) : callF pr (n + 4) F__law_told [.int 1, .str t, .int v] = .ok (.str (said v)) := by
  rw [call__law_told]
  unfold B__law_told
  simp [worth_said_int n T h h2]
def signsT : Tx := [32, 33, 34, 39, 96, 91, 93, 92, 97, 126]
def drawnT (ns : List Int) : Tx := (List.range (1 + drawZ ns 0 8).toNat).map fun (k : Nat) => signsT.getD (drawZ ns (1 + k) 10).toNat 0
theorem signs_get {i : Int} (h0 : 0 ≤ i) (h1 : i < 10) : idx (.str signsT) (.int i) = .ok (.str [signsT.getD i.toNat 0]) ∧ 32 ≤ signsT.getD i.toNat 0 ∧ signsT.getD i.toNat 0 ≤ 126 := by
  obtain ⟨m, rfl⟩ := Int.eq_ofNat_of_zero_le h0
  have hm : m < 10 := by omega
  match m, hm with
  | 0, _ => exact ⟨rfl, by decide, by decide⟩
  | 1, _ => exact ⟨rfl, by decide, by decide⟩
  | 2, _ => exact ⟨rfl, by decide, by decide⟩
  | 3, _ => exact ⟨rfl, by decide, by decide⟩
  | 4, _ => exact ⟨rfl, by decide, by decide⟩
  | 5, _ => exact ⟨rfl, by decide, by decide⟩
  | 6, _ => exact ⟨rfl, by decide, by decide⟩
  | 7, _ => exact ⟨rfl, by decide, by decide⟩
  | 8, _ => exact ⟨rfl, by decide, by decide⟩
  | 9, _ => exact ⟨rfl, by decide, by decide⟩
theorem drawn_ok (ns : List Int) : NameOK (drawnT ns) := by
  have h0 := drawZ_nonneg ns 0 (m := 8) (by decide)
  have h1 := drawZ_lt ns 0 (m := 8) (by decide)
  refine ⟨?_, ?_, fun c hc => ?_⟩
  · unfold drawnT; rw [List.length_map, List.length_range]; omega
  · unfold drawnT; rw [List.length_map, List.length_range]; omega
  · obtain ⟨k, _, rfl⟩ := List.mem_map.mp hc
    exact (signs_get (drawZ_nonneg ns (1 + (k : Int)) (m := 10) (by decide)) (drawZ_lt ns (1 + (k : Int)) (m := 10) (by decide))).2
def nmsT (d : Tx) : List Tx := [d, [97], [34], [93, 93], [91, 96, 96, 91], [96], [92, 92], [39], [92, 39], [39, 92], [97, 98, 99, 100, 101, 102, 103, 104], [32], [34, 34]]
theorem nms_ok {d : Tx} (h : NameOK d) : ∀ l ∈ nmsT d, NameOK l := by
  intro l hl
  unfold nmsT at hl
  simp only [List.mem_cons, List.not_mem_nil, or_false] at hl
  rcases hl with rfl | rfl | rfl | rfl | rfl | rfl | rfl | rfl | rfl | rfl | rfl | rfl | rfl <;> first | exact h | exact ⟨by decide, by decide, by decide⟩
/-- the worths asked for -/
def wosD (d : Tx) (v : Int) : List D := (nmsT d).map D.str ++ [.str [], .str (d ++ [39, 92, 39]), .int 0, .int (-1), .int 9999, .int (-9999), .int v]
def sayD (t : Tx) : D → D
  | .str l => .str (sayT (decide (t = tTick)) l)
  | .int v => .str (said v)
  | d => d
theorem wos_ok (n : Nat) {t : Tx} {b e : Nat} (T : Tng t b e) {d : Tx} (h : NameOK d) {v : Int} (v0 : -9999 ≤ v) (v1 : v ≤ 9999) : ∀ x ∈ wosD d v, callF pr (n + 4) F__law_told [.int 1, .str t, x] = .ok (sayD t x) ∧ callF pr (n + 2) F__law_worths [.str t, x] = .ok (sayD t x) ∧ okd 59 (sayD t x) = true := by
  intro x hx
  have txt : ∀ l : Tx, l.length ≤ 12 → (∀ c ∈ l, 32 ≤ c ∧ c ≤ 126) → callF pr (n + 4) F__law_told [.int 1, .str t, .str l] = .ok (sayD t (.str l)) ∧ callF pr (n + 2) F__law_worths [.str t, .str l] = .ok (sayD t (.str l)) ∧ okd 59 (sayD t (.str l)) = true := fun l h1 h2 =>
    ⟨told1 n T h1 h2, law_worths n t (by omega), rfl⟩
  have num : ∀ i : Int, -9999 ≤ i → i ≤ 9999 → callF pr (n + 4) F__law_told [.int 1, .str t, .int i] = .ok (sayD t (.int i)) ∧ callF pr (n + 2) F__law_worths [.str t, .int i] = .ok (sayD t (.int i)) ∧ okd 59 (sayD t (.int i)) = true := fun i h1 h2 =>
    ⟨told1i n T h1 h2, law_worths_int n t h1 h2, rfl⟩
  unfold wosD at hx
  rcases List.mem_append.mp hx with hx | hx
  · obtain ⟨l, hl, rfl⟩ := List.mem_map.mp hx
    have := nms_ok h l hl
    exact txt l (by have := this.2.1; omega) this.2.2
  · simp only [List.mem_cons, List.not_mem_nil, or_false] at hx
    rcases hx with rfl | rfl | rfl | rfl | rfl | rfl | rfl
    · exact txt [] (by decide) (by decide)
    · refine txt _ (by rw [List.length_append]; have := h.2.1; simp; omega) fun c hc => ?_
      rcases List.mem_append.mp hc with hc | hc
      · exact h.2.2 c hc
      · exact (show ∀ c ∈ ([39, 92, 39] : Tx), 32 ≤ c ∧ c ≤ 126 by decide) c hc
    · exact num 0 (by decide) (by decide)
    · exact num (-1) (by decide) (by decide)
    · exact num 9999 (by decide) (by decide)
    · exact num (-9999) (by decide) (by decide)
    · exact num v v0 v1
def odd0 : List D := [.str [], .str [97, 98, 99, 100, 101, 102, 103, 104, 105], .non, .int 5, .str [97, 10], .tup [.str [97]]]
def odd1 : List D := [.str [97, 98, 99, 100, 101, 102, 103, 104, 105, 106, 107, 108, 109], .non, .bl true, .int 10000, .int (-10000), .str [97, 10], .tup [.str [97]]]
def odd2 : List D := [.str [], .str [68, 111, 117, 98, 108, 101], .non, .int 1, .str [100, 111, 117, 98, 108], .tup [.str [116, 105, 99, 107]]]
theorem odd0_ok {t : Tx} (ht : t = tDouble ∨ t = tBracket ∨ t = tTick) : ∀ x ∈ odd0, callF pr 12 F__law_told [.int 0, .str t, x] = .ok (.tup [.str refd, .int 4]) := by
  intro x hx
  unfold odd0 at hx
  simp only [List.mem_cons, List.not_mem_nil, or_false] at hx
  rcases ht with rfl | rfl | rfl <;> rcases hx with rfl | rfl | rfl | rfl | rfl | rfl <;> kernel_rfl
theorem odd1_ok {t : Tx} (ht : t = tDouble ∨ t = tBracket ∨ t = tTick) : ∀ x ∈ odd1, callF pr 12 F__law_told [.int 1, .str t, x] = .ok (.tup [.str refd, .int 2]) := by
  intro x hx
  unfold odd1 at hx
  simp only [List.mem_cons, List.not_mem_nil, or_false] at hx
  rcases ht with rfl | rfl | rfl <;> rcases hx with rfl | rfl | rfl | rfl | rfl | rfl | rfl <;> kernel_rfl
theorem odd2_ok : ∀ x ∈ odd2, callF pr 12 F__law_told [.int 0, x, .non] = .ok (.tup [.str refd, .int 5]) ∧ callF pr 12 F__law_told [.int 1, x, .non] = .ok (.tup [.str refd, .int 5]) := by
  intro x hx
  unfold odd2 at hx
  simp only [List.mem_cons, List.not_mem_nil, or_false] at hx
  rcases hx with rfl | rfl | rfl | rfl | rfl | rfl <;> exact ⟨by kernel_rfl, by kernel_rfl⟩
end Lp
end Ev

/-! The law's walk. -/
namespace Ev
namespace Lp
section
variable {ns : List Int} {s5 s6 s7 s8 s9 s10 : Sl}
/-- two comprehensions that tell the same -/
theorem lc_same {fn : Nat → List D → R D} {env : Env} {e1 e2 : E} {i j : Nat} {L : List D} (g : D → D) (hi : look env i = .ok (.lst L)) (hL : L.length ≤ 4000)
    (h : ∀ x ∈ L, (bind (.one j) x (wipe env [j])).bind (fun e' => ev gl fn e1 e') = .ok (g x) ∧ (bind (.one j) x (wipe env [j])).bind (fun e' => ev gl fn e2 e') = .ok (g x) ∧ okd 59 (g x) = true) :
    ev gl fn (.cmp .ne (.lc e1 (.one j) .val [.var i] [] [j]) (.lc e2 (.one j) .val [.var i] [] [j])) env = .ok (.bl false) := by
  have hw : (evs gl fn [.var i] env).bind (walk .val) = .ok (L.map id) := by
    rw [List.map_id]
    show ((look env i).bind fun d => R.ok [d]).bind (walk .val) = _
    rw [hi]; rfl
  have l1 := lc_map (glob := gl) (fn := fn) (env := env) (e := e1) (t := .one j) (own := [j]) (k := .val) (args := [.var i]) id L g hw (fun a ha => (h a ha).1) hL
  have l2 := lc_map (glob := gl) (fn := fn) (env := env) (e := e2) (t := .one j) (own := [j]) (k := .val) (args := [.var i]) id L g hw (fun a ha => (h a ha).2.1) hL
  have hd := deqR_lst (l := L.map g) fun x hx => by
    obtain ⟨y, hy, rfl⟩ := List.mem_map.mp hx
    exact (h y hy).2.2
  rw [ev_cmp, l1, R.bind_ok, l2, R.bind_ok, cop_neq, hd]; rfl
theorem ite_no {fn : Nat → List D → R D} {c : E} {a ss : List S} {env : Env} (ho : open_ env = env) (h : ev gl fn c env = .ok (.bl false)) : exSs gl fn rfu (.ite c a [] :: ss) env = exSs gl fn rfu ss env := by
  rw [exSs_cons, exS_ite, ho, h]; rfl
abbrev E30 (ns : List Int) (dr : Tx) (s4 s6 : Sl) : Env := [.sh (.scr ns), .sh (.str signsT), .sh (.str dr), .sh (.lst ((nmsT dr).map D.str)), s4, .no, s6, .no, .no, .no, .no]
def vZ (ns : List Int) : Int := drawZ ns 20 19999 - 9999
def quoD (b e : Nat) : D → D
  | .str l => .str (quoT b e l)
  | d => d
theorem loop0 (ns : List Int) (dr : Tx) (d6 : D) {t : Tx} (ht : t = tDouble ∨ t = tBracket ∨ t = tTick) (ss : List S) : exSs gl (callF pr 12) rfu (.for_ (.one 5) .val [(.tup [(.lit (.str [])), (.lit (.str [97, 98, 99, 100, 101, 102, 103, 104, 105])), (.lit .non), (.lit (.int (5))), (.lit (.str [97, 10])), (.tup [(.lit (.str [97]))])])] [] B_law_6 :: ss) (E30 ns dr (.sh (.str t)) (.sh d6)) = exSs gl (callF pr 12) rfu ss (E30 ns dr (.sh (.str t)) (.sh d6)) := by
  refine for_passX (fun d : D => d) odd0 (E30 ns dr (.sh (.str t)) (.sh d6)) (by rw [List.map_id']; rfl) rfl (fun x hx => ?_) rfl
  have hd : deqR (.tup [.str refd, .int 4]) (.tup [.str refd, .int 4]) = .ok true := by kernel_rfl
  have hx' := odd0_ok ht x hx
  unfold refd at hd hx'
  refine ⟨[.sh (.scr ns), .sh (.str signsT), .sh (.str dr), .sh (.lst ((nmsT dr).map D.str)), .sh (.str t), .sh x, .sh d6, .no, .no, .no, .no], [.sh (.scr ns), .sh (.str signsT), .sh (.str dr), .sh (.lst ((nmsT dr).map D.str)), .sh (.str t), .sh x, .sh d6, .no, .no, .no, .no], rfl, ?_, rfl⟩
  unfold B_law_6
  refine ite_no rfl ?_
  generalize (nmsT dr).map D.str = NL
  simp [hx', hd]
theorem loop1 (ns : List Int) (dr : Tx) (d6 : D) {t : Tx} (ht : t = tDouble ∨ t = tBracket ∨ t = tTick) (ss : List S) : exSs gl (callF pr 12) rfu (.for_ (.one 5) .val [(.tup [(.lit (.str [97, 98, 99, 100, 101, 102, 103, 104, 105, 106, 107, 108, 109])), (.lit .non), (.lit (.bl true)), (.lit (.int (10000))), (.neg (.lit (.int (10000)))), (.lit (.str [97, 10])), (.tup [(.lit (.str [97]))])])] [] B_law_7 :: ss) (E30 ns dr (.sh (.str t)) (.sh d6)) = exSs gl (callF pr 12) rfu ss (E30 ns dr (.sh (.str t)) (.sh d6)) := by
  refine for_passX (fun d : D => d) odd1 (E30 ns dr (.sh (.str t)) (.sh d6)) (by rw [List.map_id']; rfl) rfl (fun x hx => ?_) rfl
  have hd : deqR (.tup [.str refd, .int 2]) (.tup [.str refd, .int 2]) = .ok true := by kernel_rfl
  have hx' := odd1_ok ht x hx
  unfold refd at hd hx'
  refine ⟨[.sh (.scr ns), .sh (.str signsT), .sh (.str dr), .sh (.lst ((nmsT dr).map D.str)), .sh (.str t), .sh x, .sh d6, .no, .no, .no, .no], [.sh (.scr ns), .sh (.str signsT), .sh (.str dr), .sh (.lst ((nmsT dr).map D.str)), .sh (.str t), .sh x, .sh d6, .no, .no, .no, .no], rfl, ?_, rfl⟩
  unfold B_law_7
  refine ite_no rfl ?_
  generalize (nmsT dr).map D.str = NL
  simp [hx', hd]
theorem pass8 {ns : List Int} (hn : ns.length ≤ 63) {t : Tx} {b e : Nat} (T : Tng t b e) (ht : t = tDouble ∨ t = tBracket ∨ t = tTick) {dr : Tx} (h : NameOK dr) :
    exSs gl (callF pr 12) rfu B_law_8 (E30 ns dr (.sh (.str t)) .no) = .nx (E30 ns dr (.sh (.str t)) (.sh (.lst (wosD dr (vZ ns))))) := by
  have hv0 : -9999 ≤ vZ ns := by
    have := drawZ_nonneg ns 20 (m := 19999) (by decide)
    unfold vZ; omega
  have hv1 : vZ ns ≤ 9999 := by
    have := drawZ_lt ns 20 (m := 19999) (by decide)
    unfold vZ; omega
  have c1 : ev gl (callF pr 12) (.cmp .ne (.lc E_law_2 (.one 8) .val [(.var 3)] [] [8]) (.lc E_law_3 (.one 8) .val [(.var 3)] [] [8])) (E30 ns dr (.sh (.str t)) .no) = .ok (.bl false) := by
    refine lc_same (quoD b e) rfl (by rw [List.length_map]; exact (show (13 : Nat) ≤ 4000 by decide)) fun x hx => ?_
    obtain ⟨l, hl, rfl⟩ := List.mem_map.mp hx
    have hk := nms_ok h l hl
    have g1 := told0 8 T hk
    have g2 := law_names 10 T (l := l) (by have := hk.2.1; omega)
    refine ⟨?_, ?_, rfl⟩
    · unfold E_law_2 E30
      generalize (nmsT dr).map D.str = NL
      simp [g1, quoD]
    · unfold E_law_3 E30
      generalize (nmsT dr).map D.str = NL
      simp [g2, quoD]
  have c2 : ev gl (callF pr 12) (.cmp .ne (.lc E_law_4 (.one 9) .val [(.var 6)] [] [9]) (.lc E_law_5 (.one 9) .val [(.var 6)] [] [9])) (E30 ns dr (.sh (.str t)) (.sh (.lst (wosD dr (vZ ns))))) = .ok (.bl false) := by
    refine lc_same (sayD t) rfl (by unfold wosD; rw [List.length_append, List.length_map]; exact (show (20 : Nat) ≤ 4000 by decide)) fun x hx => ?_
    obtain ⟨g1, g2, g3⟩ := wos_ok 8 T h hv0 hv1 x hx
    have g2' := (wos_ok 10 T h hv0 hv1 x hx).2.1
    refine ⟨?_, ?_, g3⟩
    · unfold E_law_4 E30
      generalize (nmsT dr).map D.str = NL
      generalize wosD dr (vZ ns) = WL
      simp [g1]
    · unfold E_law_5 E30
      generalize (nmsT dr).map D.str = NL
      generalize wosD dr (vZ ns) = WL
      simp [g2']
  unfold B_law_8
  rw [ite_no rfl c1]
  have e1 : ∀ ss, exSs gl (callF pr 12) rfu ((.asg (.one 6) (.bin .add (.var 3) (.lst [(.lit (.str [])), (.bin .add (.var 2) (.lit (.str [39, 92, 39]))), (.lit (.int (0))), (.neg (.lit (.int (1)))), (.lit (.int (9999))), (.neg (.lit (.int (9999)))), (.bin .sub (.call F__law_drawn [(.var 0), (.lit (.int (20))), (.lit (.int (19999)))]) (.lit (.int (9999))))])) false [3, 2, 0]) :: ss) (E30 ns dr (.sh (.str t)) .no) = exSs gl (callF pr 12) rfu ss (E30 ns dr (.sh (.str t)) (.sh (.lst (wosD dr (vZ ns))))) := fun ss => by
    have d1 := law_drawn 10 hn 20 (m := 19999) (by decide)
    have d2 : bop .add (.str dr) (.str [39, 92, 39]) = .ok (.str (dr ++ [39, 92, 39])) := fit_ok (by have := h.2.1; simp; omega)
    have d3 : ∀ z : List D, z.length ≤ 10 → bop .add (.lst ((nmsT dr).map D.str)) (.lst z) = .ok (.lst ((nmsT dr).map D.str ++ z)) := fun z hz => fit_ok (by rw [List.length_map]; have : (nmsT dr).length = 13 := rfl; omega)
    unfold E30 wosD vZ
    generalize (nmsT dr).map D.str = NL at *
    simp [d1, d2, d3]
  rw [e1, ite_no rfl c2, loop0 ns dr _ ht, loop1 ns dr _ ht]
  rfl
end
end Lp
end Ev

/-! The law answers True. -/
namespace Ev
namespace Lp
theorem loop2 (ns : List Int) (dr : Tx) (ss : List S) : exSs gl (callF pr 12) rfu (.for_ (.one 5) .val [(.tup [(.lit (.str [])), (.lit (.str [68, 111, 117, 98, 108, 101])), (.lit .non), (.lit (.int (1))), (.lit (.str [100, 111, 117, 98, 108])), (.tup [(.lit (.str [116, 105, 99, 107]))])])] [] B_law_10 :: ss) (E30 ns dr .no .no) = exSs gl (callF pr 12) rfu ss (E30 ns dr .no .no) := by
  refine for_passX (fun d : D => d) odd2 (E30 ns dr .no .no) (by rw [List.map_id']; rfl) rfl (fun x hx => ?_) rfl
  obtain ⟨h0, h1⟩ := odd2_ok x hx
  refine ⟨[.sh (.scr ns), .sh (.str signsT), .sh (.str dr), .sh (.lst ((nmsT dr).map D.str)), .no, .sh x, .no, .no, .no, .no, .no], [.sh (.scr ns), .sh (.str signsT), .sh (.str dr), .sh (.lst ((nmsT dr).map D.str)), .no, .sh x, .no, .no, .no, .no, .no], rfl, ?_, rfl⟩
  unfold B_law_10
  refine ite_no rfl ?_
  generalize (nmsT dr).map D.str = NL
  have l1 : ev gl (callF pr 12) (.lc E_law_9 (.one 10) .range [(.lit (.int (2)))] [] [10]) [.sh (.scr ns), .sh (.str signsT), .sh (.str dr), .sh (.lst NL), .no, .sh x, .no, .no, .no, .no, .no] = .ok (.lst [.tup [.str refd, .int 5], .tup [.str refd, .int 5]]) := by
    have e : [D.tup [.str refd, .int 5], D.tup [.str refd, .int 5]] = (List.range 2).map fun _ => D.tup [.str refd, .int 5] := rfl
    rw [e]
    refine lc_map (fun k : Nat => D.int (k : Int)) (List.range 2) _ rfl (fun k hk => ?_) (by decide)
    have hk2 : k = 0 ∨ k = 1 := by have := List.mem_range.mp hk; omega
    unfold E_law_9
    rcases hk2 with rfl | rfl
    · simp [h0]
    · simp [h1]
  have hm : bop .mul (.lst [.tup [.str refd, .int 5]]) (.int 2) = .ok (.lst [.tup [.str refd, .int 5], .tup [.str refd, .int 5]]) := by kernel_rfl
  have hd : deqR (.lst [.tup [.str refd, .int 5], .tup [.str refd, .int 5]]) (.lst [.tup [.str refd, .int 5], .tup [.str refd, .int 5]]) = .ok true := by kernel_rfl
  rw [ev_cmp, l1, R.bind_ok]
  unfold refd at hm hd ⊢
  simp [hm, hd]
theorem law_plain : ∀ ns : List Int, ns.length ≤ 63 → callF pr 13 F_law [.scr ns] = .ok (.bl true) := by
  intro ns hn
  rw [call_law]
  unfold B_law
  refine ended_is ?_
  have hdr := drawn_ok ns
  have e1 : ∀ ss, exSs gl (callF pr 12) rfu ((.asg (.one 1) (.lit (.str [32, 33, 34, 39, 96, 91, 93, 92, 97, 126])) false []) :: ss) [.sh (.scr ns), .no, .no, .no, .no, .no, .no, .no, .no, .no, .no] = exSs gl (callF pr 12) rfu ss [.sh (.scr ns), .sh (.str signsT), .no, .no, .no, .no, .no, .no, .no, .no, .no] := fun ss => by
    unfold signsT; simp
  rw [e1]
  have e2 : ∀ ss, exSs gl (callF pr 12) rfu ((.asg (.one 2) (.mt1 .join (.lit (.str [])) (.lc E_law_1 (.one 7) .range [(.bin .add (.lit (.int (1))) (.call F__law_drawn [(.var 0), (.lit (.int (0))), (.lit (.int (8)))]))] [] [7])) false [1, 0, 7, 0]) :: ss) [.sh (.scr ns), .sh (.str signsT), .no, .no, .no, .no, .no, .no, .no, .no, .no] = exSs gl (callF pr 12) rfu ss [.sh (.scr ns), .sh (.str signsT), .sh (.str (drawnT ns)), .no, .no, .no, .no, .no, .no, .no, .no] := fun ss => by
    have d0 := law_drawn 10 hn 0 (m := 8) (by decide)
    have z0 := drawZ_nonneg ns 0 (m := 8) (by decide)
    have z1 := drawZ_lt ns 0 (m := 8) (by decide)
    have l1 : ev gl (callF pr 12) (.lc E_law_1 (.one 7) .range [(.bin .add (.lit (.int (1))) (.call F__law_drawn [(.var 0), (.lit (.int (0))), (.lit (.int (8)))]))] [] [7]) [.sh (.scr ns), .sh (.str signsT), .no, .no, .no, .no, .no, .no, .no, .no, .no] = .ok (.lst ((drawnT ns).map fun c => D.str [c])) := by
      unfold drawnT
      rw [List.map_map]
      refine lc_map (fun k : Nat => D.int (k : Int)) (List.range (1 + drawZ ns 0 8).toNat) _ ?_ (fun k hk => ?_) (by rw [List.length_range]; omega)
      · have hw : walk .range [.int (1 + drawZ ns 0 8)] = .ok ((List.range (1 + drawZ ns 0 8).toNat).map fun (k : Nat) => D.int k) := if_pos (by simp; omega)
        simp [d0, hw]
      · have d1 := law_drawn 10 hn (1 + (k : Int)) (m := 10) (by decide)
        have g := (signs_get (drawZ_nonneg ns (1 + (k : Int)) (m := 10) (by decide)) (drawZ_lt ns (1 + (k : Int)) (m := 10) (by decide))).1
        unfold E_law_1
        simp only [Function.comp]
        generalize signsT.getD (drawZ ns (1 + (k : Int)) 10).toNat 0 = cc at g ⊢
        generalize signsT = SS at g ⊢
        simp [d1, g]
    have j := join1 (l := drawnT ns) (by have := hdr.2.1; omega)
    generalize drawnT ns = DD at *
    have l1' : ev gl (callF pr 12) (.mt1 .join (.lit (.str [])) (.lc E_law_1 (.one 7) .range [(.bin .add (.lit (.int (1))) (.call F__law_drawn [(.var 0), (.lit (.int (0))), (.lit (.int (8)))]))] [] [7])) [.sh (.scr ns), .sh (.str signsT), .no, .no, .no, .no, .no, .no, .no, .no, .no] = .ok (.str DD) := by
      rw [ev_mt1, ev_lit, R.bind_ok, if_pos (show mtOk Mt.join (D.str []) = true from rfl), l1, R.bind_ok]
      exact j
    rw [exSs_cons, exS_asg, mask_K]
    rw [show maskK 0 [1, 0, 7, 0] [Sl.sh (D.scr ns), .sh (.str signsT), .no, .no, .no, .no, .no, .no, .no, .no, .no] = [Sl.sh (D.scr ns), .sh (.str signsT), .no, .no, .no, .no, .no, .no, .no, .no, .no] from rfl, l1']
    rfl
  rw [e2]
  have e3 : ∀ ss, exSs gl (callF pr 12) rfu ((.asg (.one 3) (.lst [(.var 2), (.lit (.str [97])), (.lit (.str [34])), (.lit (.str [93, 93])), (.lit (.str [91, 96, 96, 91])), (.lit (.str [96])), (.lit (.str [92, 92])), (.lit (.str [39])), (.lit (.str [92, 39])), (.lit (.str [39, 92])), (.lit (.str [97, 98, 99, 100, 101, 102, 103, 104])), (.lit (.str [32])), (.lit (.str [34, 34]))]) false [2]) :: ss) [.sh (.scr ns), .sh (.str signsT), .sh (.str (drawnT ns)), .no, .no, .no, .no, .no, .no, .no, .no] = exSs gl (callF pr 12) rfu ss (E30 ns (drawnT ns) .no .no) := fun ss => by
    generalize drawnT ns = DD
    rfl
  rw [e3]
  have two : ∀ t b e, Tng t b e → (t = tDouble ∨ t = tBracket ∨ t = tTick) → ∃ e1 e2, bind (.one 4) (.str t) (E30 ns (drawnT ns) .no .no) = .ok e1 ∧ exSs gl (callF pr 12) rfu B_law_8 e1 = .nx e2 ∧ refit (E30 ns (drawnT ns) .no .no) e2 = E30 ns (drawnT ns) .no .no := fun t b e T ht =>
    ⟨_, _, rfl, pass8 hn T ht hdr, rfl⟩
  refine for_passX D.str [tDouble, tBracket, tTick] (E30 ns (drawnT ns) .no .no) rfl rfl (fun t ht => ?_) ?_
  · simp only [List.mem_cons, List.not_mem_nil, or_false] at ht
    rcases ht with rfl | rfl | rfl
    · exact two _ _ _ tng_double (.inl rfl)
    · exact two _ _ _ tng_bracket (.inr (.inl rfl))
    · exact two _ _ _ tng_tick (.inr (.inr rfl))
  · rw [loop2]; rfl
theorem law_ok (ns : List Int) (h : ns.length ≤ 63) : callF pr 13 F_law [.scr ns] = .ok (.bl true) := law_plain ns h
end Lp
end Ev

namespace La
open PySem PySem.W PySem.Calls PyProof.Rows L2 Ev
theorem binds : ∀ d, d ∈ lw.dfs ∨ (lw.hr = true ∧ d = lw.rfd) → ∀ (kV doc pm : Value) (an : Option Addr) (cdv ct : Value) (us : List Value), us.length = d.ps.length →
    bindArgs (PySem.W.fnOf d.x d.x (defArgs d.st) (defBody d.st) (defScope d.st) .none kV doc pm an cdv ct) ⟨us, []⟩ = pure (d.ps.zip us) := by
  rintro d (h | ⟨hr, h⟩)
  · have h0 : d ∈ [d0, d1, d2, d3, d4, d5, d6, d7, d8, d9, d10, d11, d12, d13] := h
    rcases List.mem_cons.mp h0 with e | h1
    · subst e
      exact fun kV doc pm an cdv ct us hl => match us, hl with | [_, _, _], _ => rfl
    rcases List.mem_cons.mp h1 with e | h2
    · subst e
      exact fun kV doc pm an cdv ct us hl => match us, hl with | [_, _, _], _ => rfl
    rcases List.mem_cons.mp h2 with e | h3
    · subst e
      exact fun kV doc pm an cdv ct us hl => match us, hl with | [_], _ => rfl
    rcases List.mem_cons.mp h3 with e | h4
    · subst e
      exact fun kV doc pm an cdv ct us hl => match us, hl with | [_], _ => rfl
    rcases List.mem_cons.mp h4 with e | h5
    · subst e
      exact fun kV doc pm an cdv ct us hl => match us, hl with | [_], _ => rfl
    rcases List.mem_cons.mp h5 with e | h6
    · subst e
      exact fun kV doc pm an cdv ct us hl => match us, hl with | [_, _], _ => rfl
    rcases List.mem_cons.mp h6 with e | h7
    · subst e
      exact fun kV doc pm an cdv ct us hl => match us, hl with | [_, _], _ => rfl
    rcases List.mem_cons.mp h7 with e | h8
    · subst e
      exact fun kV doc pm an cdv ct us hl => match us, hl with | [_, _], _ => rfl
    rcases List.mem_cons.mp h8 with e | h9
    · subst e
      exact fun kV doc pm an cdv ct us hl => match us, hl with | [_, _, _], _ => rfl
    rcases List.mem_cons.mp h9 with e | h10
    · subst e
      exact fun kV doc pm an cdv ct us hl => match us, hl with | [_, _, _], _ => rfl
    rcases List.mem_cons.mp h10 with e | h11
    · subst e
      exact fun kV doc pm an cdv ct us hl => match us, hl with | [_, _, _, _], _ => rfl
    rcases List.mem_cons.mp h11 with e | h12
    · subst e
      exact fun kV doc pm an cdv ct us hl => match us, hl with | [_, _], _ => rfl
    rcases List.mem_cons.mp h12 with e | h13
    · subst e
      exact fun kV doc pm an cdv ct us hl => match us, hl with | [_, _], _ => rfl
    rcases List.mem_cons.mp h13 with e | h14
    · subst e
      exact fun kV doc pm an cdv ct us hl => match us, hl with | [_], _ => rfl
    cases h14
  · subst h
    exact fun kV doc pm an cdv ct us hl => match us, hl with | [_], _ => rfl
theorem okL : lw.Ok where
  sc := fun d hd => by
    have h : (lw.dfs.all fun d => C8.scC d.N d.ps (defScope d.st)) = true := by kernel_rfl
    exact List.all_eq_true.mp h d hd
  scR := fun _ => by kernel_rfl
  lenR := fun _ => rfl
  lenN := fun _ => rfl
  rx := fun _ => rfl
  nd := by decide +kernel
  binds := binds
  hR := fun _ a c hc => by
    match c, hc with
    | 0, _ => exact ⟨refG a [true, false, false, false] [[false, false, false], [false], [false, false]], rfl, refG_ok a 0 _ _ (by decide) rfl rfl⟩
    | 1, _ => exact ⟨refG a [false, true, false, false] [[false, false, false], [false], [false, false]], rfl, refG_ok a 1 _ _ (by decide) rfl rfl⟩
    | 2, _ => exact ⟨refG a [false, false, true, false] [[false, false, false], [false], [false, false]], rfl, refG_ok a 2 _ _ (by decide) rfl rfl⟩
    | 3, _ => exact ⟨refG a [false, false, false, true] [[false, false, false], [false], [false, false]], rfl, refG_ok a 3 _ _ (by decide) rfl rfl⟩
    | 4, _ => exact ⟨refG a [false, false, false, false] [[true, false, false], [false], [false, false]], rfl, refG_ok a 4 _ _ (by decide) rfl rfl⟩
    | 5, _ => exact ⟨refG a [false, false, false, false] [[false, true, false], [false], [false, false]], rfl, refG_ok a 5 _ _ (by decide) rfl rfl⟩
    | 6, _ => exact ⟨refG a [false, false, false, false] [[false, false, true], [false], [false, false]], rfl, refG_ok a 6 _ _ (by decide) rfl rfl⟩
    | 7, _ => exact ⟨refG a [false, false, false, false] [[false, false, false], [true], [false, false]], rfl, refG_ok a 7 _ _ (by decide) rfl rfl⟩
    | 8, _ => exact ⟨refG a [false, false, false, false] [[false, false, false], [false], [true, false]], rfl, refG_ok a 8 _ _ (by decide) rfl rfl⟩
    | 9, _ => exact ⟨refG a [false, false, false, false] [[false, false, false], [false], [false, true]], rfl, refG_ok a 9 _ _ (by decide) rfl rfl⟩
end La
theorem La.same : La.lw.pr = Ev.Lp.pr := by
  have e1 : La.lw.glob = Ev.Lp.gl := by
    funext g
    match g with
    | 0 => kernel_rfl
    | 1 => kernel_rfl
    | 2 => kernel_rfl
    | 3 => kernel_rfl
    | 4 => kernel_rfl
    | n + 5 => rfl
  have e2 : La.lw.fd = Ev.Lp.fds := by
    funext f
    match f with
    | 0 => kernel_rfl
    | 1 => kernel_rfl
    | 2 => kernel_rfl
    | 3 => kernel_rfl
    | 4 => kernel_rfl
    | 5 => kernel_rfl
    | 6 => kernel_rfl
    | 7 => kernel_rfl
    | 8 => kernel_rfl
    | 9 => kernel_rfl
    | 10 => kernel_rfl
    | 11 => kernel_rfl
    | 12 => kernel_rfl
    | 13 => kernel_rfl
    | n + 14 => rfl
  have e3 : La.lw.refu = Ev.Lp.rfu := rfl
  show Ev.Pr.mk La.lw.glob La.lw.fd La.lw.refu = _
  rw [e1, e2, e3]; rfl
theorem La.law_plain (ns : List Int) (h : ns.length ≤ 63) : Ev.callF La.lw.pr 13 13 [.scr ns] = .ok (.bl true) := by
  rw [La.same]
  exact Ev.Lp.law_ok ns h
open PySem PySem.W PySem.Calls PyProof.Rows La Ev in
theorem PySem.Challenge.cw_askparts_k30_names_holds : PySem.Challenge.rw_askparts_k30_names.Holds := by
  w_on; o_law
  refine Ev.head_tok (r := RR) (q := qv) (H := La.hk) (ob := La.obT) (M := 6000) (loose := La.names) (d := HandSHeadRun.topDef RR.prog 34) (kwd := []) La.obT_eq
    (by kernel_rfl) (fun s => by kernel_rfl) La.run (by kernel_rfl) (by kernel_rfl) (by kernel_rfl) (by rfl) (by first | assumption | decide +kernel) (by decide +kernel) ⟨rfl, rfl, rfl, rfl, rfl, by decide +kernel⟩ ?hw ?hc
  case hw => w_witness2
  case hc =>
    refine Ev.walk_tok (l := PySem.Challenge.rw_askparts_k30_names) (n := 63) (k := 13 + 1) (x := "script") (CX := L2.CX0) rfl (by decide) (by kernel_rfl) ⟨rfl, by decide, by decide⟩ ?F (fun _ _ _ _ z => z)
    intro w mg fa h Y G hmg0
    obtain ⟨K, KX, c⟩ := Y
    have hmg : mg ("law" : PySem.Str) = some (.ref fa) := by
      have e : (HandSHeadRun.topDef RR.prog 34).name = ("law" : PySem.Str) := by kernel_rfl
      rw [← e]
      exact hmg0
    have T : lw.At w K mg := Lw.at_of KX G c fun p h0 ks ds e => by
      have h0 : p ∈ lw.gs := h0
      rcases List.mem_cons.mp h0 with z | h1
      · subst z; cases e
      rcases List.mem_cons.mp h1 with z | h2
      · subst z; cases e
      rcases List.mem_cons.mp h2 with z | h3
      · subst z; cases e
      rcases List.mem_cons.mp h3 with z | h4
      · subst z; cases e
      rcases List.mem_cons.mp h4 with z | h5
      · subst z; exact ⟨0, _, rfl, rfl⟩
      cases h5
    exact Lw.end_ (P := (PySem.Challenge.rw_askparts_k30_names).prog) okL T KX 13 13 d13 rfl rfl hmg law_plain

