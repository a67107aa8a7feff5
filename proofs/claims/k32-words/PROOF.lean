import PyProof.Rows.All
import Wide.All
import OpenK.AllK
import Wide.FinOn
import HandS.ForMost
import HandS.ForExc
import HandS.HotCalls
import HandS.ExcIs
import HandS.IsInst
import HandS.Deep
import HandS.Zip
import HandS.More
import HandS.TupAny
import HandS.TupMul
import HandS.TupLe
import HandS.RaiseMore
import HandS.Style
import HandS.Walk
import HandS.Conv
import HandS.Text
import HandS.SetFor
import HandS.HeadHook1
import HandS.HeadHook4
import HandS.Codes
import HandS.HeadEnd
import KE.KStateDown
import HandS.Head0
import HandS.Head1
import HandS.Head2
import PySem.Challenge.RW_askparts_k32_words
set_option Elab.async false
set_option maxRecDepth 100000
set_option maxHeartbeats 0
set_option linter.all false
/-! A pure evaluator of a small language: what the defs of the given text compute, over plain data. No machine here. -/
namespace Ev

/-- a key of a dict -/
inductive Ky where
  | i (n : Int)
  | s (l : List Nat)
  deriving DecidableEq

/-- plain data; a text is the list of its codes -/
inductive D where
  | non
  | bl (b : Bool)
  | int (i : Int)
  | str (l : List Nat)
  | tup (xs : List D)
  | lst (xs : List D)
  | dic (ks : List Ky) (vs : List D)
  /-- the law's own list of whole numbers -/
  | scr (ns : List Int)
  /-- a dict of the text's top, with text keys -/
  | gdc (ks : List (List Nat)) (vs : List D)
  /-- what stands at an address, nothing told of it -/
  | adr (a : Nat)

/-- a value, an exception (the number of its class), or nothing is told -/
inductive R (A : Type) where
  | ok (a : A)
  | ex (c : Nat)
  | no

def R.bind {A B : Type} (x : R A) (f : A → R B) : R B :=
  match x with
  | .ok a => f a
  | .ex c => .ex c
  | .no => .no

@[simp] theorem R.bind_ok {A B : Type} (a : A) (f : A → R B) : R.bind (.ok a) f = f a := rfl
@[simp] theorem R.bind_ex {A B : Type} (c : Nat) (f : A → R B) : R.bind (.ex c : R A) f = .ex c := rfl
@[simp] theorem R.bind_no {A B : Type} (f : A → R B) : R.bind (.no : R A) f = .no := rfl

inductive B2 where | add | sub | mul | fdiv | mod
  deriving DecidableEq
inductive C2 where | eq | ne | lt | le | gt | ge | isin | notin | is_ | isnot
  deriving DecidableEq
inductive Ty where | int | bool | str | tuple | list
  deriving DecidableEq
/-- built-in functions, by what they are asked with -/
inductive Bi where | len | all_ | str_ | int_ | abs_ | tuple | list | dict | sorted | lenset | sortset | tupzip | dictzip | sum | max2 | min2
  deriving DecidableEq
/-- methods that change nothing -/
inductive Mt where | join | index | count | get
  deriving DecidableEq
/-- what is walked -/
inductive Ik where | val | range | range2 | enum | zip2 | zip3
  deriving DecidableEq

/-- targets: a slot, several -/
inductive T where
  | one (i : Nat)
  | many (ts : List T)

inductive E where
  | nul
  | var (i : Nat)
  | lit (d : D)
  | glo (g : Nat)
  | tup (es : List E)
  | lst (es : List E)
  | dct (ks : List Ky) (vs : List E)
  | bin (o : B2) (a b : E)
  | neg (a : E)
  | cmp (o : C2) (a b : E)
  | cmp2 (o p : C2) (a b c : E)
  | and_ (a b : E)
  | or_ (a b : E)
  | not_ (a : E)
  | ite (c a b : E)
  | idx (a i : E)
  | slc (a l u : E)
  | rev (a : E)
  | call (f : Nat) (es : List E)
  | isi (a : E) (t : Ty)
  | isx (i a : Nat) (b : Bool)
  | bi1 (f : Bi) (a : E)
  | bi2 (f : Bi) (a b : E)
  | mt1 (m : Mt) (o a : E)
  | lc (e : E) (t : T) (k : Ik) (args : List E) (c : List E) (own : List Nat)

/-- an end that is left out -/
def E.isNul : E → Bool
  | .nul => true
  | _ => false
/-! ### values -/
def lim : Nat := 16777216
def fit (n : Nat) (d : D) : R D := if n ≤ lim then .ok d else .no

mutual
/-- no dict within, no more than n deep -/
def okd : Nat → D → Bool
  | n + 1, .tup xs => okds n xs
  | n + 1, .lst xs => okds n xs
  | 0, .tup _ => false
  | 0, .lst _ => false
  | _, .dic _ _ => false
  | _, .non => true
  | _, .bl _ => true
  | _, .int _ => true
  | _, .str _ => true
  | _, .scr _ => false
  | _, .gdc _ _ => false
  | _, .adr _ => false
def okds : Nat → List D → Bool
  | _, [] => true
  | n, x :: xs => okd n x && okds n xs
end

mutual
/-- Python's == over data without dicts -/
def deq : D → D → Bool
  | .non, .non => true
  | .bl a, .bl b => a == b
  | .bl a, .int j => (if a then 1 else 0) == j
  | .int i, .bl b => i == (if b then 1 else 0)
  | .int i, .int j => i == j
  | .str x, .str y => x == y
  | .lst xs, .lst ys => deqs xs ys
  | .tup xs, .tup ys => deqs xs ys
  | _, _ => false
def deqs : List D → List D → Bool
  | [], [] => true
  | x :: xs, y :: ys => deq x y && deqs xs ys
  | _, _ => false
end

def deep : Nat := 60
/-- the script is only held against the empty list -/
def deqR : D → D → R Bool
  | .scr ns, .lst [] => .ok ns.isEmpty
  | .scr _, _ => .no
  | _, .scr _ => .no
  | a, b => if okd deep a && okd deep b then .ok (deq a b) else .no

def rep {A : Type} (n : Nat) (xs : List A) : List A := (List.replicate n xs).flatten

def bop : B2 → D → D → R D
  | .add, .int a, .int b => .ok (.int (a + b))
  | .add, .str a, .str b => fit (a.length + b.length) (.str (a ++ b))
  | .add, .tup a, .tup b => fit (a.length + b.length) (.tup (a ++ b))
  | .add, .lst a, .lst b => fit (a.length + b.length) (.lst (a ++ b))
  | .sub, .int a, .int b => .ok (.int (a - b))
  | .mul, .int a, .int b => if a.natAbs < 18446744073709551616 || b.natAbs < 18446744073709551616 then .ok (.int (a * b)) else .no
  | .mul, .tup a, .int k => if a.length ≤ 1000 && 2 ≤ k && k ≤ 1000 && !a.isEmpty then .ok (.tup (rep k.toNat a)) else .no
  | .mul, .lst a, .int k => if 0 ≤ k && k ≤ 10000 then fit (a.length * k.toNat) (.lst (rep k.toNat a)) else .no
  | .fdiv, .int a, .int b => if 0 < b && b < 1073741824 then .ok (.int (a / b)) else .no
  | .mod, .int a, .int b => if 0 < b then .ok (.int (a % b)) else .no
  | _, _, _ => .no

def kyOf : D → Option Ky
  | .int i => some (.i i)
  | .str l => some (.s l)
  | _ => none

/-- the place of a key -/
def kyAt (k : Ky) : List Ky → Option Nat
  | [] => none
  | x :: xs => if x = k then some 0 else (kyAt k xs).map (· + 1)

def txAt (k : List Nat) : List (List Nat) → Option Nat
  | [] => none
  | x :: xs => if x = k then some 0 else (txAt k xs).map (· + 1)

def anyR (d : D) (xs : List D) : R Bool := if okd deep d && okds deep xs then .ok (xs.any fun z => deq z d) else .no

def isIn : D → D → R Bool
  | d, .lst xs => anyR d xs
  | d, .tup xs => anyR d xs
  | .str [c], .str l => .ok (decide (c ∈ l))
  | d, .dic ks _ => match kyOf d with
    | some k => .ok (decide (k ∈ ks))
    | none => .no
  | .str l, .gdc ks _ => .ok (decide (l ∈ ks))
  | _, _ => .no

def cop : C2 → D → D → R Bool
  | .eq, a, b => deqR a b
  | .ne, a, b => (deqR a b).bind fun z => .ok (!z)
  | .lt, .int a, .int b => .ok (decide (a < b))
  | .le, .int a, .int b => .ok (decide (a ≤ b))
  | .gt, .int a, .int b => .ok (decide (b < a))
  | .ge, .int a, .int b => .ok (decide (b ≤ a))
  | .lt, .str a, .str b => .ok (decide (a < b))
  | .le, .str a, .str b => .ok (!decide (b < a))
  | .gt, .str a, .str b => .ok (decide (b < a))
  | .ge, .str a, .str b => .ok (!decide (a < b))
  | .isin, a, b => isIn a b
  | .notin, a, b => (isIn a b).bind fun z => .ok (!z)
  | .is_, .non, .non => .ok true
  | .is_, _, .non => .ok false
  | .isnot, .non, .non => .ok false
  | .isnot, _, .non => .ok true
  | .isnot, .int _, .bl _ => .ok true
  | .isnot, .bl a, .bl b => .ok (!(a == b))
  | _, _, _ => .no

def isTy : Ty → D → Bool
  | .int, .int _ => true
  | .int, .bl _ => true
  | .bool, .bl _ => true
  | .str, .str _ => true
  | .tuple, .tup _ => true
  | .list, .lst _ => true
  | .list, .scr _ => true
  | _, _ => false

def isTyR (t : Ty) : D → R D
  | .adr _ => .no
  | d => .ok (.bl (isTy t d))
/-- the place that an index means -/
def place (n : Nat) (i : Int) : Option Nat :=
  if 0 ≤ i then (if i < n then some i.toNat else none) else if -(n : Int) ≤ i then some (i + n).toNat else none

def idx : D → D → R D
  | .tup xs, .int i => match (place xs.length i).bind (xs[·]?) with
    | some d => .ok d
    | none => .no
  | .lst xs, .int i => match (place xs.length i).bind (xs[·]?) with
    | some d => .ok d
    | none => .no
  | .str l, .int i => if l.length ≤ lim then (match (place l.length i).bind (l[·]?) with
    | some c => .ok (.str [c])
    | none => .no) else .no
  | .scr ns, .int i => match (place ns.length i).bind (ns[·]?) with
    | some n => .ok (.int n)
    | none => .no
  | .gdc ks vs, .str l => match (txAt l ks).bind (vs[·]?) with
    | some v => .ok v
    | none => .no
  | .dic ks vs, d => match (kyOf d).bind fun k => (kyAt k ks).bind (vs[·]?) with
    | some v => .ok v
    | none => .no
  | _, _ => .no

def intOf : D → R (Option Int)
  | .int i => .ok (some i)
  | _ => .no
def sIx (n d : Nat) : Option Int → Nat
  | none => d
  | some v => if v < 0 then (v + (n : Int)).toNat else min v.toNat n
def cut {A : Type} (xs : List A) (lo hi : Option Int) : List A :=
  (xs.drop (sIx xs.length 0 lo)).take (sIx xs.length xs.length hi - sIx xs.length 0 lo)
def slc (a : D) (lo hi : Option Int) : R D :=
  match a with
  | .tup xs => .ok (.tup (cut xs lo hi))
  | .lst xs => .ok (.lst (cut xs lo hi))
  | .str x => if x.length ≤ lim then .ok (.str (cut x lo hi)) else .no
  | _ => .no
def rvs : D → R D
  | .tup xs => .ok (.tup xs.reverse)
  | .lst xs => .ok (.lst xs.reverse)
  | _ => .no

def boolsOf : List D → Option (List Bool)
  | [] => some []
  | .bl b :: r => (boolsOf r).map (b :: ·)
  | _ => none
def intsOf : List D → Option (List Int)
  | [] => some []
  | .int b :: r => (intsOf r).map (b :: ·)
  | _ => none
def strsOf : List D → Option (List (List Nat))
  | [] => some []
  | .str b :: r => (strsOf r).map (b :: ·)
  | _ => none

/-- figures of a natural number -/
def figs (n : Nat) : List Nat := (Nat.toDigits 10 n).map Char.toNat
def said (i : Int) : List Nat := if i < 0 then 45 :: figs i.natAbs else figs i.natAbs

/-- figures read -/
def readN : List Nat → Nat → Option Nat
  | [], a => some a
  | c :: r, a => if 48 ≤ c && c ≤ 57 then readN r (10 * a + (c - 48)) else none
def readI : List Nat → Option Int
  | [] => none
  | 45 :: c :: r => (readN (c :: r) 0).map fun (n : Nat) => -(n : Int)
  | c :: r => (readN (c :: r) 0).map fun (n : Nat) => (n : Int)

/-- order of numbers and of texts -/
def insI (a : Int) : List Int → List Int
  | [] => [a]
  | b :: r => if a ≤ b then a :: b :: r else b :: insI a r
def srtI : List Int → List Int
  | [] => []
  | a :: r => insI a (srtI r)
def insS (a : List Nat) : List (List Nat) → List (List Nat)
  | [] => [a]
  | b :: r => if b < a then b :: insS a r else a :: b :: r
def srtS : List (List Nat) → List (List Nat)
  | [] => []
  | a :: r => insS a (srtS r)
def once {A : Type} [DecidableEq A] : List A → List A
  | [] => []
  | a :: r => if a ∈ r then once r else a :: once r

/-- a key put to a dict: the old place keeps it -/
def put (k : Ky) (v : D) : List Ky → List D → List Ky × List D
  | x :: ks, y :: vs => if x = k then (x :: ks, v :: vs) else let r := put k v ks vs; (x :: r.1, y :: r.2)
  | _, _ => ([k], [v])
def puts : List (Ky × D) → List Ky → List D → List Ky × List D
  | [], ks, vs => (ks, vs)
  | p :: r, ks, vs => let q := put p.1 p.2 ks vs; puts r q.1 q.2
def pairOf : D → Option (Ky × D)
  | .tup [k, v] => (kyOf k).map fun k => (k, v)
  | _ => none
def pairsOf : List D → Option (List (Ky × D))
  | [] => some []
  | d :: r => (pairOf d).bind fun p => (pairsOf r).map (p :: ·)
def dicOf (ps : List (Ky × D)) : D := let q := puts ps [] []; .dic q.1 q.2
def items : D → Option (List D)
  | .tup xs => some xs
  | .lst xs => some xs
  | _ => none
def small (n : Nat) : Bool := n ≤ 1000

def sorted : D → R D
  | .lst xs => if small xs.length then (match intsOf xs with
    | some ns => .ok (.lst ((srtI ns).map D.int))
    | none => match strsOf xs with
      | some ss => .ok (.lst ((srtS ss).map D.str))
      | none => .no) else .no
  | .dic ks _ => if ks.length < 64 then (match strsOf (ks.map fun | .i n => D.int n | .s l => D.str l) with
    | some ss => .ok (.lst ((srtS ss).map D.str))
    | none => .no) else .no
  | _ => .no

def keys : List D → Option (List Ky)
  | [] => some []
  | d :: r => (kyOf d).bind fun k => (keys r).map (k :: ·)

def dLen : D → R D
  | .tup xs => .ok (.int xs.length)
  | .lst xs => .ok (.int xs.length)
  | .str l => if l.length ≤ lim then .ok (.int l.length) else .no
  | .dic ks _ => .ok (.int ks.length)
  | .scr ns => .ok (.int ns.length)
  | _ => .no
def dAll : D → R D
  | .lst xs => (match boolsOf xs with
    | some bs => .ok (.bl (bs.all id))
    | none => .no)
  | _ => .no
def dStr : D → R D
  | .int i => if i.natAbs < 1000000000000 then .ok (.str (said i)) else .no
  | _ => .no
def dInt : D → R D
  | .bl b => .ok (.int (if b then 1 else 0))
  | .str l => if l.length ≤ 640 then (match readI l with
    | some i => .ok (.int i)
    | none => .no) else .no
  | _ => .no
def dAbs : D → R D
  | .int i => .ok (.int (if i < 0 then -i else i))
  | _ => .no
def dTuple : D → R D
  | .lst xs => .ok (.tup xs)
  | .tup xs => .ok (.tup xs)
  | _ => .no
def dList : D → R D
  | .lst xs => .ok (.lst xs)
  | .tup xs => .ok (.lst xs)
  | _ => .no
def dDict : D → R D
  | .dic ks vs => .ok (.dic ks vs)
  | .lst xs => (match pairsOf xs with
    | some ps => if small ps.length then .ok (dicOf ps) else .no
    | none => .no)
  | .tup xs => (match pairsOf xs with
    | some ps => if small ps.length then .ok (dicOf ps) else .no
    | none => .no)
  | _ => .no
def dLenset : D → R D
  | .lst xs => if small xs.length then (match keys xs with
    | some ks => .ok (.int (once ks).length)
    | none => .no) else .no
  | _ => .no
def dSortset : D → R D
  | .lst xs => if small xs.length then (match intsOf xs with
    | some ns => .ok (.lst ((srtI (once ns)).map D.int))
    | none => (match strsOf xs with
      | some ss => .ok (.lst ((srtS (once ss)).map D.str))
      | none => .no)) else .no
  | _ => .no
def dTupzip (a b : D) : R D := match items a, items b with
    | some xs, some ys => if small xs.length && small ys.length then .ok (.tup ((xs.zip ys).map fun p => .tup [p.1, p.2])) else .no
    | _, _ => .no
def dDictzip (a b : D) : R D := match items a, items b with
    | some xs, some ys => if small xs.length && small ys.length then (match keys xs with
      | some ks => .ok (dicOf (ks.zip ys))
      | none => .no) else .no
    | _, _ => .no
def dSum : D → R D
  | .lst xs => (match intsOf xs with
    | some ns => .ok (.int ns.sum)
    | none => .no)
  | _ => .no
def dMax : D → D → R D
  | .int a, .int b => .ok (.int (if b > a then b else a))
  | _, _ => .no
def dMin : D → D → R D
  | .int a, .int b => .ok (.int (if b < a then b else a))
  | _, _ => .no
def bi1 : Bi → D → R D
  | .len, d => dLen d
  | .all_, d => dAll d
  | .str_, d => dStr d
  | .int_, d => dInt d
  | .abs_, d => dAbs d
  | .tuple, d => dTuple d
  | .list, d => dList d
  | .dict, d => dDict d
  | .sorted, d => sorted d
  | .lenset, d => dLenset d
  | .sortset, d => dSortset d
  | .sum, d => dSum d
  | _, _ => .no
def bi2 : Bi → D → D → R D
  | .tupzip, a, b => dTupzip a b
  | .dictzip, a, b => dDictzip a b
  | .max2, a, b => dMax a b
  | .min2, a, b => dMin a b
  | _, _, _ => .no

def joinL (sep : List Nat) : List (List Nat) → List Nat
  | [] => []
  | [x] => x
  | x :: y :: r => x ++ sep ++ joinL sep (y :: r)

/-- the first place of an equal item -/
def findD (d : D) : List D → Option Nat
  | [] => none
  | x :: xs => if deq x d then some 0 else (findD d xs).map (· + 1)
def countD (d : D) : List D → Nat
  | [] => 0
  | x :: xs => (if deq x d then 1 else 0) + countD d xs

def mJoin : D → D → R D
  | .str s, .lst xs => (match strsOf xs with
    | some ss => if (ss.map List.length).sum + ss.length * s.length ≤ lim then .ok (.str (joinL s ss)) else .no
    | none => .no)
  | _, _ => .no
def mIndex : D → D → R D
  | .lst xs, d => if okd deep d && okds deep xs then (match findD d xs with
    | some j => .ok (.int j)
    | none => .no) else .no
  | _, _ => .no
def mCount : D → D → R D
  | .lst xs, d => if okd deep d && okds deep xs then .ok (.int (countD d xs)) else .no
  | _, _ => .no
def mt1 : Mt → D → D → R D
  | .join, o, d => mJoin o d
  | .index, o, d => mIndex o d
  | .count, o, d => mCount o d
  | _, _, _ => .no

/-- what has the method -/
def mtOk : Mt → D → Bool
  | .join, .str _ => true
  | .index, .lst _ => true
  | .count, .lst _ => true
  | _, _ => false

def numbered : Nat → List D → List D
  | _, [] => []
  | n, x :: xs => .tup [.int n, x] :: numbered (n + 1) xs
def paired : List D → List D → List D
  | x :: xs, y :: ys => .tup [x, y] :: paired xs ys
  | _, _ => []

/-- the items that a walk gives -/
def walk : Ik → List D → R (List D)
  | .val, [.lst xs] => .ok xs
  | .val, [.tup xs] => .ok xs
  | .val, [.str l] => if l.length ≤ lim then .ok (l.map fun c => .str [c]) else .no
  | .range, [.int n] => if -1000000 ≤ n && n ≤ 1000000 then .ok ((List.range n.toNat).map fun (k : Nat) => D.int k) else .no
  | .range2, [.int a, .int b] => if -1000000 ≤ a && a ≤ 1000000 && -1000000 ≤ b && b ≤ 1000000 then .ok ((List.range (b - a).toNat).map fun (k : Nat) => D.int (a + k)) else .no
  | .enum, [.lst xs] => .ok (numbered 0 xs)
  | .zip2, [.lst xs, .lst ys] => .ok (paired xs ys)
  | .zip2, [.tup xs, .tup ys] => .ok (paired xs ys)
  | _, _ => .no

/-! ### slots -/
/-- what a slot holds: nothing, a shared value, a list or dict of the frame's own -/
inductive Sl where
  | no
  | sh (d : D)
  | ow (d : D)
abbrev Env := List Sl
def Sl.val : Sl → R D
  | .no => .no
  | .sh d => .ok d
  | .ow d => .ok d
def look (env : Env) (i : Nat) : R D := match env[i]? with
  | some s => s.val
  | none => .no
/-- the slots of a block's own names forgotten -/
def wipe (env : Env) : List Nat → Env
  | [] => env
  | v :: vs => (wipe env vs).set v .no

mutual
def bind : T → D → Env → R Env
  | .one i, d, env => if i < env.length then .ok (env.set i (.sh d)) else .no
  | .many ts, .tup xs, env => binds ts xs env
  | .many _, _, _ => .no
def binds : List T → List D → Env → R Env
  | [], [], env => .ok env
  | t :: ts, x :: xs, env => (bind t x env).bind fun env' => binds ts xs env'
  | _, _, _ => .no
end

/-- the slots of a target -/
def tslots : T → List Nat
  | .one i => [i]
  | .many ts => tsl ts
where tsl : List T → List Nat
  | [] => []
  | t :: r => tslots t ++ tsl r

def asBool : D → R Bool
  | .bl b => .ok b
  | _ => .no

/-- a comprehension's turns -/
def lcGo (bnd : D → R Env) (test : Env → R Bool) (elt : Env → R D) : List D → R (List D)
  | [] => .ok []
  | x :: xs => (bnd x).bind fun env => (test env).bind fun b =>
      if b then (elt env).bind fun d => (lcGo bnd test elt xs).bind fun r => .ok (d :: r)
      else lcGo bnd test elt xs

/-- no exception leaves a block -/
def calmly {A : Type} : R A → R A
  | .ok a => .ok a
  | _ => .no

def nodupK : List Ky → Bool
  | [] => true
  | k :: r => !decide (k ∈ r) && nodupK r

/-! ### expressions -/
section
variable (glob : Nat → R D) (fn : Nat → List D → R D)
mutual
def ev : E → Env → R D
  | .nul, _ => .ok .non
  | .var i, env => look env i
  | .lit d, _ => .ok d
  | .glo g, _ => glob g
  | .tup es, env => (evs es env).bind fun ds => fit ds.length (.tup ds)
  | .lst es, env => (evs es env).bind fun ds => fit ds.length (.lst ds)
  | .dct ks vs, env => (evs vs env).bind fun es => if (ks.length = es.length && ks.length ≤ 15) && (!ks.isEmpty && nodupK ks) then .ok (.dic ks es) else .no
  | .bin o a b, env => (ev a env).bind fun x => (ev b env).bind fun y => bop o x y
  | .neg a, env => (ev a env).bind fun x => match x with
    | .int i => .ok (.int (-i))
    | _ => .no
  | .cmp o a b, env => (ev a env).bind fun x => (ev b env).bind fun y => (cop o x y).bind fun z => .ok (.bl z)
  | .cmp2 o p a b c, env => (ev a env).bind fun x => (ev b env).bind fun y => (cop o x y).bind fun z =>
      if z then (ev c env).bind fun w => (cop p y w).bind fun u => .ok (.bl u) else .ok (.bl false)
  | .and_ a b, env => (ev a env).bind fun x => (asBool x).bind fun z => if z then ev b env else .ok (.bl false)
  | .or_ a b, env => (ev a env).bind fun x => (asBool x).bind fun z => if z then .ok (.bl true) else ev b env
  | .not_ a, env => (ev a env).bind fun x => (asBool x).bind fun z => .ok (.bl (!z))
  | .ite c a b, env => (ev c env).bind fun x => (asBool x).bind fun z => if z then ev a env else ev b env
  | .idx a i, env => (ev a env).bind fun x => (ev i env).bind fun y => idx x y
  | .slc a l u, env => (ev a env).bind fun x => (if l.isNul then .ok none else (ev l env).bind intOf).bind fun y =>
      (if u.isNul then .ok none else (ev u env).bind intOf).bind fun z => slc x y z
  | .rev a, env => (ev a env).bind fun x => rvs x
  | .call f es, env => (evs es env).bind fun ds => fn f ds
  | .isi a t, env => (ev a env).bind fun x => isTyR t x
  | .isx i a b, env => (look env i).bind fun x => match x with
    | .adr a' => if a' = a then .ok (.bl b) else .no
    | _ => .no
  | .bi1 f a, env => (ev a env).bind fun x => bi1 f x
  | .bi2 f a b, env => (ev a env).bind fun x => (ev b env).bind fun y => bi2 f x y
  | .mt1 m o a, env => (ev o env).bind fun x => if mtOk m x then (ev a env).bind fun y => mt1 m x y else .no
  | .lc e t k args c own, env => (evs args env).bind fun ds => (walk k ds).bind fun xs =>
      (calmly (lcGo (fun x => bind t x (wipe env own)) (fun env' => evc c env') (fun env' => ev e env') xs)).bind fun rs => fit rs.length (.lst rs)
def evs : List E → Env → R (List D)
  | [], _ => .ok []
  | e :: es, env => (ev e env).bind fun d => (evs es env).bind fun ds => .ok (d :: ds)
/-- a clause's tests: none, or one -/
def evc : List E → Env → R Bool
  | [], _ => .ok true
  | e :: _, env => (ev e env).bind fun x => asBool x
end
end

/-! ### statements -/
inductive S where
  | asg (t : T) (e : E) (own : Bool) (uses : List Nat)
  | asgput (i j : Nat) (k e : E) (uses : List Nat)
  | par (js : List Nat) (es : List E)
  | app (i : Nat) (e : E) (uses : List Nat)
  | ext (i : Nat) (e : E) (uses : List Nat)
  | put (i : Nat) (k v : E) (uses : List Nat)
  | exp (e : E)
  | ret (e : E)
  | ite (c : E) (a b : List S)
  | for_ (t : T) (k : Ik) (args : List E) (uses : List Nat) (body : List S)
  | while_ (c : E) (body : List S)
  | raise (c : Nat) (e : E)
  | tryR (e : E) (i : Nat)

inductive Out where
  | nx (env : Env)
  | rt (d : D)
  | ex (c : Nat)
  | no

def flat : D → Bool
  | .non => true
  | .bl _ => true
  | .int _ => true
  | .str _ => true
  | _ => false

/-- own lists and dicts as they are seen: those of uses alone -/
def Sl.seen (b : Bool) : Sl → Sl
  | .ow d => if b then .sh d else .no
  | s => s
def Sl.free (b : Bool) : Sl → Sl
  | .ow d => if b then .sh d else .ow d
  | s => s
def mask (uses : List Nat) (env : Env) : Env := env.mapIdx fun i s => s.seen (decide (i ∈ uses))
def open_ (env : Env) : Env := env.map (Sl.seen true)
def demote (uses : List Nat) (env : Env) : Env := env.mapIdx fun i s => s.free (decide (i ∈ uses))
/-- what is left of them behind a value that is kept -/
def after (d : D) (uses : List Nat) (env : Env) : Env := if flat d then env else demote uses env

def R.out {A : Type} (x : R A) (f : A → Out) : Out :=
  match x with
  | .ok a => f a
  | .ex c => .ex c
  | .no => .no
@[simp] theorem R.out_ok {A : Type} (a : A) (f : A → Out) : R.out (.ok a) f = f a := rfl
@[simp] theorem R.out_ex {A : Type} (c : Nat) (f : A → Out) : R.out (.ex c : R A) f = .ex c := rfl
@[simp] theorem R.out_no {A : Type} (f : A → Out) : R.out (.no : R A) f = .no := rfl

def ownAt (env : Env) (i : Nat) : R D := match env[i]? with
  | some (.ow d) => .ok d
  | _ => .no
/-- a fresh list or dict -/
def fresh : E → Bool
  | .lst _ => true
  | .dct _ _ => true
  | .lc .. => true
  | .bi1 .dict _ => true
  | .bi1 .list _ => true
  | .bi1 .sorted _ => true
  | _ => false
def asgOut (t : T) (own : Bool) (d : D) (env : Env) : R Env :=
  match own, t with
  | true, .one i => if i < env.length then .ok (env.set i (.ow d)) else .no
  | true, .many _ => .no
  | false, t => bind t d env
def parGo : List Nat → List D → Env → R Env
  | [], [], env => .ok env
  | i :: js, d :: ds, env => if i < env.length then parGo js ds (env.set i (.sh d)) else .no
  | _, _, _ => .no
def putOut (i : Nat) (k v : D) (env : Env) : R Env := (ownAt env i).bind fun o => match o with
  | .dic ks vs => (match kyOf k with
    | some k => if small ks.length then (let q := put k v ks vs; .ok (env.set i (.ow (.dic q.1 q.2)))) else .no
    | none => .no)
  | _ => .no

def forGo (bnd : D → Env → R Env) (body : Env → Out) : List D → Env → Out
  | [], env => .nx env
  | x :: xs, env => (bnd x env).out fun env' => match body env' with
    | .nx env2 => forGo bnd body xs env2
    | .rt d => .rt d
    | .ex c => .ex c
    | .no => .no
def whileGo (test : Env → R Bool) (body : Env → Out) : Nat → Env → Out
  | 0, _ => .no
  | n + 1, env => (test env).out fun b => if b then (match body env with
    | .nx env2 => whileGo test body n env2
    | .rt d => .rt d
    | .ex c => .ex c
    | .no => .no) else .nx env
def turns : Nat := 100000

section
variable (glob : Nat → R D) (fn : Nat → List D → R D) (refu : Nat → R D)
mutual
def exS : S → Env → Out
  | .asg t e own uses, env => (ev glob fn e (mask uses env)).out fun d =>
      if own && !fresh e then .no else (asgOut t own d (if own then demote uses env else after d uses env)).out .nx
  | .asgput i j k e uses, env => (ev glob fn e (mask uses env)).out fun d => match d with
    | .tup [a, b] => (bind (.one i) a (after d uses env)).out fun env1 => (ev glob fn k (mask [] env1)).out fun kd => if flat kd then (putOut j kd b env1).out .nx else .no
    | _ => .no
  | .par js es, env => (evs glob fn es (open_ env)).out fun ds => if ds.all flat then (parGo js ds env).out .nx else .no
  | .app i e uses, env => (ownAt env i).out fun o => match o with
    | .lst xs => (ev glob fn e (mask uses env)).out fun d => (ownAt (after d uses env) i).out fun _ =>
      if xs.length < lim then .nx ((after d uses env).set i (.ow (.lst (xs ++ [d])))) else .no
    | _ => .no
  | .ext i e uses, env => (ev glob fn e (mask uses env)).out fun d => (ownAt (demote uses env) i).out fun o => match o, d with
    | .lst xs, .lst ys => if xs.length + ys.length ≤ lim then .nx ((demote uses env).set i (.ow (.lst (xs ++ ys)))) else .no
    | _, _ => .no
  | .put i k v uses, env => (ev glob fn v (mask uses env)).out fun d => (ev glob fn k (mask [] (after d uses env))).out fun kd =>
      if flat kd then (putOut i kd d (after d uses env)).out .nx else .no
  | .exp e, env => (ev glob fn e (open_ env)).out fun _ => .nx env
  | .ret e, env => (ev glob fn e (open_ env)).out .rt
  | .ite c a b, env => ((ev glob fn c (open_ env)).bind asBool).out fun z => if z then exSs a env else exSs b env
  | .for_ t k args uses body, env => (evs glob fn args (mask uses env)).out fun ds => (walk k ds).out fun xs =>
      forGo (fun x env' => bind t x env') (fun env' => exSs body env') xs (demote uses env)
  | .while_ c body, env => whileGo (fun env' => (ev glob fn c (open_ env')).bind asBool) (fun env' => exSs body env') turns env
  | .raise c e, env => (ev glob fn e (open_ env)).out fun _ => .ex c
  | .tryR e _, env => match ev glob fn e (open_ env) with
    | .ok d => .rt d
    | .ex c => (refu c).out .rt
    | .no => .no
def exSs : List S → Env → Out
  | [], env => .nx env
  | s :: ss, env => match exS s env with
    | .nx env' => exSs ss env'
    | .rt d => .rt d
    | .ex c => .ex c
    | .no => .no
end
end

/-- a def: how many parameters, how many slots, its body -/
structure Fd where
  ps : Nat
  ns : Nat
  body : List S
def start (fd : Fd) (ds : List D) : Env := ds.map Sl.sh ++ List.replicate (fd.ns - ds.length) .no
def ended : Out → R D
  | .nx _ => .ok .non
  | .rt d => .ok d
  | .ex c => .ex c
  | .no => .no
/-- the program: constants, defs, what a refusal is told as -/
structure Pr where
  glob : Nat → R D
  fd : Nat → Option Fd
  refu : Nat → R D
def callF (P : Pr) : Nat → Nat → List D → R D
  | 0, _, _ => .no
  | n + 1, f, ds => match P.fd f with
    | some fd => if ds.length = fd.ps then ended (exSs P.glob (callF P n) P.refu fd.body (start fd ds)) else .no
    | none => .no
end Ev

/-! What stands in the machine for plain data. -/
namespace Ev
open PySem L2

abbrev tx (l : List Nat) : Str := ⟨l.toArray⟩
@[simp] theorem tx_list (l : List Nat) : (tx l).cps.toList = l := rfl
@[simp] theorem tx_len (l : List Nat) : (tx l).length = l.length := by simp [tx, Str.length]
theorem tx_inj {a b : List Nat} : tx a = tx b ↔ a = b := by
  constructor
  · intro h
    have := congrArg (fun z : Str => z.cps.toList) h
    simpa using this
  · intro h; rw [h]
theorem tx_app (a b : List Nat) : tx a ++ tx b = tx (a ++ b) := by
  show Str.append _ _ = _
  simp [Str.append, tx]
/-- codes that are signs -/
def okc (l : List Nat) : Bool := l.all (· < 0x110000)
theorem okc_app {a b : List Nat} (h : okc a = true) (g : okc b = true) : okc (a ++ b) = true := by
  unfold okc at *; rw [List.all_append, h, g]; rfl
theorem okc_sub {a b : List Nat} (h : okc a = true) (g : ∀ c ∈ b, c ∈ a) : okc b = true := by
  unfold okc at *
  rw [List.all_eq_true] at *
  exact fun c hc => h c (g c hc)

def kyK : Ky → Key
  | .i n => .inl n
  | .s l => .inr (tx l)
theorem kyK_inj {a b : Ky} (h : kyK a = kyK b) : a = b := by
  cases a <;> cases b <;> simp [kyK] at h
  · rw [h]
  · have := tx_inj.mp (by simpa [tx] using h); rw [this]

mutual
/-- v stands for d, in the part F of the heap that does not change -/
def Rep (K : PySem.W.Frag) (w : World) (F : Hp) : D → V → Prop
  | .non, v => v = .non
  | .bl b, v => v = .bl b
  | .int i, v => v = .int i
  | .str l, v => v = .str (tx l) ∧ okc l = true
  | .tup ds, v => ∃ a vs, v = .ref a ∧ SqT K F a vs ∧ Reps K w F ds vs
  | .lst ds, v => ∃ a vs, v = .ref a ∧ F a = some (.lst vs) ∧ Reps K w F ds vs
  | .dic ks ds, v => ∃ a kvs, v = .ref a ∧ F a = some (.dK kvs) ∧ kvs.map (·.1) = ks.map kyK ∧ ks.Nodup ∧ Reps K w F ds (kvs.map (·.2))
  | .scr ns, v => ∃ a, v = .ref a ∧ SqL K F a (ns.map V.int)
  | .adr a, v => v = .ref a
  | .gdc ks ds, v => ∃ a es n vs, v = .ref a ∧ KDict K w a es n ∧ Reps K w F ds vs ∧ ks.length = vs.length ∧
      (∀ l, l ∉ ks → PySem.W.nsIn K a (tx l) = some none) ∧
      ∀ (i : Nat) (l : List Nat) (x : V), ks[i]? = some l → vs[i]? = some x → ∃ u, PySem.W.nsIn K a (tx l) = some (some u) ∧ RelV x u
def Reps (K : PySem.W.Frag) (w : World) (F : Hp) : List D → List V → Prop
  | [], vs => vs = []
  | d :: ds, vs => ∃ v r, vs = v :: r ∧ Rep K w F d v ∧ Reps K w F ds r
end

section
variable {K : PySem.W.Frag} {w : World} {F F' H H' : Hp}
theorem Same.tup {a : Addr} {xs : List V} (e : Same F F') (h : SqT K F a xs) : SqT K F' a xs := by
  rcases h with (h | ⟨o, h⟩) | h
  · exact .inl (.inl (e _ _ h))
  · exact .inl (.inr ⟨o, e _ _ h⟩)
  · exact .inr h
mutual
theorem Rep.mono (e : Same F F') : ∀ (d : D) (v : V), Rep K w F d v → Rep K w F' d v
  | .non, _, h => h
  | .bl _, _, h => h
  | .int _, _, h => h
  | .str _, _, h => h
  | .tup ds, v, ⟨a, vs, h1, h2, h3⟩ => ⟨a, vs, h1, Same.tup e h2, Reps.mono e ds vs h3⟩
  | .lst ds, v, ⟨a, vs, h1, h2, h3⟩ => ⟨a, vs, h1, e _ _ h2, Reps.mono e ds vs h3⟩
  | .dic ks ds, v, ⟨a, kvs, h1, h2, h3, h4, h5⟩ => ⟨a, kvs, h1, e _ _ h2, h3, h4, Reps.mono e ds _ h5⟩
  | .scr ns, v, ⟨a, h1, h2⟩ => ⟨a, h1, e.seq h2⟩
  | .adr _, _, h => h
  | .gdc ks ds, v, ⟨a, es, n, vs, h1, h2, h3, h4, h5, h6⟩ => ⟨a, es, n, vs, h1, h2, Reps.mono e ds vs h3, h4, h5, h6⟩
theorem Reps.mono (e : Same F F') : ∀ (ds : List D) (vs : List V), Reps K w F ds vs → Reps K w F' ds vs
  | [], _, h => h
  | d :: ds, vs, ⟨v, r, h1, h2, h3⟩ => ⟨v, r, h1, Rep.mono e d v h2, Reps.mono e ds r h3⟩
end
theorem Reps.length : ∀ {ds : List D} {vs : List V}, Reps K w F ds vs → ds.length = vs.length
  | [], _, h => by rw [show _ = [] from h]; rfl
  | d :: ds, vs, ⟨v, r, h1, h2, h3⟩ => by rw [h1, List.length_cons, List.length_cons, Reps.length h3]
theorem Reps.get : ∀ {ds : List D} {vs : List V} {i : Nat} {d : D}, Reps K w F ds vs → ds[i]? = some d → ∃ v, vs[i]? = some v ∧ Rep K w F d v
  | [], _, i, _, _, e => by simp at e
  | d :: ds, vs, 0, d', ⟨v, r, h1, h2, h3⟩, e => by
    simp only [List.getElem?_cons_zero, Option.some.injEq] at e
    subst e
    exact ⟨v, by rw [h1]; rfl, h2⟩
  | d :: ds, vs, i + 1, d', ⟨v, r, h1, h2, h3⟩, e => by
    rw [List.getElem?_cons_succ] at e
    obtain ⟨x, q1, q2⟩ := Reps.get h3 e
    exact ⟨x, by rw [h1, List.getElem?_cons_succ]; exact q1, q2⟩
theorem Reps.get' : ∀ {ds : List D} {vs : List V} {i : Nat} {v : V}, Reps K w F ds vs → vs[i]? = some v → ∃ d, ds[i]? = some d ∧ Rep K w F d v
  | [], vs, i, _, h, e => by rw [show vs = [] from h] at e; simp at e
  | d :: ds, vs, 0, x, ⟨v, r, h1, h2, h3⟩, e => by
    rw [h1] at e
    simp only [List.getElem?_cons_zero, Option.some.injEq] at e
    subst e
    exact ⟨d, rfl, h2⟩
  | d :: ds, vs, i + 1, x, ⟨v, r, h1, h2, h3⟩, e => by
    rw [h1, List.getElem?_cons_succ] at e
    obtain ⟨y, q1, q2⟩ := Reps.get' h3 e
    exact ⟨y, by rw [List.getElem?_cons_succ]; exact q1, q2⟩
theorem Reps.append : ∀ {ds es : List D} {vs us : List V}, Reps K w F ds vs → Reps K w F es us → Reps K w F (ds ++ es) (vs ++ us)
  | [], es, vs, us, h, g => by rw [show vs = [] from h]; exact g
  | d :: ds, es, vs, us, ⟨v, r, h1, h2, h3⟩, g => ⟨v, r ++ us, by rw [h1]; rfl, h2, Reps.append h3 g⟩
theorem Reps.take : ∀ {ds : List D} {vs : List V} (n : Nat), Reps K w F ds vs → Reps K w F (ds.take n) (vs.take n)
  | [], vs, n, h => by rw [show vs = [] from h]; simp [Reps]
  | d :: ds, vs, 0, h => by simp [Reps]
  | d :: ds, vs, n + 1, ⟨v, r, h1, h2, h3⟩ => ⟨v, r.take n, by rw [h1]; rfl, h2, Reps.take n h3⟩
theorem Reps.drop : ∀ {ds : List D} {vs : List V} (n : Nat), Reps K w F ds vs → Reps K w F (ds.drop n) (vs.drop n)
  | [], vs, n, h => by rw [show vs = [] from h]; simp [Reps]
  | d :: ds, vs, 0, h => h
  | d :: ds, vs, n + 1, ⟨v, r, h1, h2, h3⟩ => by rw [h1]; exact Reps.drop n h3
theorem Reps.reverse : ∀ {ds : List D} {vs : List V}, Reps K w F ds vs → Reps K w F ds.reverse vs.reverse
  | [], vs, h => by rw [show vs = [] from h]; simp [Reps]
  | d :: ds, vs, ⟨v, r, h1, h2, h3⟩ => by
    rw [h1, List.reverse_cons, List.reverse_cons]
    exact Reps.append (Reps.reverse h3) ⟨v, [], rfl, h2, rfl⟩
theorem Reps.one {d : D} {v : V} (h : Rep K w F d v) : Reps K w F [d] [v] := ⟨v, [], rfl, h, rfl⟩
theorem Reps.rep {ds : List D} {vs : List V} (h : Reps K w F ds vs) : ∀ n, Reps K w F (Ev.rep n ds) (Ev.rep n vs)
  | 0 => by simp [Ev.rep, Reps]
  | n + 1 => by
    have e1 : Ev.rep (n + 1) ds = ds ++ Ev.rep n ds := by simp [Ev.rep, List.replicate_succ]
    have e2 : Ev.rep (n + 1) vs = vs ++ Ev.rep n vs := by simp [Ev.rep, List.replicate_succ]
    rw [e1, e2]
    exact Reps.append h (Reps.rep h n)
/-- scalars need no heap -/
theorem Rep.flat {d : D} {v : V} (h : Rep K w F d v) (hf : flat d = true) (F' : Hp) : Rep K w F' d v := by
  cases d <;> first | exact h | cases hf

/-! ### the parts grow -/
structure Ext (F H F' H' : Hp) : Prop where
  sub : Same F F'
  inH : Same F' H'
  same : Same H H'
  new : ∀ a, H a ≠ none → F a = none → F' a = none
theorem Ext.refl (h : Same F H) : Ext F H F H := ⟨Same.refl _, h, Same.refl _, fun _ _ e => e⟩
theorem Ext.trans {F1 H1 F2 H2 : Hp} (a : Ext F H F1 H1) (b : Ext F1 H1 F2 H2) : Ext F H F2 H2 :=
  ⟨a.sub.trans b.sub, b.inH, a.same.trans b.same, fun x hx hf => b.new x (fun z => by
    cases q : H x with
    | none => exact hx q
    | some o => rw [a.same x o q] at z; cases z) (a.new x hx hf)⟩
theorem same_upd {p : Addr} {o : HO} (h : H p = none) : Same H (upd H p o) := fun b u q => by
  rw [upd_ne (ne_of_none q h)]; exact q
theorem same_upd2 {p : Addr} {o : HO} (h : Same F H) : Same (upd F p o) (upd H p o) := fun b u q => by
  unfold upd at *
  split
  · rename_i e; rw [if_pos e] at q; exact q
  · rename_i e; rw [if_neg e] at q; exact h b u q
theorem Ext.new1 {p : Addr} (o : HO) (h : Same F H) (hp : H p = none) : Ext F H (upd F p o) (upd H p o) :=
  ⟨same_upd (h.free hp), same_upd2 h, same_upd hp, fun a ha hf => by rw [upd_ne (fun e => ha (by rw [e]; exact hp))]; exact hf⟩
/-- a new object beside the part -/
theorem Ext.own {p : Addr} (o : HO) (h : Same F H) (hp : H p = none) : Ext F H F (upd H p o) :=
  ⟨Same.refl _, fun b u q => same_upd hp b u (h b u q), same_upd hp, fun _ _ e => e⟩

/-- what is wanted behind a value -/
def fin (K : PySem.W.Frag) (w : World) (r : R D) (F H : Hp) (Q : VK) (X : Nat → Hp → Prop) : Prop :=
  match r with
  | .ok d => ∀ v F' H', Ext F H F' H' → Rep K w F' d v → Q v H'
  | .ex c => ∀ H', Same H H' → X c H'
  | .no => False
abbrev fin0 (K : PySem.W.Frag) (w : World) (r : R D) (F H : Hp) (Q : VK) : Prop := fin K w r F H Q fun _ _ => False
theorem fin_ok {d : D} {v : V} {Q : VK} {Xc : Nat → Hp → Prop} (h : fin K w (.ok d) F H Q Xc) (hs : Same F H) (r : Rep K w F d v) : Q v H := h v F H (Ext.refl hs) r
theorem fin_tup {ds : List D} {vs : List V} {Q : VK} {Xc : Nat → Hp → Prop} (h : fin K w (.ok (.tup ds)) F H Q Xc) (hs : Same F H) (r : Reps K w F ds vs) (p : Addr) (hp : H p = none) : Q (.ref p) (upd H p (.tup vs)) :=
  h (.ref p) _ _ (Ext.new1 (.tup vs) hs hp) ⟨p, vs, rfl, SqT.of upd_same, Reps.mono (same_upd (hs.free hp)) ds vs r⟩
theorem fin_lst {ds : List D} {vs : List V} {Q : VK} {Xc : Nat → Hp → Prop} (h : fin K w (.ok (.lst ds)) F H Q Xc) (hs : Same F H) (r : Reps K w F ds vs) (p : Addr) (hp : H p = none) : Q (.ref p) (upd H p (.lst vs)) :=
  h (.ref p) _ _ (Ext.new1 (.lst vs) hs hp) ⟨p, vs, rfl, upd_same, Reps.mono (same_upd (hs.free hp)) ds vs r⟩
end
end Ev

/-! The operators, by plain data. -/
namespace Ev
open PySem L2

theorem lim_eq : lim = sizeLine := by rw [sizeLine_eq]; rfl

/-! ### plain data as the library has it -/
mutual
def toPy : D → PyData
  | .bl b => .bool b
  | .int i => .int i
  | .str l => .str (tx l)
  | .tup xs => .tuple (toPys xs)
  | .lst xs => .list (toPys xs)
  | .non => .none
  | .dic _ _ => .none
  | .scr _ => .none
  | .gdc _ _ => .none
  | .adr _ => .none
def toPys : List D → List PyData
  | [] => []
  | x :: xs => toPy x :: toPys xs
end

theorem strOk_of {l : List Nat} (h : okc l = true) : PyData.strOk (tx l) = true := by
  unfold PyData.strOk
  unfold okc at h
  simpa using h

section
variable {K : PySem.W.Frag} {w : World} {F H : Hp}
mutual
theorem dp_of (hs : Same F H) : ∀ (n : Nat) (d : D) (v : V), okd n d = true → Rep K w F d v → Dp K H v (toPy d) ∧ (toPy d).canLay0 = true ∧ (toPy d).depth ≤ n
  | n, .non, v, _, r => by
    obtain rfl : v = .non := r
    exact ⟨.non, rfl, Nat.zero_le _⟩
  | n, .bl b, v, _, r => by
    obtain rfl : v = .bl b := r
    exact ⟨.bl b, rfl, Nat.zero_le _⟩
  | n, .int i, v, _, r => by
    obtain rfl : v = .int i := r
    exact ⟨.int i, rfl, Nat.zero_le _⟩
  | n, .str l, v, _, r => by
    obtain ⟨rfl, ho⟩ := r
    refine ⟨.str _, ?_, Nat.zero_le _⟩
    show PyData.canLay0 (.str (tx l)) = true
    rw [PyData.canLay0]
    exact strOk_of ho
  | n + 1, .tup xs, v, h, ⟨a, vs, hv, hq, hr⟩ => by
    obtain ⟨p, q, r⟩ := dps_of hs n xs vs h hr
    subst hv
    refine ⟨.tup (Same.tup hs hq) p, ?_, ?_⟩
    · show PyData.canLay0 (.tuple (toPys xs)) = true
      rw [PyData.canLay0]; exact q
    · show PyData.depth (.tuple (toPys xs)) ≤ n + 1
      rw [PyData.depth]; omega
  | n + 1, .lst xs, v, h, ⟨a, vs, hv, hq, hr⟩ => by
    obtain ⟨p, q, r⟩ := dps_of hs n xs vs h hr
    subst hv
    refine ⟨.lst (SqL.of (hs _ _ hq)) p, ?_, ?_⟩
    · show PyData.canLay0 (.list (toPys xs)) = true
      rw [PyData.canLay0]; exact q
    · show PyData.depth (.list (toPys xs)) ≤ n + 1
      rw [PyData.depth]; omega
  | 0, .tup _, _, h, _ => by cases h
  | 0, .lst _, _, h, _ => by cases h
  | 0, .dic _ _, _, h, _ => by cases h
  | _ + 1, .dic _ _, _, h, _ => by cases h
  | 0, .scr _, _, h, _ => by cases h
  | _ + 1, .scr _, _, h, _ => by cases h
  | 0, .gdc _ _, _, h, _ => by cases h
  | _ + 1, .gdc _ _, _, h, _ => by cases h
  | 0, .adr _, _, h, _ => by cases h
  | _ + 1, .adr _, _, h, _ => by cases h
theorem dps_of (hs : Same F H) : ∀ (n : Nat) (ds : List D) (vs : List V), okds n ds = true → Reps K w F ds vs → DpAll K H vs (toPys ds) ∧ PyData.canLayAll0 (toPys ds) = true ∧ PyData.depthAll (toPys ds) ≤ n
  | n, [], vs, _, r => by
    obtain rfl : vs = [] := r
    exact ⟨.nil, rfl, Nat.zero_le _⟩
  | n, d :: ds, vs, h, ⟨v, r, hv, h1, h2⟩ => by
    have h' : okd n d = true ∧ okds n ds = true := by simpa [okds] using h
    obtain ⟨a1, a2, a3⟩ := dp_of hs n d v h'.1 h1
    obtain ⟨b1, b2, b3⟩ := dps_of hs n ds r h'.2 h2
    subst hv
    refine ⟨.cons a1 b1, ?_, ?_⟩
    · show PyData.canLayAll0 (toPy d :: toPys ds) = true
      rw [PyData.canLayAll0, a2, b2]; rfl
    · show PyData.depthAll (toPy d :: toPys ds) ≤ n
      rw [PyData.depthAll]; exact Nat.max_le.mpr ⟨a3, b3⟩
end
theorem shaped_of {d : D} (h1 : (toPy d).canLay0 = true) (h2 : (toPy d).depth ≤ 60) : SeqAt.shaped (toPy d) = true := by
  unfold SeqAt.shaped
  rw [h1]
  exact decide_eq_true (Nat.le_trans h2 (by decide))
mutual
theorem eqv_deq : ∀ (n m : Nat) (a b : D), okd n a = true → okd m b = true → PyData.eqv (toPy a) (toPy b) = deq a b
  | n, m, .non, b, ha, hb => by cases b <;> first | rfl | (cases m <;> cases hb)
  | n, m, .bl _, b, ha, hb => by cases b <;> first | rfl | (cases m <;> cases hb)
  | n, m, .int _, b, ha, hb => by cases b <;> first | rfl | (cases m <;> cases hb)
  | n, m, .str x, b, ha, hb => by
    cases b with
    | str y =>
      show (tx x == tx y) = (x == y)
      by_cases e : x = y
      · subst e; simp
      · have : ¬ tx x = tx y := fun h => e (tx_inj.mp h)
        rw [beq_eq_false_iff_ne.mpr this, beq_eq_false_iff_ne.mpr e]
    | dic _ _ => cases m <;> cases hb
    | scr _ => cases m <;> cases hb
    | gdc _ _ => cases m <;> cases hb
    | adr _ => cases m <;> cases hb
    | _ => rfl
  | 0, m, .tup _, b, ha, hb => by cases ha
  | 0, m, .lst _, b, ha, hb => by cases ha
  | n + 1, m, .tup xs, b, ha, hb => by
    cases b with
    | tup ys =>
      cases m with
      | zero => cases hb
      | succ m =>
        show PyData.eqvAll (toPys xs) (toPys ys) = deqs xs ys
        exact eqvs_deqs n m xs ys ha hb
    | dic _ _ => cases m <;> cases hb
    | scr _ => cases m <;> cases hb
    | gdc _ _ => cases m <;> cases hb
    | adr _ => cases m <;> cases hb
    | _ => rfl
  | n + 1, m, .lst xs, b, ha, hb => by
    cases b with
    | lst ys =>
      cases m with
      | zero => cases hb
      | succ m =>
        show PyData.eqvAll (toPys xs) (toPys ys) = deqs xs ys
        exact eqvs_deqs n m xs ys ha hb
    | dic _ _ => cases m <;> cases hb
    | scr _ => cases m <;> cases hb
    | gdc _ _ => cases m <;> cases hb
    | adr _ => cases m <;> cases hb
    | _ => rfl
  | 0, m, .dic _ _, _, h, _ => by cases h
  | _ + 1, m, .dic _ _, _, h, _ => by cases h
  | 0, m, .scr _, _, h, _ => by cases h
  | _ + 1, m, .scr _, _, h, _ => by cases h
  | 0, m, .gdc _ _, _, h, _ => by cases h
  | _ + 1, m, .gdc _ _, _, h, _ => by cases h
  | 0, m, .adr _, _, h, _ => by cases h
  | _ + 1, m, .adr _, _, h, _ => by cases h
theorem eqvs_deqs : ∀ (n m : Nat) (a b : List D), okds n a = true → okds m b = true → PyData.eqvAll (toPys a) (toPys b) = deqs a b
  | n, m, [], [], _, _ => rfl
  | n, m, [], _ :: _, _, _ => rfl
  | n, m, _ :: _, [], _, _ => rfl
  | n, m, x :: xs, y :: ys, ha, hb => by
    have h1 : okd n x = true ∧ okds n xs = true := by simpa [okds] using ha
    have h2 : okd m y = true ∧ okds m ys = true := by simpa [okds] using hb
    show (PyData.eqv (toPy x) (toPy y) && PyData.eqvAll (toPys xs) (toPys ys)) = (deq x y && deqs xs ys)
    rw [eqv_deq n m x y h1.1 h2.1, eqvs_deqs n m xs ys h1.2 h2.2]
end
end

/-! ### two-place operators -/
def rd2 (K : PySem.W.Frag) (w : World) (f : D → D → R D) : R2 := fun x y H Q => ∃ F d e, Same F H ∧ Rep K w F d x ∧ Rep K w F e y ∧ fin0 K w (f d e) F H Q
def opOf : B2 → Operator
  | .add => .Add
  | .sub => .Sub
  | .mul => .Mult
  | .fdiv => .FloorDiv
  | .mod => .Mod
section
variable {X : Cx}
theorem fit_fin {K : PySem.W.Frag} {w : World} {n : Nat} {d : D} {F H : Hp} {Q : VK} {Xc : Nat → Hp → Prop} (h : fin K w (fit n d) F H Q Xc) : n ≤ lim ∧ fin K w (.ok d) F H Q Xc := by
  unfold fit at h
  split at h
  · exact ⟨by assumption, h⟩
  · exact False.elim h
theorem ite_fin {K : PySem.W.Frag} {w : World} {c : Prop} [Decidable c] {r : R D} {F H : Hp} {Q : VK} {Xc : Nat → Hp → Prop} (h : fin K w (if c then r else .no) F H Q Xc) : c ∧ fin K w r F H Q Xc := by
  split at h
  · exact ⟨by assumption, h⟩
  · exact False.elim h
theorem ref_tup {K : PySem.W.Frag} {w : World} {F : Hp} {a : Addr} {vs : List V} {ds : List D} (h1 : SqT K F a vs) (h2 : Reps K w F ds vs) : Rep K w F (.tup ds) (.ref a) := ⟨a, vs, rfl, h1, h2⟩
set_option maxHeartbeats 1000000 in
theorem op_bop (o : B2) : OpR X (binaryOp (opOf o)) (rd2 X.K X.w (bop o)) := by
  intro pins s σ H x y v u Q I rx ry h
  obtain ⟨F, d, e, hs, hd, he, q⟩ := h
  cases o with
  | add =>
    cases d with
    | int a =>
      cases e with
      | int b =>
        obtain rfl : x = .int a := hd
        obtain rfl : y = .int b := he
        exact op_add pins s σ H _ _ v u Q I rx ry ⟨a, b, rfl, rfl, fin_ok q hs rfl⟩
      | _ => exact False.elim q
    | str a =>
      cases e with
      | str b =>
        obtain ⟨rfl, oa⟩ := hd
        obtain ⟨rfl, ob⟩ := he
        obtain ⟨hn, q⟩ := fit_fin (show fin _ _ (fit _ _) F H Q _ from q)
        refine op_add_str pins s σ H _ _ v u Q I rx ry ⟨_, _, rfl, rfl, by rw [tx_len, tx_len, ← lim_eq]; exact hn, ?_⟩
        rw [tx_app]
        exact fin_ok q hs ⟨rfl, okc_app oa ob⟩
      | _ => exact False.elim q
    | tup a =>
      cases e with
      | tup b =>
        obtain ⟨a1, vs, rfl, h1, h2⟩ := hd
        obtain ⟨a2, us, rfl, h3, h4⟩ := he
        obtain ⟨hn, q⟩ := fit_fin (show fin _ _ (fit _ _) F H Q _ from q)
        refine op_catA pins s σ H _ _ v u Q I rx ry ⟨a1, a2, vs, us, rfl, rfl, Same.tup hs h1, Same.tup hs h3, by rw [← h2.length, ← h4.length, ← lim_eq]; exact hn, fun e => ?_, fun _ e => ?_, fun _ _ p hp => ?_⟩
        · subst e
          have : a = [] := List.length_eq_zero_iff.mp h2.length
          subst this
          exact fin_ok q hs (ref_tup h3 h4)
        · subst e
          have : b = [] := List.length_eq_zero_iff.mp h4.length
          subst this
          exact fin_ok q hs (by rw [List.append_nil]; exact ref_tup h1 h2)
        · exact fin_tup q hs (h2.append h4) p hp
      | _ => exact False.elim q
    | lst a =>
      cases e with
      | lst b =>
        obtain ⟨a1, vs, rfl, h1, h2⟩ := hd
        obtain ⟨a2, us, rfl, h3, h4⟩ := he
        obtain ⟨hn, q⟩ := fit_fin (show fin _ _ (fit _ _) F H Q _ from q)
        exact op_cat pins s σ H _ _ v u Q I rx ry ⟨a1, a2, vs, us, rfl, rfl, hs _ _ h1, hs _ _ h3, by rw [← h2.length, ← h4.length, ← lim_eq]; exact hn, fun p hp => fin_lst q hs (h2.append h4) p hp⟩
      | _ => exact False.elim q
    | _ => cases e <;> exact False.elim q
  | sub =>
    cases d with
    | int a =>
      cases e with
      | int b =>
        obtain rfl : x = .int a := hd
        obtain rfl : y = .int b := he
        exact op_sub pins s σ H _ _ v u Q I rx ry ⟨a, b, rfl, rfl, fin_ok q hs rfl⟩
      | _ => exact False.elim q
    | _ => cases e <;> exact False.elim q
  | mul =>
    cases d with
    | int a =>
      cases e with
      | int b =>
        obtain rfl : x = .int a := hd
        obtain rfl : y = .int b := he
        obtain ⟨c, q⟩ := ite_fin (show fin _ _ (if _ then _ else _) F H Q _ from q)
        refine op_mul pins s σ H _ _ v u Q I rx ry ⟨a, b, rfl, rfl, ?_, fin_ok q hs rfl⟩
        simp only [Bool.or_eq_true, decide_eq_true_eq] at c
        rcases c with c | c
        · exact .inl ⟨by omega, by omega⟩
        · exact .inr ⟨by omega, by omega⟩
      | _ => exact False.elim q
    | tup a =>
      cases e with
      | int k =>
        obtain ⟨a1, vs, rfl, h1, h2⟩ := hd
        obtain rfl : y = .int k := he
        obtain ⟨c, q⟩ := ite_fin (show fin _ _ (if _ then _ else _) F H Q _ from q)
        simp only [Bool.and_eq_true, decide_eq_true_eq, Bool.not_eq_true', List.isEmpty_eq_false_iff] at c
        obtain ⟨⟨⟨c1, c2⟩, c3⟩, c4⟩ := c
        have hl := h2.length
        refine op_repT pins s σ H _ _ v u Q I rx ry ⟨a1, k, vs, rfl, rfl, Same.tup hs h1, ?_, c2, c3, by omega, fun p hp => fin_tup q hs (h2.rep k.toNat) p hp⟩
        intro e
        subst e
        exact c4 (List.length_eq_zero_iff.mp hl)
      | _ => exact False.elim q
    | lst a =>
      cases e with
      | int k =>
        obtain ⟨a1, vs, rfl, h1, h2⟩ := hd
        obtain rfl : y = .int k := he
        obtain ⟨c, q⟩ := ite_fin (show fin _ _ (if _ then _ else _) F H Q _ from q)
        simp only [Bool.and_eq_true, decide_eq_true_eq] at c
        obtain ⟨hn, q⟩ := fit_fin q
        exact op_rep pins s σ H _ _ v u Q I rx ry ⟨a1, k, vs, rfl, rfl, hs _ _ h1, by omega, by omega, by rw [← h2.length, ← lim_eq]; exact hn, fun p hp => fin_lst q hs (h2.rep k.toNat) p hp⟩
      | _ => exact False.elim q
    | _ => cases e <;> exact False.elim q
  | fdiv =>
    cases d with
    | int a =>
      cases e with
      | int b =>
        obtain rfl : x = .int a := hd
        obtain rfl : y = .int b := he
        obtain ⟨c, q⟩ := ite_fin (show fin _ _ (if _ then _ else _) F H Q _ from q)
        simp only [Bool.and_eq_true, decide_eq_true_eq] at c
        exact op_fdiv pins s σ H _ _ v u Q I rx ry ⟨a, b, rfl, rfl, c, fin_ok q hs rfl⟩
      | _ => exact False.elim q
    | _ => cases e <;> exact False.elim q
  | mod =>
    cases d with
    | int a =>
      cases e with
      | int b =>
        obtain rfl : x = .int a := hd
        obtain rfl : y = .int b := he
        obtain ⟨c, q⟩ := ite_fin (show fin _ _ (if _ then _ else _) F H Q _ from q)
        exact op_mod pins s σ H _ _ v u Q I rx ry ⟨a, b, rfl, rfl, c, fin_ok q hs rfl⟩
      | _ => exact False.elim q
    | _ => cases e <;> exact False.elim q
end
end Ev

/-! Comparisons, by plain data. -/
namespace Ev
open PySem L2

theorem R.bind_eq_ok {A B : Type} {x : R A} {f : A → R B} {b : B} (h : R.bind x f = .ok b) : ∃ a, x = .ok a ∧ f a = .ok b := by
  cases x with
  | ok a => exact ⟨a, rfl, h⟩
  | ex c => cases h
  | no => cases h

/-! ### dicts -/
theorem toPys_map : ∀ ds : List D, toPys ds = ds.map toPy
  | [] => rfl
  | d :: ds => by rw [toPys, toPys_map ds]; rfl
section
variable {K : PySem.W.Frag} {w : World} {F H : Hp}
theorem mem_kyK {k : Ky} {ks : List Ky} : kyK k ∈ ks.map kyK ↔ k ∈ ks := by
  constructor
  · intro h
    obtain ⟨x, hx, e⟩ := List.mem_map.mp h
    rw [← kyK_inj e]; exact hx
  · exact List.mem_map_of_mem
theorem valV_some_iff {k : Key} : ∀ {kvs : List (Key × V)}, (valV kvs k).isSome = true ↔ k ∈ kvs.map (Prod.fst : Key × V → Key)
  | [] => by simp [valV]
  | p :: r => by
    by_cases e : p.1 = k
    · rw [valV_pos e, List.map_cons]; simp [e]
    · rw [valV_neg e, valV_some_iff, List.map_cons, List.mem_cons]
      exact ⟨.inr, fun h => h.resolve_left fun z => e z.symm⟩
theorem kyAt_val : ∀ {ks : List Ky} {kvs : List (Key × V)} {k : Ky}, kvs.map (·.1) = ks.map kyK → valV kvs (kyK k) = (kyAt k ks).bind fun i => (kvs.map (·.2))[i]?
  | [], [], _, _ => rfl
  | [], _ :: _, _, h => by simp at h
  | _ :: _, [], _, h => by simp at h
  | x :: ks, p :: kvs, k, h => by
    simp only [List.map_cons, List.cons.injEq] at h
    by_cases e : x = k
    · subst e
      rw [valV_pos h.1, kyAt, if_pos rfl]; rfl
    · have ne : ¬ p.1 = kyK k := fun z => e (kyK_inj (h.1.symm.trans z))
      rw [valV_neg ne, kyAt, if_neg e, kyAt_val h.2]
      cases kyAt k ks <;> rfl
/-- the key that a value is -/
theorem ky_of {d : D} {v : V} {k : Ky} (h : kyOf d = some k) (r : Rep K w F d v) : v = kV (kyK k) := by
  cases d with
  | int i => cases h; exact r
  | str l => cases h; exact r.1
  | _ => cases h
theorem txAt_some : ∀ {ks : List (List Nat)} {l : List Nat} {i : Nat}, txAt l ks = some i → ks[i]? = some l
  | [], _, _, h => by cases h
  | x :: ks, l, i, h => by
    unfold txAt at h
    split at h
    · rename_i e; cases h; rw [e]; rfl
    · obtain ⟨j, hj, rfl⟩ := Option.map_eq_some_iff.mp h
      rw [List.getElem?_cons_succ]; exact txAt_some hj
theorem any_toPy (n m : Nat) {d : D} (hd : okd n d = true) : ∀ {xs : List D}, okds m xs = true → (xs.map toPy).any (fun z => PyData.eqv z (toPy d)) = xs.any fun z => deq z d
  | [], _ => rfl
  | x :: xs, h => by
    have h' : okd m x = true ∧ okds m xs = true := by simpa [okds] using h
    rw [List.map_cons, List.any_cons, List.any_cons, eqv_deq m n x d h'.1 hd, any_toPy n m hd h'.2]
end

theorem ints_dp {K : PySem.W.Frag} {H : Hp} : ∀ ns : List Int, DpAll K H (ns.map V.int) (ns.map PyData.int)
  | [] => .nil
  | n :: r => .cons (.int n) (ints_dp r)
theorem ints_lay : ∀ ns : List Int, PyData.canLayAll0 (ns.map PyData.int) = true
  | [] => rfl
  | n :: r => by rw [List.map_cons, PyData.canLayAll0, ints_lay r]; rfl
theorem ints_depth : ∀ ns : List Int, PyData.depthAll (ns.map PyData.int) = 0
  | [] => rfl
  | n :: r => by rw [List.map_cons, PyData.depthAll, ints_depth r]; rfl
theorem ints_shaped (ns : List Int) : SeqAt.shaped (.list (ns.map PyData.int)) = true := by
  unfold SeqAt.shaped
  rw [PyData.canLay0, ints_lay, PyData.depth, ints_depth]; rfl

/-! ### the rule -/
def rdc (K : PySem.W.Frag) (w : World) (f : D → D → R Bool) : R2 := fun x y H Q => ∃ F d e, Same F H ∧ Rep K w F d x ∧ Rep K w F e y ∧ ∃ b, f d e = .ok b ∧ Q (.bl b) H
def cOf : C2 → CmpOp
  | .eq => .Eq
  | .ne => .NotEq
  | .lt => .Lt
  | .le => .LtE
  | .gt => .Gt
  | .ge => .GtE
  | .isin => .In
  | .notin => .NotIn
  | .is_ => .Is
  | .isnot => .IsNot
section
variable {X : Cx} {pins : List (Addr × Obj)} {σ : L2.St} {H : Hp} {s : Shared}

/-- == of data, one Bool behind it -/
theorem eq_core (hu : X.A.units + 65 < cLine) {F : Hp} {d e : D} {x y : V} {v u : Value} {b : Bool} {Q : VK} (I : Inv X pins σ H s) (rx : RelV x v) (ry : RelV y u) (hs : Same F H) (hd : Rep X.K X.w F d x) (he : Rep X.K X.w F e y)
    (h : deqR d e = .ok b) : (Q (.bl b) H → wpAny (model X.prog X.w) X.A (compareOp .Eq v u) (EP X pins σ Q) X.xe s) ∧ (Q (.bl (!b)) H → wpAny (model X.prog X.w) X.A (compareOp .NotEq v u) (EP X pins σ Q) X.xe s) := by
  have plain : (if okd deep d && okd deep e then R.ok (deq d e) else R.no) = .ok b → (Q (.bl b) H → wpAny (model X.prog X.w) X.A (compareOp .Eq v u) (EP X pins σ Q) X.xe s) ∧ (Q (.bl (!b)) H → wpAny (model X.prog X.w) X.A (compareOp .NotEq v u) (EP X pins σ Q) X.xe s) := fun h => by
    split at h
    · rename_i c
      cases h
      rw [Bool.and_eq_true] at c
      obtain ⟨a1, a2, a3⟩ := dp_of hs deep d x c.1 hd
      obtain ⟨b1, b2, b3⟩ := dp_of hs deep e y c.2 he
      have ee := eqv_deq deep deep d e c.1 c.2
      exact ⟨fun q => op_eqD (by omega) pins s σ H x y v u Q I rx ry ⟨_, _, a1, b1, shaped_of a2 a3, shaped_of b2 b3, by rw [ee]; exact q⟩,
        fun q => op_neD (by omega) pins s σ H x y v u Q I rx ry ⟨_, _, a1, b1, shaped_of a2 a3, shaped_of b2 b3, by rw [ee]; exact q⟩⟩
    · cases h
  have scr : ∀ (ns : List Int), d = .scr ns → e = .lst [] → b = ns.isEmpty → (Q (.bl b) H → wpAny (model X.prog X.w) X.A (compareOp .Eq v u) (EP X pins σ Q) X.xe s) ∧ (Q (.bl (!b)) H → wpAny (model X.prog X.w) X.A (compareOp .NotEq v u) (EP X pins σ Q) X.xe s) := fun ns h1 h2 h3 => by
    subst h1 h2
    obtain ⟨a, rfl, hq⟩ := hd
    obtain ⟨a2, vs, rfl, hq2, hr⟩ := he
    obtain rfl : vs = [] := hr
    have p1 : Dp X.K H (.ref a) (.list (ns.map PyData.int)) := .lst (hs.seq hq) (ints_dp ns)
    have p2 : Dp X.K H (.ref a2) (.list []) := .lst (SqL.of (hs _ _ hq2)) .nil
    have s1 : SeqAt.shaped (.list (ns.map PyData.int)) = true := ints_shaped ns
    have ee : PyData.eqv (.list (ns.map PyData.int)) (.list []) = b := by
      rw [h3]; cases ns <;> rfl
    exact ⟨fun q => op_eqD (by omega) pins s σ H _ _ v u Q I rx ry ⟨_, _, p1, p2, s1, rfl, by rw [ee]; exact q⟩,
      fun q => op_neD (by omega) pins s σ H _ _ v u Q I rx ry ⟨_, _, p1, p2, s1, rfl, by rw [ee]; exact q⟩⟩
  unfold deqR at h
  split at h
  · cases h; exact scr _ rfl rfl rfl
  · cases h
  · cases h
  · exact plain h
/-- in -/
theorem in_core (hu : X.A.units + 65 < cLine) {F : Hp} {d e : D} {x y : V} {v u : Value} {b : Bool} {Q : VK} (I : Inv X pins σ H s) (rx : RelV x v) (ry : RelV y u) (hs : Same F H) (hd : Rep X.K X.w F d x) (he : Rep X.K X.w F e y)
    (h : isIn d e = .ok b) : (Q (.bl b) H → wpAny (model X.prog X.w) X.A (compareOp .In v u) (EP X pins σ Q) X.xe s) ∧ (Q (.bl (!b)) H → wpAny (model X.prog X.w) X.A (compareOp .NotIn v u) (EP X pins σ Q) X.xe s) := by
  unfold isIn at h
  split at h
  · rename_i xs
    unfold anyR at h
    split at h
    · rename_i c
      cases h
      rw [Bool.and_eq_true] at c
      obtain ⟨a1, a2, a3⟩ := dp_of hs deep _ x c.1 hd
      obtain ⟨b1, b2, b3⟩ := dp_of hs (deep + 1) (.lst xs) y c.2 he
      have ee := any_toPy deep deep c.1 c.2
      obtain ⟨as, r1⟩ := Dp.reads I _ x v a1 rx
      obtain ⟨bs, r2⟩ := Dp.reads I _ y u b1 ry
      have b2' : PyData.canLayAll0 (toPys xs) = true := by
        have : PyData.canLay0 (.list (toPys xs)) = true := b2
        rwa [PyData.canLay0] at this
      have rm : X.A.units + 1 + min (PyData.depthAll (toPys xs)) (PyData.depth (toPy d)) < cLine := by
        have := Nat.min_le_right (PyData.depthAll (toPys xs)) (PyData.depth (toPy d))
        have a3' : PyData.depth (toPy d) ≤ 60 := a3
        omega
      rw [← toPys_map] at ee
      exact ⟨fun q => SeqAt.in_list_reads (show Reads s.heap u (.list (toPys xs)) bs from r2) r1 b2' a2 rm ⟨.bl _, H, I, rfl, by rw [ee]; exact q⟩,
        fun q => SeqAt.notIn_list_reads (show Reads s.heap u (.list (toPys xs)) bs from r2) r1 b2' a2 rm ⟨.bl _, H, I, rfl, by rw [ee]; exact q⟩⟩
    · cases h
  · rename_i xs
    unfold anyR at h
    split at h
    · rename_i c
      cases h
      rw [Bool.and_eq_true] at c
      obtain ⟨a1, a2, a3⟩ := dp_of hs deep _ x c.1 hd
      obtain ⟨b1, b2, b3⟩ := dp_of hs (deep + 1) (.tup xs) y c.2 he
      have ee := any_toPy deep deep c.1 c.2
      obtain ⟨as, r1⟩ := Dp.reads I _ x v a1 rx
      obtain ⟨bs, r2⟩ := Dp.reads I _ y u b1 ry
      have b2' : PyData.canLayAll0 (toPys xs) = true := by
        have : PyData.canLay0 (.tuple (toPys xs)) = true := b2
        rwa [PyData.canLay0] at this
      have rm : X.A.units + 1 + min (PyData.depthAll (toPys xs)) (PyData.depth (toPy d)) < cLine := by
        have := Nat.min_le_right (PyData.depthAll (toPys xs)) (PyData.depth (toPy d))
        have a3' : PyData.depth (toPy d) ≤ 60 := a3
        omega
      rw [← toPys_map] at ee
      exact ⟨fun q => SeqAt.in_tuple_reads (show Reads s.heap u (.tuple (toPys xs)) bs from r2) r1 b2' a2 rm ⟨.bl _, H, I, rfl, by rw [ee]; exact q⟩,
        fun q => SeqAt.notIn_tuple_reads (show Reads s.heap u (.tuple (toPys xs)) bs from r2) r1 b2' a2 rm ⟨.bl _, H, I, rfl, by rw [ee]; exact q⟩⟩
    · cases h
  · rename_i c l
    cases h
    obtain ⟨rfl, _⟩ := hd
    obtain ⟨rfl, _⟩ := he
    exact ⟨fun q => op_in_sign pins s σ H _ _ v u Q I rx ry ⟨c, tx l, rfl, rfl, q⟩, fun q => op_notIn_sign pins s σ H _ _ v u Q I rx ry ⟨c, tx l, rfl, rfl, q⟩⟩
  · rename_i ks vs
    split at h
    · rename_i k hk
      cases h
      obtain ⟨a, kvs, rfl, hF, hkk, hnd, hr⟩ := he
      obtain rfl := ky_of hk hd
      cases ry
      have g : DGet H a (kV (kyK k)) (valV kvs (kyK k)) := DGet.k (hs _ _ hF)
      have ee : (valV kvs (kyK k)).isSome = decide (k ∈ ks) := by
        rw [Bool.eq_iff_iff, decide_eq_true_iff]
        refine valV_some_iff.trans ?_
        rw [show kvs.map (Prod.fst : Key × V → Key) = ks.map kyK from hkk]
        exact mem_kyK
      exact ⟨fun q => d_in (by omega) I g rx fun s3 I3 => ⟨.bl _, H, I3, rfl, by rw [ee]; exact q⟩, fun q => d_notIn (by omega) I g rx fun s3 I3 => ⟨.bl _, H, I3, rfl, by rw [ee]; exact q⟩⟩
    · cases h
  · rename_i l ks vs
    cases h
    obtain ⟨rfl, _⟩ := hd
    obtain ⟨a, es, n, us, rfl, hk, hr, hl, hno, hyes⟩ := he
    by_cases hm : l ∈ ks
    · obtain ⟨i, hi, e⟩ := List.mem_iff_getElem.mp hm
      obtain ⟨z, hz⟩ : ∃ z, us[i]? = some z := ⟨us[i]'(by omega), List.getElem?_eq_getElem (by omega)⟩
      obtain ⟨u0, h1, h2⟩ := hyes i l z (by rw [List.getElem?_eq_getElem hi, e]) hz
      rw [decide_eq_true hm]
      exact ⟨fun q => op_in_kd hk pins s σ H _ _ v u Q I rx ry ⟨_, _, rfl, rfl, h1, q⟩, fun q => op_notIn_kd hk pins s σ H _ _ v u Q I rx ry ⟨_, _, rfl, rfl, h1, q⟩⟩
    · rw [decide_eq_false hm]
      exact ⟨fun q => op_in_kd hk pins s σ H _ _ v u Q I rx ry ⟨_, _, rfl, rfl, hno l hm, q⟩, fun q => op_notIn_kd hk pins s σ H _ _ v u Q I rx ry ⟨_, _, rfl, rfl, hno l hm, q⟩⟩
  · cases h
end
section
variable {X : Cx}
theorem not_non {K : PySem.W.Frag} {w : World} {F : Hp} {d : D} {x : V} (r : Rep K w F d x) (h : d ≠ .non) : x ≠ .non := by
  intro e
  subst e
  cases d with
  | non => exact h rfl
  | bl b => cases (show V.non = .bl b from r)
  | int i => cases (show V.non = .int i from r)
  | str l => cases r.1
  | tup ds => obtain ⟨a, _, e, _⟩ := r; cases e
  | lst ds => obtain ⟨a, _, e, _⟩ := r; cases e
  | dic ks ds => obtain ⟨a, _, e, _⟩ := r; cases e
  | scr ns => obtain ⟨a, e, _⟩ := r; cases e
  | gdc ks ds => obtain ⟨a, _, _, _, e, _⟩ := r; cases e
  | adr a => cases r
set_option maxHeartbeats 1000000 in
theorem op_cop (o : C2) (hu : X.A.units + 65 < cLine) : OpR X (compareOp (cOf o)) (rdc X.K X.w (cop o)) := by
  intro pins s σ H x y v u Q I rx ry h
  obtain ⟨F, d, e, hs, hd, he, b, hb, q⟩ := h
  cases o with
  | eq => exact (eq_core hu I rx ry hs hd he hb).1 q
  | ne =>
    obtain ⟨z, h1, h2⟩ := R.bind_eq_ok (show R.bind (deqR d e) _ = .ok b from hb)
    cases h2
    exact (eq_core hu I rx ry hs hd he h1).2 q
  | isin => exact (in_core hu I rx ry hs hd he hb).1 q
  | notin =>
    obtain ⟨z, h1, h2⟩ := R.bind_eq_ok (show R.bind (isIn d e) _ = .ok b from hb)
    cases h2
    exact (in_core hu I rx ry hs hd he h1).2 q
  | lt =>
    cases d <;> cases e <;> first | cases hb | skip
    · obtain rfl := hd; obtain rfl := he
      exact op_lt pins s σ H _ _ v u Q I rx ry ⟨_, _, rfl, rfl, q⟩
    · obtain ⟨rfl, _⟩ := hd; obtain ⟨rfl, _⟩ := he
      exact op_lt_str pins s σ H _ _ v u Q I rx ry ⟨_, _, rfl, rfl, q⟩
  | le =>
    cases d <;> cases e <;> first | cases hb | skip
    · obtain rfl := hd; obtain rfl := he
      exact op_le pins s σ H _ _ v u Q I rx ry ⟨_, _, rfl, rfl, q⟩
    · obtain ⟨rfl, _⟩ := hd; obtain ⟨rfl, _⟩ := he
      exact op_le_str pins s σ H _ _ v u Q I rx ry ⟨_, _, rfl, rfl, q⟩
  | gt =>
    cases d <;> cases e <;> first | cases hb | skip
    · obtain rfl := hd; obtain rfl := he
      exact op_gt pins s σ H _ _ v u Q I rx ry ⟨_, _, rfl, rfl, q⟩
    · obtain ⟨rfl, _⟩ := hd; obtain ⟨rfl, _⟩ := he
      exact op_gt_str pins s σ H _ _ v u Q I rx ry ⟨_, _, rfl, rfl, q⟩
  | ge =>
    cases d <;> cases e <;> first | cases hb | skip
    · obtain rfl := hd; obtain rfl := he
      exact op_ge pins s σ H _ _ v u Q I rx ry ⟨_, _, rfl, rfl, q⟩
    · obtain ⟨rfl, _⟩ := hd; obtain ⟨rfl, _⟩ := he
      exact op_ge_str pins s σ H _ _ v u Q I rx ry ⟨_, _, rfl, rfl, q⟩
  | is_ =>
    cases e with
    | non =>
      obtain rfl : y = .non := he
      by_cases hn : d = .non
      · subst hn
        obtain rfl : x = .non := hd
        cases hb
        exact op_isN pins s σ H _ _ v u Q I rx ry ⟨rfl, q⟩
      · have hx := not_non hd hn
        have : b = false := by
          cases d <;> first | exact absurd rfl hn | (cases hb; rfl)
        subst this
        exact op_isN pins s σ H _ _ v u Q I rx ry ⟨rfl, by rw [decide_eq_false hx]; exact q⟩
    | _ => cases d <;> cases hb
  | isnot =>
    cases e with
    | non =>
      obtain rfl : y = .non := he
      by_cases hn : d = .non
      · subst hn
        obtain rfl : x = .non := hd
        cases hb
        exact op_notN pins s σ H _ _ v u Q I rx ry ⟨rfl, q⟩
      · have hx := not_non hd hn
        have : b = true := by
          cases d <;> first | exact absurd rfl hn | (cases hb; rfl)
        subst this
        exact op_notN pins s σ H _ _ v u Q I rx ry ⟨rfl, by rw [decide_eq_false hx]; exact q⟩
    | bl k =>
      obtain rfl : y = .bl k := he
      cases d with
      | int i =>
        obtain rfl : x = .int i := hd
        cases hb
        obtain ⟨t, rfl⟩ := rx
        cases ry
        exact wpAny_isNot_other rfl (fun z => nomatch z) ⟨.bl true, H, I, rfl, q⟩
      | bl a =>
        obtain rfl : x = .bl a := hd
        cases hb
        refine op_notBl pins s σ H _ _ v u Q I rx ry ⟨a, k, rfl, rfl, ?_⟩
        have e : decide (a = k) = (a == k) := by cases a <;> cases k <;> rfl
        rw [e]
        exact q
      | _ => cases hb
    | _ => cases d <;> cases hb
end
end Ev

/-! Subscripts, slices, built-in functions, by plain data. -/
namespace Ev
open PySem L2 PyProof.Rows

theorem place_ixN (n : Nat) (i : Int) : place n i = ixN n i := rfl
theorem sIx_ht (n d : Nat) (o : Option Int) : sIx n d o = HT.sIx n d o := by cases o <;> rfl

section
variable {K : PySem.W.Frag} {w : World} {F H : Hp}
theorem okc_one {l : List Nat} {c : Nat} {j : Nat} (h : okc l = true) (e : l[j]? = some c) : okc [c] = true := okc_sub h fun x hx => by
  rw [List.mem_singleton] at hx; rw [hx]; exact List.mem_of_getElem? e
theorem okc_cut {l : List Nat} {lo hi : Option Int} (h : okc l = true) : okc (cut l lo hi) = true := okc_sub h fun x hx => by
  unfold cut at hx
  exact List.mem_of_mem_drop (List.mem_of_mem_take hx)
theorem Reps.cut {ds : List D} {vs : List V} (lo hi : Option Int) (h : Reps K w F ds vs) : Reps K w F (cut ds lo hi) (cutV vs lo hi) := by
  unfold Ev.cut cutV
  rw [← h.length]
  simp only [sIx_ht]
  exact (h.drop _).take _
end

section
variable {X : Cx}
/-- o[i] -/
theorem ix_idx (hu : X.A.units + 65 < cLine) : IxR X (rd2 X.K X.w idx) := by
  intro value slice pins s σ H x y v u Q I rx ry h hsl
  obtain ⟨F, d, e, hs, hd, he, q⟩ := h
  unfold idx at q
  split at q
  · rename_i xs i
    split at q
    · rename_i d' hd'
      obtain ⟨a, vs, rfl, h1, h2⟩ := hd
      obtain rfl : y = .int i := he
      obtain ⟨j, hj, hx⟩ := Option.bind_eq_some_iff.mp hd'
      obtain ⟨z, hz, rz⟩ := h2.get hx
      exact ix_tup value slice pins s σ H _ _ v u Q I rx ry ⟨a, vs, i, z, rfl, rfl, Same.tup hs h1, by unfold atI; rw [← h2.length, ← place_ixN, hj]; exact hz, fin_ok q hs rz⟩ hsl
    · exact False.elim q
  · rename_i xs i
    split at q
    · rename_i d' hd'
      obtain ⟨a, vs, rfl, h1, h2⟩ := hd
      obtain rfl : y = .int i := he
      obtain ⟨j, hj, hx⟩ := Option.bind_eq_some_iff.mp hd'
      obtain ⟨z, hz, rz⟩ := h2.get hx
      exact ix_list value slice pins s σ H _ _ v u Q I rx ry ⟨a, vs, i, z, rfl, rfl, SqL.of (hs _ _ h1), by unfold atI; rw [← h2.length, ← place_ixN, hj]; exact hz, fin_ok q hs rz⟩ hsl
    · exact False.elim q
  · rename_i l i
    obtain ⟨hn, q⟩ := ite_fin q
    split at q
    · rename_i c hc
      obtain ⟨rfl, ho⟩ := hd
      obtain rfl : y = .int i := he
      obtain ⟨j, hj, hx⟩ := Option.bind_eq_some_iff.mp hc
      refine ix_str value slice pins s σ H _ _ v u Q I rx ry ⟨tx l, i, c, rfl, rfl, by rw [tx_len, ← lim_eq]; exact hn, ?_, fin_ok q hs ⟨rfl, okc_one ho hx⟩⟩ hsl
      show atI l i = some c
      unfold atI; rw [← place_ixN, hj]; exact hx
    · exact False.elim q
  · rename_i ns i
    split at q
    · rename_i n hn
      obtain ⟨a, rfl, h1⟩ := hd
      obtain rfl : y = .int i := he
      obtain ⟨j, hj, hx⟩ := Option.bind_eq_some_iff.mp hn
      refine ix_list value slice pins s σ H _ _ v u Q I rx ry ⟨a, _, i, .int n, rfl, rfl, hs.seq h1, ?_, fin_ok q hs rfl⟩ hsl
      unfold atI
      rw [List.length_map, ← place_ixN, hj]
      show (ns.map V.int)[j]? = _
      rw [List.getElem?_map, hx]; rfl
    · exact False.elim q
  · rename_i ks ds l
    split at q
    · rename_i d' hd'
      obtain ⟨a, es, n, us, rfl, hk, hr, hl, hno, hyes⟩ := hd
      obtain ⟨rfl, ho⟩ := he
      obtain ⟨j, hj, hx⟩ := Option.bind_eq_some_iff.mp hd'
      obtain ⟨z, hz, rz⟩ := hr.get hx
      obtain ⟨u0, h1, h2⟩ := hyes j l z (txAt_some hj) hz
      exact ix_kdict value slice pins s σ H _ _ v u Q I rx ry ⟨a, tx l, z, rfl, rfl, ⟨es, n, u0, hk.at_, hk.lit, h1, h2⟩, fin_ok q hs rz⟩ hsl
    · exact False.elim q
  · rename_i ks ds dk
    split at q
    · rename_i d' hd'
      obtain ⟨a, kvs, rfl, hF, hkk, hnd, hr⟩ := hd
      obtain ⟨k, hk, h2⟩ := Option.bind_eq_some_iff.mp hd'
      obtain ⟨j, hj, hx⟩ := Option.bind_eq_some_iff.mp h2
      obtain ⟨z, hz, rz⟩ := hr.get hx
      obtain rfl := ky_of hk he
      have g : DGet H a (kV (kyK k)) (some z) := by
        have := DGet.k (k := kyK k) (hs _ _ hF)
        rw [kyAt_val hkk, hj] at this
        rw [← hz]; exact this
      cases rx
      exact tail_any (dict_typeIs I g) slot_dict_getitem.lookup (d_getItem (by omega) I g ry fun w' s' I' r' => ⟨z, H, I', r', fin_ok q hs rz⟩) hsl
    · exact False.elim q
  · exact False.elim q

/-- o[a:b] -/
def rdsl (K : PySem.W.Frag) (w : World) : V → Option Int → Option Int → Hp → VK → Prop := fun x lo hi H Q => ∃ F d, Same F H ∧ Rep K w F d x ∧ fin0 K w (slc d lo hi) F H Q
theorem sl_slc : SlR X (rdsl X.K X.w) := by
  intro pins s σ H x v vl vu lo hi sl Q I rx hsl pl pu h
  obtain ⟨F, d, hs, hd, q⟩ := h
  unfold slc at q
  split at q
  · rename_i xs
    obtain ⟨a, vs, rfl, h1, h2⟩ := hd
    refine sl_tupA pins s σ H _ v vl vu lo hi sl Q I rx hsl pl pu ⟨a, vs, rfl, Same.tup hs h1, fun c => ?_, fun c p hp => fin_tup q hs (h2.cut lo hi) p hp⟩
    have e : cut xs lo hi = xs := by
      unfold cut
      rw [sIx_ht, sIx_ht, h2.length, c.1, c.2, Nat.sub_zero, List.drop_zero, ← h2.length, List.take_length]
    exact fin_ok q hs (by rw [e]; exact ref_tup h1 h2)
  · rename_i xs
    obtain ⟨a, vs, rfl, h1, h2⟩ := hd
    exact sl_list pins s σ H _ v vl vu lo hi sl Q I rx hsl pl pu ⟨a, vs, rfl, SqL.of (hs _ _ h1), fun p hp => fin_lst q hs (h2.cut lo hi) p hp⟩
  · rename_i l
    obtain ⟨hn, q⟩ := ite_fin q
    obtain ⟨rfl, ho⟩ := hd
    refine sl_str pins s σ H _ v vl vu lo hi sl Q I rx hsl pl pu ⟨tx l, rfl, by rw [tx_len, ← lim_eq]; exact hn, ?_⟩
    have e : cutS (tx l) lo hi = tx (cut l lo hi) := by
      unfold cutS cut
      rw [tx_len, sIx_ht, sIx_ht]
    rw [e]
    exact fin_ok q hs ⟨rfl, okc_cut ho⟩
  · exact False.elim q

/-! ### calls -/
def rd1 (K : PySem.W.Frag) (w : World) (f : D → R D) : List V → Hp → VK → Prop := fun xs H Q => ∃ F d v, xs = [v] ∧ Same F H ∧ Rep K w F d v ∧ fin0 K w (f d) F H Q

theorem cr_len : CallR X (.builtin "len") (rd1 X.K X.w dLen) := by
  intro pins s σ H xs us Q I r h
  obtain ⟨F, d, v, rfl, hs, hd, q⟩ := h
  unfold dLen at q
  split at q <;> first | exact False.elim q | skip
  · obtain ⟨a, vs, rfl, h1, h2⟩ := hd
    exact call_len_seq pins s σ H _ us Q I r ⟨a, vs, rfl, .inr (Same.tup hs h1), fin_ok q hs (by rw [h2.length]; rfl)⟩
  · obtain ⟨a, vs, rfl, h1, h2⟩ := hd
    exact call_len_seq pins s σ H _ us Q I r ⟨a, vs, rfl, .inl (SqL.of (hs _ _ h1)), fin_ok q hs (by rw [h2.length]; rfl)⟩
  · obtain ⟨hn, q⟩ := ite_fin q
    obtain ⟨rfl, ho⟩ := hd
    exact call_len pins s σ H _ us Q I r ⟨_, _, rfl, ⟨by rw [tx_len, ← lim_eq]; exact hn, rfl⟩, fin_ok q hs (by rw [tx_len]; rfl)⟩
  · obtain ⟨a, kvs, rfl, hF, hkk, hnd, hr⟩ := hd
    rename_i ks vs'
    have e : ks.length = kvs.length := by
      have := congrArg List.length hkk
      simpa using this.symm
    exact call_lenD pins s σ H _ us Q I r ⟨a, kvs, rfl, hs _ _ hF, fin_ok q hs (by rw [e]; rfl)⟩
  · obtain ⟨a, rfl, h1⟩ := hd
    exact call_len_seq pins s σ H _ us Q I r ⟨a, _, rfl, .inl (hs.seq h1), fin_ok q hs (by rw [List.length_map]; rfl)⟩
theorem bools_of {K : PySem.W.Frag} {w : World} {F : Hp} : ∀ {xs : List D} {bs : List Bool} {vs : List V}, boolsOf xs = some bs → Reps K w F xs vs → vs = bs.map V.bl
  | [], bs, vs, h, r => by cases h; exact r
  | .bl b :: xs, bs, vs, h, ⟨v, r, h1, h2, h3⟩ => by
    obtain ⟨cs, hc, rfl⟩ := Option.map_eq_some_iff.mp (show (boolsOf xs).map _ = some bs from h)
    rw [h1, bools_of hc h3, show v = .bl b from h2]; rfl
  | .non :: _, _, _, h, _ => by cases h
  | .int _ :: _, _, _, h, _ => by cases h
  | .str _ :: _, _, _, h, _ => by cases h
  | .tup _ :: _, _, _, h, _ => by cases h
  | .lst _ :: _, _, _, h, _ => by cases h
  | .dic _ _ :: _, _, _, h, _ => by cases h
  | .scr _ :: _, _, _, h, _ => by cases h
  | .gdc _ _ :: _, _, _, h, _ => by cases h
  | .adr _ :: _, _, _, h, _ => by cases h
theorem ints_of {K : PySem.W.Frag} {w : World} {F : Hp} : ∀ {xs : List D} {bs : List Int} {vs : List V}, intsOf xs = some bs → Reps K w F xs vs → vs = bs.map V.int
  | [], bs, vs, h, r => by cases h; exact r
  | .int b :: xs, bs, vs, h, ⟨v, r, h1, h2, h3⟩ => by
    obtain ⟨cs, hc, rfl⟩ := Option.map_eq_some_iff.mp (show (intsOf xs).map _ = some bs from h)
    rw [h1, ints_of hc h3, show v = .int b from h2]; rfl
  | .non :: _, _, _, h, _ => by cases h
  | .bl _ :: _, _, _, h, _ => by cases h
  | .str _ :: _, _, _, h, _ => by cases h
  | .tup _ :: _, _, _, h, _ => by cases h
  | .lst _ :: _, _, _, h, _ => by cases h
  | .dic _ _ :: _, _, _, h, _ => by cases h
  | .scr _ :: _, _, _, h, _ => by cases h
  | .gdc _ _ :: _, _, _, h, _ => by cases h
  | .adr _ :: _, _, _, h, _ => by cases h
theorem strs_of {K : PySem.W.Frag} {w : World} {F : Hp} : ∀ {xs : List D} {bs : List (List Nat)} {vs : List V}, strsOf xs = some bs → Reps K w F xs vs → vs = (bs.map tx).map V.str ∧ ∀ b ∈ bs, okc b = true
  | [], bs, vs, h, r => by cases h; exact ⟨r, fun b hb => nomatch hb⟩
  | .str b :: xs, bs, vs, h, ⟨v, r, h1, h2, h3⟩ => by
    obtain ⟨cs, hc, rfl⟩ := Option.map_eq_some_iff.mp (show (strsOf xs).map _ = some bs from h)
    obtain ⟨e1, e2⟩ := strs_of hc h3
    refine ⟨by rw [h1, e1, h2.1]; rfl, fun c hc => ?_⟩
    rcases List.mem_cons.mp hc with rfl | hc
    · exact h2.2
    · exact e2 c hc
  | .non :: _, _, _, h, _ => by cases h
  | .bl _ :: _, _, _, h, _ => by cases h
  | .int _ :: _, _, _, h, _ => by cases h
  | .tup _ :: _, _, _, h, _ => by cases h
  | .lst _ :: _, _, _, h, _ => by cases h
  | .dic _ _ :: _, _, _, h, _ => by cases h
  | .scr _ :: _, _, _, h, _ => by cases h
  | .gdc _ _ :: _, _, _, h, _ => by cases h
  | .adr _ :: _, _, _, h, _ => by cases h
theorem cr_all' (hc : X.calm = true) : CallR X (.builtin "all") (rd1 X.K X.w dAll) := by
  intro pins s σ H xs us Q I r h
  obtain ⟨F, d, v, rfl, hs, hd, q⟩ := h
  unfold dAll at q
  split at q <;> first | exact False.elim q | skip
  split at q
  · rename_i bs hb
    obtain ⟨a, vs, rfl, h1, h2⟩ := hd
    obtain rfl := bools_of hb h2
    exact cr_all hc pins s σ H _ us Q I r ⟨a, bs, rfl, SqL.of (hs _ _ h1), fin_ok q hs rfl⟩
  · exact False.elim q
theorem cr_sum' (hc : X.calm = true) : CallR X (.builtin "sum") (rd1 X.K X.w dSum) := by
  intro pins s σ H xs us Q I r h
  obtain ⟨F, d, v, rfl, hs, hd, q⟩ := h
  unfold dSum at q
  split at q <;> first | exact False.elim q | skip
  split at q
  · rename_i bs hb
    obtain ⟨a, vs, rfl, h1, h2⟩ := hd
    obtain rfl := ints_of hb h2
    exact cr_sum hc pins s σ H _ us Q I r ⟨a, bs, rfl, SqL.of (hs _ _ h1), fin_ok q hs rfl⟩
  · exact False.elim q
theorem cr_abs : CallR X (.builtin "abs") (rd1 X.K X.w dAbs) := by
  intro pins s σ H xs us Q I r h
  obtain ⟨F, d, v, rfl, hs, hd, q⟩ := h
  unfold dAbs at q
  split at q <;> first | exact False.elim q | skip
  obtain rfl := hd
  exact call_abs pins s σ H _ us Q I r ⟨_, rfl, fin_ok q hs rfl⟩
theorem cr_tuple : CallR X (.type "tuple") (rd1 X.K X.w dTuple) := by
  intro pins s σ H xs us Q I r h
  obtain ⟨F, d, v, rfl, hs, hd, q⟩ := h
  unfold dTuple at q
  split at q <;> first | exact False.elim q | skip
  · obtain ⟨a, vs, rfl, h1, h2⟩ := hd
    exact call_tuple_of pins s σ H _ us Q I r ⟨a, vs, rfl, .inl ⟨SqL.of (hs _ _ h1), fun p hp => fin_tup q hs h2 p hp⟩⟩
  · obtain ⟨a, vs, rfl, h1, h2⟩ := hd
    exact call_tuple_of pins s σ H _ us Q I r ⟨a, vs, rfl, .inr ⟨Same.tup hs h1, fin_ok q hs (ref_tup h1 h2)⟩⟩
/-- a new list, whatever becomes of it -/
def fnew (K : PySem.W.Frag) (w : World) (r : R D) (F H : Hp) (Q : VK) : Prop :=
  match r with
  | .ok (.lst ds) => ∀ p vs, H p = none → Reps K w F ds vs → Q (.ref p) (upd H p (.lst vs))
  | .ok (.dic ks ds) => ∀ p kvs, H p = none → kvs.map (·.1) = ks.map kyK → ks.Nodup → Reps K w F ds (kvs.map (·.2)) → Q (.ref p) (upd H p (.dK kvs))
  | _ => False
def rdn1 (K : PySem.W.Frag) (w : World) (f : D → R D) : List V → Hp → VK → Prop := fun xs H Q => ∃ F d v, xs = [v] ∧ Same F H ∧ Rep K w F d v ∧ fnew K w (f d) F H Q
theorem cr_list : CallR X (.type "list") (rdn1 X.K X.w dList) := by
  intro pins s σ H xs us Q I r h
  obtain ⟨F, d, v, rfl, hs, hd, q⟩ := h
  unfold dList at q
  split at q <;> first | exact False.elim q | skip
  · obtain ⟨a, vs, rfl, h1, h2⟩ := hd
    exact call_list_of pins s σ H _ us Q I r ⟨a, vs, rfl, .inl (SqL.of (hs _ _ h1)), fun p hp => q p vs hp h2⟩
  · obtain ⟨a, vs, rfl, h1, h2⟩ := hd
    exact call_list_of pins s σ H _ us Q I r ⟨a, vs, rfl, .inr (Same.tup hs h1), fun p hp => q p vs hp h2⟩
end
end Ev

/-! Readings of expressions, and the rules for each form. -/
namespace Ev
open PySem L2

/-- names of constants, defs (with how many parameters), exception classes -/
structure Nm where
  g : Nat → Option Str
  f : Nat → Option (Str × Nat)
  c : Nat → Option Str
/-- what is fixed while one def runs -/
structure Ct where
  K : PySem.W.Frag
  w : World
  glob : Nat → R D
  fn : Nat → List D → R D
  ca : Nat → Addr
  W : WX

def EnvR (K : PySem.W.Frag) (w : World) (F : Hp) (σ : L2.St) (env : Env) : Prop := σ.length = env.length ∧ ∀ i d, look env i = .ok d → ∃ v, σ[i]? = some (some v) ∧ Rep K w F d v
theorem EnvR.mono {K : PySem.W.Frag} {w : World} {F F' : Hp} {σ : L2.St} {env : Env} (h : EnvR K w F σ env) (e : Same F F') : EnvR K w F' σ env :=
  ⟨h.1, fun i d hd => let ⟨v, h1, h2⟩ := h.2 i d hd; ⟨v, h1, Rep.mono e d v h2⟩⟩

section
variable {K : PySem.W.Frag} {w : World} {F H F' H' : Hp} {Q : VK} {Xc : Nat → Hp → Prop}
theorem fin_mono {r : R D} (e : Ext F H F' H') (h : fin K w r F H Q Xc) : fin K w r F' H' Q Xc := by
  cases r with
  | ok d => exact fun v F2 H2 e2 r2 => h v F2 H2 (e.trans e2) r2
  | ex c => exact fun H2 s => h H2 (e.same.trans s)
  | no => exact h
theorem fin_bind {r : R D} {f : D → R D} {P : VK} (h : fin K w (r.bind f) F H Q Xc) (k : ∀ d v F' H', r = .ok d → Ext F H F' H' → Rep K w F' d v → fin K w (f d) F' H' Q Xc → P v H') : fin K w r F H P Xc := by
  cases r with
  | ok d => exact fun v F' H' e rv => k d v F' H' rfl e rv (fin_mono e h)
  | ex c => exact h
  | no => exact h
theorem fin_no0 {r : R D} (h : fin K w r F H Q Xc) (hn : ∀ c, r ≠ .ex c) : fin0 K w r F H Q := by
  cases r with
  | ok d => exact h
  | ex c => exact absurd rfl (hn c)
  | no => exact h
/-- lists of values -/
def finL (K : PySem.W.Frag) (w : World) (r : R (List D)) (F H : Hp) (Q : List V → Hp → Prop) (X : Nat → Hp → Prop) : Prop :=
  match r with
  | .ok ds => ∀ vs F' H', Ext F H F' H' → Reps K w F' ds vs → Q vs H'
  | .ex c => ∀ H', Same H H' → X c H'
  | .no => False
theorem finL_mono {r : R (List D)} {Q : List V → Hp → Prop} (e : Ext F H F' H') (h : finL K w r F H Q Xc) : finL K w r F' H' Q Xc := by
  cases r with
  | ok d => exact fun v F2 H2 e2 r2 => h v F2 H2 (e.trans e2) r2
  | ex c => exact fun H2 s => h H2 (e.same.trans s)
  | no => exact h
end

def Ct.rd (C : Ct) (t : E) : TE := fun σ H Q => ∃ env F, EnvR C.K C.w F σ env ∧ Same F H ∧ fin C.K C.w (ev C.glob C.fn t env) F H Q fun c H' => C.W (.ref (C.ca c)) none σ H'
def Ct.rds (C : Ct) (ts : List E) : TA := fun σ H Q => ∃ env F, EnvR C.K C.w F σ env ∧ Same F H ∧ finL C.K C.w (evs C.glob C.fn ts env) F H Q fun c H' => C.W (.ref (C.ca c)) none σ H'
/-- what a def promises -/
def Ct.sp (C : Ct) (f n : Nat) : Sp := fun vs H Q E => vs.length = n ∧ ∃ F ds, Same F H ∧ Reps C.K C.w F ds vs ∧ fin C.K C.w (C.fn f ds) F H Q fun c H' => E (.ref (C.ca c)) none H'

def bnames : List Str := ["len", "all", "str", "int", "abs", "tuple", "list", "dict", "sorted", "isinstance", "range", "enumerate", "zip", "set", "sum", "max", "min", "bool"]
/-- what holds in any suite -/
structure Gd0 (X : Cx) (C : Ct) : Prop where
  hK : X.K = C.K
  hw : X.w = C.w
  nd : X.N.Nodup
  hu : X.A.units + 65 < cLine
structure Gd (nm : Nm) (X : Cx) (C : Ct) : Prop extends Gd0 X C where
  calm : X.calm = true
  takes : L2N.Takes X C.W
  blt : ∀ b ∈ bnames, X.mg b = none
  glo : ∀ g x d, nm.g g = some x → C.glob g = .ok d → ∃ u v, X.mg x = some u ∧ RelV v u ∧ ∀ F, Rep C.K C.w F d v
  gno : ∀ g c, C.glob g ≠ .ex c
  fns : ∀ f x n, nm.f f = some (x, n) → ∃ fa fd ps k, FnOk X.prog X.w X.K X.mg X.base (L2N.CX X.prog X.w) k fa fd ps (C.sp f n) ∧ Room k X.A ∧ X.mg x = some (.ref fa) ∧ PySem.W.keepIn X.K (.ref fa) = true ∧ Binds X.K fd ps []

/-! ### names -/
def locB (sc : Scope) (x : Str) : Bool := match sc.names.lookup x with
  | some .local => true
  | some .cell => true
  | some .free => true
  | _ => false
theorem locB_vis {sc : Scope} {x : Str} (h : locB sc x = true) : Vis sc x := by
  unfold locB at h
  split at h
  · exact .inl (by assumption)
  · exact .inr (.inl (by assumption))
  · exact .inr (.inr (by assumption))
  · cases h
def glB (sc : Scope) (x : Str) : Bool := match sc.names.lookup x with
  | some .globalImplicit => true
  | _ => false
theorem glB_gl {X : Cx} {x : Str} (h : glB X.env.scope x = true) : Gl X x := by
  unfold glB at h
  split at h
  · assumption
  · cases h
def plainName (x : Str) : Bool := !(x == ("__debug__" : Str)) && (!(x == ("__classdict__" : Str)) && !(x == ("__name__" : Str)))
theorem plain1 {x : Str} (h : plainName x = true) : (x == ("__debug__" : Str)) = false ∧ (x == ("__classdict__" : Str)) = false ∧ x ≠ ("__name__" : Str) := by
  unfold plainName at h
  simp only [Bool.and_eq_true, Bool.not_eq_true'] at h
  exact ⟨h.1, h.2.1, fun e => by rw [e] at h; simp at h⟩

theorem PE.weak {X : Cx} {e : Expr} {t t' : TE} (h : PE X e t) (k : ∀ σ H Q, t' σ H Q → t σ H Q) : PE X e t' := ⟨fun pins s σ H Q I q => h.run pins s σ H Q I (k σ H Q q)⟩
theorem PT.weak {X : Cx} {e : Expr} {t t' : TT} (h : PT X e t) (k : ∀ σ H Q, t' σ H Q → t σ H Q) : PT X e t' := ⟨fun pins s σ H Q I q => h.run pins s σ H Q I (k σ H Q q)⟩
theorem PW.weak {X : Cx} {e : Expr} {t t' : TT} (h : PW X e t) (k : ∀ σ H Q, t' σ H Q → t σ H Q) : PW X e t' := ⟨fun wh pins s σ H Q I q => h.run wh pins s σ H Q I (k σ H Q q)⟩
theorem PA.weak {X : Cx} {es : List Expr} {t t' : TA} (h : PA X es t) (k : ∀ σ H Q, t' σ H Q → t σ H Q) : PA X es t' := ⟨fun pos pins s σ H Q I q => h.run pos pins s σ H Q I (k σ H Q q)⟩

section
variable {nm : Nm} {X : Cx} {C : Ct} {a b c : Expr} {ta tb tc : E} {pos : Pos}
theorem s_var {i : Nat} {x : Str} (hN : X.N[i]? = some x) (hv : Vis X.env.scope x) (hp : plainName x = true) : PE X (.Name x pos) (C.rd (.var i)) :=
  PE.weak (pe_var hN hv (plain1 hp).1 (plain1 hp).2.1) fun σ H Q ⟨env, F, he, hs, q⟩ => by
    have q' : fin C.K C.w (look env i) F H Q _ := q
    cases e : look env i with
    | ok d =>
      rw [e] at q'
      obtain ⟨v, h1, h2⟩ := he.2 i d e
      exact ⟨v, h1, fin_ok q' hs h2⟩
    | ex c =>
      unfold look at e
      split at e
      · rename_i s _; cases s <;> cases e
      · cases e
    | no =>
      rw [e] at q'
      exact False.elim q'
def litB : D → Const → Bool
  | .int i, .int j => decide (i = j)
  | .bl i, .bool j => i == j
  | .non, .none => true
  | .str l, .str x => decide (x = tx l) && okc l
  | _, _ => false
theorem s_lit {d : D} {k : Const} {j : Nat} (h : litB d k = true) : PE X (.Constant k j pos) (C.rd (.lit d)) := by
  have key : ∀ v, PE X (.Constant k j pos) (tC v) → (∀ F, Rep C.K C.w F d v) → PE X (.Constant k j pos) (C.rd (.lit d)) := fun v hp hr =>
    PE.weak hp fun σ H Q ⟨env, F, he, hs, q⟩ => fin_ok (show fin C.K C.w (.ok d) F H Q _ from q) hs (hr F)
  cases d <;> cases k <;> first | cases h | skip
  · exact key _ pe_non fun _ => rfl
  · exact key _ pe_bl fun _ => by rw [eq_of_beq (show (_ == _) = true from h)]; rfl
  · exact key _ pe_int fun _ => by rw [of_decide_eq_true (show decide _ = true from h)]; rfl
  · rename_i l x
    have h' : decide (x = tx l) = true ∧ okc l = true := Bool.and_eq_true_iff.mp h
    exact key _ pe_str fun _ => ⟨by rw [of_decide_eq_true h'.1], h'.2⟩
theorem s_glo (G : Gd nm X C) {g : Nat} {x : Str} (hn : nm.g g = some x) (hg : Gl X x) (hp : plainName x = true) : PE X (.Name x pos) (C.rd (.glo g)) := by
  cases e : C.glob g with
  | ok d =>
    obtain ⟨u, v, h1, h2, h3⟩ := G.glo g x d hn e
    exact PE.weak (pe_glob hg h1 h2 (plain1 hp).1) fun σ H Q ⟨env, F, he, hs, q⟩ => by
      have q' : fin C.K C.w (C.glob g) F H Q _ := q
      rw [e] at q'
      exact fin_ok q' hs (h3 F)
  | ex k => exact absurd e (G.gno g k)
  | no => exact ⟨fun pins s σ H Q I ⟨env, F, he, hs, q⟩ => by
      have q' : fin C.K C.w (C.glob g) F H Q _ := q
      rw [e] at q'
      exact False.elim q'⟩

/-! ### rows of expressions -/
theorem s_nil : PA X [] (C.rds []) := PA.weak pa_nil fun σ H Q ⟨env, F, he, hs, q⟩ => (show finL C.K C.w (.ok []) F H Q _ from q) [] F H (Ext.refl hs) rfl
theorem s_cons {e : Expr} {es : List Expr} {t : E} {ts : List E} (h : PE X e (C.rd t)) (hr : PA X es (C.rds ts)) (hst : starEach (e :: es) X.env = (false, eval e X.env) :: starEach es X.env) : PA X (e :: es) (C.rds (t :: ts)) :=
  PA.weak (pa_cons h hr hst) fun σ H Q ⟨env, F, he, hs, q⟩ => by
    have q' : finL C.K C.w ((ev C.glob C.fn t env).bind fun d => (evs C.glob C.fn ts env).bind fun ds => .ok (d :: ds)) F H Q _ := q
    refine ⟨env, F, he, hs, ?_⟩
    cases e1 : ev C.glob C.fn t env with
    | no => rw [e1] at q'; exact q'
    | ex k => rw [e1] at q'; exact q'
    | ok d =>
      rw [e1] at q'
      intro v F1 H1 x1 r1
      refine ⟨env, F1, he.mono x1.sub, x1.inH, ?_⟩
      have q2 := finL_mono x1 q'
      cases e2 : evs C.glob C.fn ts env with
      | no => rw [e2] at q2; exact q2
      | ex k => rw [e2] at q2; exact q2
      | ok ds =>
        rw [e2] at q2
        intro vs F2 H2 x2 r2
        exact q2 (v :: vs) F2 H2 x2 ⟨v, vs, rfl, Rep.mono x2.sub d v r1, r2⟩
theorem s_tup {es : List Expr} {ts : List E} {k : Nat} (h : PA X es (C.rds ts)) : PE X (.Tuple es k pos) (C.rd (.tup ts)) :=
  PE.weak (pe_tup h) fun σ H Q ⟨env, F, he, hs, q⟩ => by
    have q' : fin C.K C.w ((evs C.glob C.fn ts env).bind fun ds => fit ds.length (.tup ds)) F H Q _ := q
    refine ⟨env, F, he, hs, ?_⟩
    cases e2 : evs C.glob C.fn ts env with
    | no => rw [e2] at q'; exact q'
    | ex k => rw [e2] at q'; exact q'
    | ok ds =>
      rw [e2] at q'
      intro vs F2 H2 x2 r2
      obtain ⟨hn, q3⟩ := fit_fin (show fin C.K C.w (fit _ _) F H Q _ from q')
      exact ⟨by rw [← r2.length, ← lim_eq]; exact hn, fun p hp => fin_tup (fin_mono x2 q3) x2.inH r2 p hp⟩
/-- a new list or dict, whatever becomes of it -/
def Ct.rn (C : Ct) (t : E) : TE := fun σ H Q => ∃ env F, EnvR C.K C.w F σ env ∧ Same F H ∧ (match ev C.glob C.fn t env with
  | .ok (.lst ds) => ∀ p vs F' H', Ext F H F' H' → H' p = none → Reps C.K C.w F' ds vs → Q (.ref p) (upd H' p (.lst vs))
  | .ok (.dic ks ds) => ∀ p kvs F' H', Ext F H F' H' → H' p = none → kvs.map (·.1) = ks.map kyK → ks.Nodup → Reps C.K C.w F' ds (kvs.map (·.2)) → Q (.ref p) (upd H' p (.dK kvs))
  | .ok _ => False
  | .ex c => ∀ H', Same H H' → C.W (.ref (C.ca c)) none σ H'
  | .no => False)
/-- kept as it is -/
theorem rn_rd {t : E} {e : Expr} (h : PE X e (C.rn t)) (hf : ∀ env d, ev C.glob C.fn t env = .ok d → (∃ ds, d = .lst ds) ∨ ∃ ks ds, d = .dic ks ds) : PE X e (C.rd t) :=
  PE.weak h fun σ H Q ⟨env, F, he, hs, q⟩ => by
    refine ⟨env, F, he, hs, ?_⟩
    cases e1 : ev C.glob C.fn t env with
    | no => rw [e1] at q; exact q
    | ex k => rw [e1] at q; exact q
    | ok d =>
      rw [e1] at q
      rcases hf env d e1 with ⟨ds, rfl⟩ | ⟨ks, ds, rfl⟩
      · exact fun p vs F' H' x hp r => fin_lst (fin_mono x q) x.inH r p hp
      · exact fun p kvs F' H' x hp h1 h2 h3 => q (.ref p) _ _ (x.trans (Ext.new1 (.dK kvs) x.inH hp)) ⟨p, kvs, rfl, upd_same, h1, h2, Reps.mono (same_upd (x.inH.free hp)) ds _ h3⟩
theorem s_lst {es : List Expr} {ts : List E} (h : PA X es (C.rds ts)) : PE X (.List es pos) (C.rn (.lst ts)) :=
  PE.weak (pe_lst h) fun σ H Q ⟨env, F, he, hs, q⟩ => by
    refine ⟨env, F, he, hs, ?_⟩
    have ee : ev C.glob C.fn (.lst ts) env = (evs C.glob C.fn ts env).bind fun ds => fit ds.length (.lst ds) := rfl
    rw [ee] at q
    cases e2 : evs C.glob C.fn ts env with
    | no => rw [e2] at q; exact q
    | ex k => rw [e2] at q; exact q
    | ok ds =>
      rw [e2] at q
      intro vs F2 H2 x2 r2
      by_cases hn : ds.length ≤ lim
      · have e3 : R.bind (.ok ds) (fun ds => fit ds.length (.lst ds)) = .ok (.lst ds) := by
          show fit ds.length (.lst ds) = _
          unfold fit; rw [if_pos hn]
        rw [e3] at q
        exact ⟨by rw [← r2.length, ← lim_eq]; exact hn, fun p hp => q p vs F2 H2 x2 hp r2⟩
      · have e3 : R.bind (.ok ds) (fun ds => fit ds.length (.lst ds)) = .no := by
          show fit ds.length (.lst ds) = _
          unfold fit; rw [if_neg hn]
        rw [e3] at q
        exact False.elim q

/-! ### operators -/
theorem fit_ne (n : Nat) (d : D) (k : Nat) : fit n d ≠ .ex k := by unfold fit; split <;> simp
theorem bop_ne (o : B2) (d e : D) (k : Nat) : bop o d e ≠ .ex k := by
  unfold bop
  split <;> first | exact fit_ne _ _ _ | (split <;> first | exact fit_ne _ _ _ | simp) | simp
theorem s_bin (G : Gd0 X C) (o : B2) (ha : PE X a (C.rd ta)) (hb : PE X b (C.rd tb)) : PE X (.BinOp a (opOf o) b pos) (C.rd (.bin o ta tb)) :=
  PE.weak (pe_op (op_bop o) ha hb) fun σ H Q ⟨env, F, he, hs, q⟩ => by
    have q' : fin C.K C.w ((ev C.glob C.fn ta env).bind fun x => (ev C.glob C.fn tb env).bind fun y => bop o x y) F H Q _ := q
    refine ⟨env, F, he, hs, fin_bind q' fun d v F1 H1 e1 x1 r1 q1 => ⟨env, F1, he.mono x1.sub, x1.inH, fin_bind q1 fun d2 v2 F2 H2 e2 x2 r2 q2 => ?_⟩⟩
    rw [G.hK, G.hw]
    exact ⟨F2, d, d2, x2.inH, Rep.mono x2.sub d v r1, r2, fin_no0 q2 (bop_ne o d d2)⟩
theorem s_neg (ha : PE X a (C.rd ta)) : PE X (.UnaryOp .USub a pos) (C.rd (.neg ta)) :=
  PE.weak (pe_un un_neg ha) fun σ H Q ⟨env, F, he, hs, q⟩ => by
    refine ⟨env, F, he, hs, fin_bind (show fin C.K C.w ((ev C.glob C.fn ta env).bind _) F H Q _ from q) fun d v F1 H1 e1 x1 r1 q1 => ?_⟩
    cases d with
    | int i =>
      obtain rfl : v = .int i := r1
      exact ⟨i, rfl, fin_ok (show fin C.K C.w (.ok (.int (-i))) F1 H1 Q _ from q1) x1.inH rfl⟩
    | _ => exact False.elim q1
theorem deqR_ne (d e : D) (k : Nat) : deqR d e ≠ .ex k := by
  unfold deqR
  split <;> first | (intro h; cases h; done) | (split <;> (intro h; cases h))
theorem anyR_ne (d : D) (xs : List D) (k : Nat) : anyR d xs ≠ .ex k := by
  unfold anyR
  split <;> (intro h; cases h)
theorem isIn_ne (d e : D) (k : Nat) : isIn d e ≠ .ex k := by
  unfold isIn
  split <;> first | exact anyR_ne _ _ _ | (intro h; cases h; done) | (split <;> (intro h; cases h))
theorem bind_ne {A B : Type} {r : R A} {f : A → B} {k : Nat} (hn : ∀ k, r ≠ .ex k) : (r.bind fun z => R.ok (f z)) ≠ .ex k := by
  cases r with
  | ok a => intro h; cases h
  | ex c => exact absurd rfl (hn c)
  | no => intro h; cases h
theorem cop_ne (o : C2) (d e : D) (k : Nat) : cop o d e ≠ .ex k := by
  unfold cop
  split <;> first
    | exact deqR_ne _ _ _
    | exact isIn_ne _ _ _
    | exact bind_ne (deqR_ne _ _)
    | exact bind_ne (isIn_ne _ _)
    | (intro h; cases h)
/-- a comparison's Bool -/
theorem fin_bool {K : PySem.W.Frag} {w : World} {F H : Hp} {Q : VK} {Xc : Nat → Hp → Prop} {r : R Bool} (h : fin K w (r.bind fun z => .ok (.bl z)) F H Q Xc) (hn : ∀ c, r ≠ .ex c) (hs : Same F H) : ∃ z, r = .ok z ∧ Q (.bl z) H := by
  cases r with
  | ok z => exact ⟨z, rfl, fin_ok (show fin K w (.ok (.bl z)) F H Q Xc from h) hs rfl⟩
  | ex c => exact absurd rfl (hn c)
  | no => exact False.elim h
theorem cmp_core (G : Gd0 X C) (o : C2) {σ : L2.St} {H : Hp} {Q : VK} (h : C.rd (.cmp o ta tb) σ H Q) : tOp (rdc X.K X.w (cop o)) (C.rd ta) (C.rd tb) σ H Q := by
  obtain ⟨env, F, he, hs, q⟩ := h
  refine ⟨env, F, he, hs, fin_bind (show fin C.K C.w ((ev C.glob C.fn ta env).bind _) F H Q _ from q) fun d v F1 H1 e1 x1 r1 q1 => ⟨env, F1, he.mono x1.sub, x1.inH, fin_bind q1 fun d2 v2 F2 H2 e2 x2 r2 q2 => ?_⟩⟩
  obtain ⟨z, hz, qz⟩ := fin_bool q2 (cop_ne o d d2) x2.inH
  rw [G.hK, G.hw]
  exact ⟨F2, d, d2, x2.inH, Rep.mono x2.sub d v r1, r2, z, hz, qz⟩
theorem s_cmp (G : Gd0 X C) (o : C2) (ha : PE X a (C.rd ta)) (hb : PE X b (C.rd tb)) (hm : behindInMarks (cOf o) b = false) : PE X (.Compare a [cOf o] [b] pos) (C.rd (.cmp o ta tb)) :=
  PE.weak (pe_cmpR (op_cop o G.hu) ha hb hm) fun σ H Q h => cmp_core G o h
theorem st_cmp (G : Gd0 X C) (o : C2) (ha : PE X a (C.rd ta)) (hb : PE X b (C.rd tb)) (hm : behindInMarks (cOf o) b = false) : PT X (.Compare a [cOf o] [b] pos) (tB (C.rd (.cmp o ta tb))) :=
  PT.weak (pt_cmpR (op_cop o G.hu) ha hb hm) fun σ H Q h => cmp_core G o h
theorem cmp2_core (G : Gd0 X C) (o p : C2) {σ : L2.St} {H : Hp} {Q : VK} (h : C.rd (.cmp2 o p ta tb tc) σ H Q) : tChain (rdc X.K X.w (cop o)) (rdc X.K X.w (cop p)) (C.rd ta) (C.rd tb) (C.rd tc) σ H Q := by
  obtain ⟨env, F, he, hs, q⟩ := h
  refine ⟨env, F, he, hs, fin_bind (show fin C.K C.w ((ev C.glob C.fn ta env).bind _) F H Q _ from q) fun d v F1 H1 e1 x1 r1 q1 => ⟨env, F1, he.mono x1.sub, x1.inH, fin_bind q1 fun d2 v2 F2 H2 e2 x2 r2 q2 => ?_⟩⟩
  cases hz : cop o d d2 with
  | no => rw [hz] at q2; exact False.elim q2
  | ex k => exact absurd hz (cop_ne o d d2 k)
  | ok z =>
    rw [hz] at q2
    rw [G.hK, G.hw]
    refine ⟨F2, d, d2, x2.inH, Rep.mono x2.sub d v r1, r2, z, hz, z, rfl, ?_⟩
    cases z with
    | false =>
      rw [if_neg Bool.false_ne_true]
      exact fin_ok (show fin C.K C.w (.ok (.bl false)) F2 H2 Q _ from q2) x2.inH rfl
    | true =>
      rw [if_pos rfl]
      have q3 : fin C.K C.w ((ev C.glob C.fn tc env).bind fun w' => (cop p d2 w').bind fun u => .ok (.bl u)) F2 H2 Q _ := q2
      refine ⟨env, F2, he.mono (x1.sub.trans x2.sub), x2.inH, fin_bind q3 fun d3 v3 F3 H3 e3 x3 r3 q4 => ?_⟩
      obtain ⟨u, hu, qu⟩ := fin_bool q4 (cop_ne p d2 d3) x3.inH
      exact ⟨F3, d2, d3, x3.inH, Rep.mono x3.sub d2 v2 r2, r3, u, hu, qu⟩
theorem s_cmp2 (G : Gd0 X C) (o p : C2) (ha : PE X a (C.rd ta)) (hb : PE X b (C.rd tb)) (hc : PE X c (C.rd tc)) (hm : lastMarks [cOf o, cOf p] [b, c] = false) : PE X (.Compare a [cOf o, cOf p] [b, c] pos) (C.rd (.cmp2 o p ta tb tc)) :=
  PE.weak (pe_chain (op_cop o G.hu) (op_cop p G.hu) ha hb hc hm) fun σ H Q h => cmp2_core G o p h
theorem st_cmp2 (G : Gd0 X C) (o p : C2) (ha : PE X a (C.rd ta)) (hb : PE X b (C.rd tb)) (hc : PE X c (C.rd tc)) (hm : lastMarks [cOf o, cOf p] [b, c] = false) : PT X (.Compare a [cOf o, cOf p] [b, c] pos) (tB (C.rd (.cmp2 o p ta tb tc))) :=
  PT.weak (pt_chain (op_cop o G.hu) (op_cop p G.hu) ha hb hc hm) fun σ H Q h => cmp2_core G o p h

/-! ### and, or, not, if -/
theorem as_bool {d : D} {v : V} {K : PySem.W.Frag} {w : World} {F H : Hp} {Q : VK} {Xc : Nat → Hp → Prop} {f : Bool → R D} (r : Rep K w F d v) (h : fin K w ((asBool d).bind f) F H Q Xc) : ∃ z, d = .bl z ∧ v = .bl z ∧ fin K w (f z) F H Q Xc := by
  cases d with
  | bl z => exact ⟨z, rfl, r, h⟩
  | _ => exact False.elim h
theorem s_and (ha : PE X a (C.rd ta)) {rest : List Expr} (hb : PE X (.BoolOp .And (b :: rest) pos) (C.rd tb)) : PE X (.BoolOp .And (a :: b :: rest) pos) (C.rd (.and_ ta tb)) :=
  PE.weak (pe_and ha hb) fun σ H Q ⟨env, F, he, hs, q⟩ => by
    refine ⟨env, F, he, hs, fin_bind (show fin C.K C.w ((ev C.glob C.fn ta env).bind _) F H Q _ from q) fun d v F1 H1 e1 x1 r1 q1 => ?_⟩
    obtain ⟨z, rfl, rfl, q2⟩ := as_bool r1 q1
    refine ⟨z, rfl, ?_⟩
    cases z with
    | true => rw [if_pos rfl]; exact ⟨env, F1, he.mono x1.sub, x1.inH, q2⟩
    | false => rw [if_neg Bool.false_ne_true]; exact fin_ok (show fin C.K C.w (.ok (.bl false)) F1 H1 Q _ from q2) x1.inH rfl
theorem s_or (ha : PE X a (C.rd ta)) {rest : List Expr} (hb : PE X (.BoolOp .Or (b :: rest) pos) (C.rd tb)) : PE X (.BoolOp .Or (a :: b :: rest) pos) (C.rd (.or_ ta tb)) :=
  PE.weak (pe_or ha hb) fun σ H Q ⟨env, F, he, hs, q⟩ => by
    refine ⟨env, F, he, hs, fin_bind (show fin C.K C.w ((ev C.glob C.fn ta env).bind _) F H Q _ from q) fun d v F1 H1 e1 x1 r1 q1 => ?_⟩
    obtain ⟨z, rfl, rfl, q2⟩ := as_bool r1 q1
    refine ⟨z, rfl, ?_⟩
    cases z with
    | false => rw [if_neg Bool.false_ne_true]; exact ⟨env, F1, he.mono x1.sub, x1.inH, q2⟩
    | true => rw [if_pos rfl]; exact fin_ok (show fin C.K C.w (.ok (.bl true)) F1 H1 Q _ from q2) x1.inH rfl
theorem s_not (ha : PE X a (C.rd ta)) : PE X (.UnaryOp .Not a pos) (C.rd (.not_ ta)) :=
  PE.weak (pe_not ha) fun σ H Q ⟨env, F, he, hs, q⟩ => by
    refine ⟨env, F, he, hs, fin_bind (show fin C.K C.w ((ev C.glob C.fn ta env).bind _) F H Q _ from q) fun d v F1 H1 e1 x1 r1 q1 => ?_⟩
    obtain ⟨z, rfl, rfl, q2⟩ := as_bool r1 q1
    exact ⟨z, rfl, fin_ok (show fin C.K C.w (.ok (.bl (!z))) F1 H1 Q _ from q2) x1.inH rfl⟩
/-- a test of a part, then what the whole goes on with -/
theorem test_bind {t : E} {σ : L2.St} {H F : Hp} {env : Env} {f : Bool → R D} {Q : VK} {P : Bool → Hp → Prop} (he : EnvR C.K C.w F σ env) (hs : Same F H) (q : fin C.K C.w ((ev C.glob C.fn t env).bind fun x => (asBool x).bind f) F H Q fun c H' => C.W (.ref (C.ca c)) none σ H')
    (k : ∀ z F1 H1, Ext F H F1 H1 → fin C.K C.w (f z) F1 H1 Q (fun c H' => C.W (.ref (C.ca c)) none σ H') → P z H1) : tB (C.rd t) σ H P := by
  refine ⟨env, F, he, hs, fin_bind q fun d v F1 H1 e1 x1 r1 q1 => ?_⟩
  obtain ⟨z, rfl, rfl, q2⟩ := as_bool r1 q1
  exact ⟨z, rfl, k z F1 H1 x1 q2⟩
theorem st_not (ha : PT X a (tB (C.rd ta))) : PT X (.UnaryOp .Not a pos) (tB (C.rd (.not_ ta))) :=
  PT.weak (pt_not ha) fun σ H Q ⟨env, F, he, hs, q⟩ => test_bind he hs (show fin C.K C.w ((ev C.glob C.fn ta env).bind _) F H _ _ from q) fun z F1 H1 x1 q2 => by
    obtain ⟨c, e, h⟩ := fin_ok (show fin C.K C.w (.ok (.bl (!z))) F1 H1 _ _ from q2) x1.inH rfl
    cases e
    exact h
theorem sw_and (ha : PT X a (tB (C.rd ta))) {rest : List Expr} (hb : PW X (.BoolOp .And (b :: rest) pos) (tB (C.rd tb))) : PW X (.BoolOp .And (a :: b :: rest) pos) (tB (C.rd (.and_ ta tb))) :=
  PW.weak (pw_and ha hb) fun σ H Q ⟨env, F, he, hs, q⟩ => test_bind he hs (show fin C.K C.w ((ev C.glob C.fn ta env).bind _) F H _ _ from q) fun z F1 H1 x1 q2 => by
    cases z with
    | true => rw [if_pos rfl]; exact ⟨env, F1, he.mono x1.sub, x1.inH, q2⟩
    | false =>
      rw [if_neg Bool.false_ne_true]
      obtain ⟨c, e, h⟩ := fin_ok (show fin C.K C.w (.ok (.bl false)) F1 H1 _ _ from q2) x1.inH rfl
      cases e
      exact h
theorem sw_or (ha : PT X a (tB (C.rd ta))) {rest : List Expr} (hb : PW X (.BoolOp .Or (b :: rest) pos) (tB (C.rd tb))) : PW X (.BoolOp .Or (a :: b :: rest) pos) (tB (C.rd (.or_ ta tb))) :=
  PW.weak (pw_or ha hb) fun σ H Q ⟨env, F, he, hs, q⟩ => test_bind he hs (show fin C.K C.w ((ev C.glob C.fn ta env).bind _) F H _ _ from q) fun z F1 H1 x1 q2 => by
    cases z with
    | false => rw [if_neg Bool.false_ne_true]; exact ⟨env, F1, he.mono x1.sub, x1.inH, q2⟩
    | true =>
      rw [if_pos rfl]
      obtain ⟨c, e, h⟩ := fin_ok (show fin C.K C.w (.ok (.bl true)) F1 H1 _ _ from q2) x1.inH rfl
      cases e
      exact h
theorem s_ite (hc : PT X c (tB (C.rd tc))) (ha : PE X a (C.rd ta)) (hb : PE X b (C.rd tb)) : PE X (.IfExp c a b pos) (C.rd (.ite tc ta tb)) :=
  PE.weak (pe_ifExp hc ha hb) fun σ H Q ⟨env, F, he, hs, q⟩ => test_bind he hs (show fin C.K C.w ((ev C.glob C.fn tc env).bind _) F H _ _ from q) fun z F1 H1 x1 q2 => by
    cases z with
    | true => rw [if_pos rfl]; exact ⟨env, F1, he.mono x1.sub, x1.inH, q2⟩
    | false => rw [if_neg Bool.false_ne_true]; exact ⟨env, F1, he.mono x1.sub, x1.inH, q2⟩
end
end Ev

/-! t[::-1] of a tuple. -/
namespace Ev
open PySem L2 PySem.Spec PyProof.Rows HT

section
variable {prog : Program} {w : World} {A : Around} {E : Value → Shared → Prop} {s : Shared}
theorem adj_back (n : Nat) : Builtin.Slice.sliceAdjust none none (-1) (n : Int) = ((n : Int) - 1, -1) := by
  unfold Builtin.Slice.sliceAdjust
  simp
theorem places_back (n : Nat) : Builtin.Slice.slicePlaces ((n : Int) - 1) (-1) (-1) = n := by
  unfold Builtin.Slice.slicePlaces
  simp
  omega
theorem sliceApplied_back {sl : Addr} {vl vu vs : Value} {n : Nat} {Q : Int × Int × Nat → Shared → Prop} (hsl : s.heap.IsSliceOf sl vl vu vs) (pl : IsPart vl none) (pu : IsPart vu none) (ps : IsPart vs (some (-1)))
    (h : Q ((n : Int) - 1, -1, n) s) : wpAny (model prog w) A (Builtin.Slice.sliceApplied (.ref sl) (pure (n : Int))) Q E s := by
  obtain ⟨os, hos, hcs, hds⟩ := id hsl
  unfold Builtin.Slice.sliceApplied Builtin.Slice.sliceFields
  refine wpAny_bind (wpAny_bind (wpAny_field hos hds (x := vl) rfl (wpAny_bind (wpAny_field hos hds (x := vu) rfl (wpAny_bind (wpAny_field hos hds (x := vs) rfl (wpAny_pure (wpAny_bind (slicePart_ ps ?_)))))))))
  show wpAny _ _ (if ((-1 : Int) == 0) = true then _ else _) _ _ s
  rw [if_neg (by decide)]; refine wpAny_bind (slicePart_ pl (wpAny_bind (slicePart_ pu (wpAny_bind (wpAny_pure ?_)))))
  show wpAny _ _ (match Builtin.Slice.sliceAdjust none none (-1) (n : Int) with | (lo, hi) => pure (lo, (-1 : Int), Builtin.Slice.slicePlaces lo hi (-1))) _ _ s
  rw [adj_back n]
  show wpAny _ _ (pure ((n : Int) - 1, (-1 : Int), Builtin.Slice.slicePlaces ((n : Int) - 1) (-1) (-1))) _ _ s
  rw [places_back]; exact wpAny_pure h
theorem pick_back (xs : Array Value) : ((List.range xs.size).filterMap fun (m : Nat) => xs[(((xs.size : Int) - 1) + (m : Int) * (-1)).toNat]?).toArray = xs.toList.reverse.toArray := by
  congr 1
  have e : ∀ m ∈ List.range xs.size, (xs[(((xs.size : Int) - 1) + (m : Int) * (-1)).toNat]?) = xs.toList.reverse[m]? := by
    intro m hm
    rw [List.mem_range] at hm
    have e1 : (((xs.size : Int) - 1) + (m : Int) * (-1)).toNat = xs.size - 1 - m := by omega
    rw [e1, List.getElem?_reverse (by simpa using hm), Array.length_toList, Array.getElem?_toList]
  have key : ∀ (l : List Value) (f : Nat → Option Value), (∀ m ∈ List.range l.length, f m = l[m]?) → (List.range l.length).filterMap f = l := by
    intro l f hf
    have go : ∀ n, n ≤ l.length → (List.range n).filterMap f = l.take n := by
      intro n
      induction n with
      | zero => intro _; rfl
      | succ n ih =>
        intro hn
        rw [List.range_succ, List.filterMap_append, ih (by omega)]
        have h2 : f n = some l[n] := by
          rw [hf n (by rw [List.mem_range]; omega), List.getElem?_eq_getElem (by omega)]
        rw [List.take_succ_eq_append_getElem (by omega)]
        simp [h2]
    rw [go l.length (Nat.le_refl _), List.take_length]
  have := key xs.toList.reverse (fun (m : Nat) => xs[(((xs.size : Int) - 1) + (m : Int) * (-1)).toNat]?) (by
    intro m hm
    rw [List.length_reverse, Array.length_toList] at hm
    exact e m hm)
  rw [List.length_reverse, Array.length_toList] at this
  exact this
theorem getItem_tuple_back {t sl : Addr} {items : Array Value} {vl vu vs : Value} {Q : Value → Shared → Prop} (ht : IsTup s.heap t items) (hsl : s.heap.IsSliceOf sl vl vu vs) (pl : IsPart vl none) (pu : IsPart vu none) (ps : IsPart vs (some (-1)))
    (h : Q (.ref s.heap.objs.size) { s with heap := s.heap.push { cls := .type "tuple", data := .seq items.toList.reverse.toArray } })
    (hsz : items.size ≤ sizeLine) : wpAny (model prog w) A (getItem (.ref t) (.ref sl)) Q E s := by
  have hok : sizeOk (.seq items.toList.reverse.toArray) := by
    show items.toList.reverse.toArray.size ≤ sizeLine
    simpa using hsz
  obtain ⟨os, hos, hcs, hds⟩ := id hsl
  have hTs : s.TypeIs (.ref sl) "slice" := ⟨os, hos, hcs⟩
  unfold getItem
  try with_reducible refine wpAny_holding ?_
  first | refine wpAny_bind (wpAny_pure ?_) | skip
  refine wpAny_bind (wpAny_sequenceKey ht.typeIs (by decide) (wpAny_bind (wpAny_callSpecial?_slot (name := Str.ofString "__getitem__") ht.typeIs PyProof.Rows.slot_tuple_getitem
    (wpAny_call_entry PyProof.Rows.slot_tuple_getitem ht.typeIs entry_tuple_getitem ?_ (args_tuple_getitem _ _)))))
  show wpAny _ _ (Builtin.Tuple.tupleItemsOf (.ref t) >>= _) _ _ s
  refine wpAny_bind (tupleItemsOf_ ht (wpAny_bind (wpAny_typeOf hTs ?_)))
  rw [if_pos (by decide)]; refine wpAny_bind (sliceApplied_back hsl pl pu ps ?_)
  have hno : ¬ ((((items.size : Int) - 1) == 0 && (-1 : Int) == 1 && items.size == items.size) = true) := by simp
  show wpAny _ _ (if (((items.size : Int) - 1) == 0 && (-1 : Int) == 1 && items.size == items.size) = true then _ else _) _ _ s
  rw [if_neg hno, pick_back]
  first
    | exact wpAny_bind (m := Builtin.Tuple.tupleExact _) (wpAny_newObj_type (wpAny_pure ⟨_, rfl, wpAny_pure h⟩) hok)
    | exact wpAny_bind (m := Builtin.Tuple.tupleExact _) (wpAny_newObj_type (wpAny_bind (wpAny_pure (wpAny_pure ⟨_, rfl, wpAny_pure h⟩))) hok)
    | exact wpAny_bind (wpAny_bind (m := Builtin.Tuple.tupleExact _) (wpAny_newObj_type (wpAny_pure (wpAny_pure ⟨_, rfl, wpAny_pure h⟩)) hok))
    | exact wpAny_bind (wpAny_bind (m := Builtin.Tuple.tupleExact _) (wpAny_newObj_type (wpAny_pure ⟨_, rfl, wpAny_pure h⟩) hok))
end
section
variable {X : Cx}
/-- x[::-1], by the value -/
def rdrev (K : PySem.W.Frag) (w : World) : V → Hp → VK → Prop := fun x H Q => ∃ F d, Same F H ∧ Rep K w F d x ∧ fin0 K w (rvs d) F H Q
def tRv (K : PySem.W.Frag) (w : World) (te : TE) : TE := fun σ H Q => te σ H fun x H1 => rdrev K w x H1 Q
theorem vals_reverse : ∀ {xs : List V} {us : List Value}, Vals xs us → Vals xs.reverse us.reverse
  | _, _, .nil => .nil
  | _, _, .cons r t => by
    rw [List.reverse_cons, List.reverse_cons]
    exact (vals_reverse t).append (.cons r .nil)
theorem pe_rev {e : Expr} {te : TE} {k : Nat} {p1 p2 p3 pos : Pos} (he : PE X e te) : PE X (.Subscript e (.Slice none none (some (.UnaryOp .USub (.Constant (.int 1) k p1) p2)) p3) pos) (tRv X.K X.w te) := by
  refine ⟨fun pins s σ H Q I h => Subscript_ (thn (he.run pins s σ H _ I h) fun v s1 ⟨x, H1, I1, r1, F, d, hs, hd, q⟩ => ?_)⟩
  have hst : PO X (some (.UnaryOp .USub (.Constant (.int 1) k p1) p2)) (tPart (tUn (rU fun i => .int (-i)) (tC (.int 1)))) := po_some (pe_un un_neg pe_int)
  refine wpAny_Slice (thn (po_none.run pins s1 σ H1 (fun o H2 => o = none ∧ H2 = H1) I1 ⟨rfl, rfl⟩) fun vl s2 ⟨l, H2, I2, pl, el, e2⟩ => ?_)
  subst el; subst e2
  refine thn (po_none.run pins s2 σ H2 (fun o H3 => o = none ∧ H3 = H2) I2 ⟨rfl, rfl⟩) fun vu s3 ⟨u, H3, I3, pu, eu, e3⟩ => ?_
  subst eu; subst e3
  refine thn (hst.run pins s3 σ H3 (fun o H4 => o = some (-1) ∧ H4 = H3) I3 ⟨1, rfl, -1, rfl, rfl, rfl⟩) fun vs s4 ⟨o, H4, I4, ps, eo, e4⟩ => ?_
  subst eo; subst e4
  have I5 : L2.Inv X pins σ H4 { s4 with heap := s4.heap.push { cls := .type "slice", data := .fields #[vl, vu, vs] } } := I4.kept (t' := s4.toks) fun b ob z => Heap.get?_push_of_some _ z
  have fr := I5.hok.fresh (Nat.le_refl _)
  show wpAny (model X.prog X.w) X.A (subscriptTail e (.Slice none none (some (.UnaryOp .USub (.Constant (.int 1) k p1) p2)) p3) v (.ref s4.heap.objs.size)) (EP X pins σ Q) X.xe { s4 with heap := s4.heap.push { cls := .type "slice", data := .fields #[vl, vu, vs] } }
  unfold rvs at q
  split at q
  · obtain ⟨a, ws, rfl, h1, h2⟩ := hd
    cases r1
    obtain ⟨its, r, ht, hz⟩ := I5.tuple (Same.tup hs h1)
    have hlen := r.length
    refine tail_any (ops := [.ref a, .ref s4.heap.objs.size]) ht.typeIs PyProof.Rows.slot_tuple_getitem.lookup ?_ (by with_unfolding_all rfl)
    refine getItem_tuple_back ht (Heap.IsSliceOf.new _ vl vu vs) pl pu ps ?_ (by rw [List.size_toArray]; omega)
    refine ⟨.ref _, _, I5.laid (t' := s4.toks) (o := .tup ws.reverse) (fun b ob z => Heap.get?_push_of_some _ z) (Nat.le_refl _) ?_, rfl, fin_tup q hs h2.reverse _ fr⟩
    exact ⟨by rw [List.length_reverse]; exact hz, its.reverse, vals_reverse r, ⟨_, Heap.get?_push_size _ rfl, rfl, _, rfl⟩⟩
  · obtain ⟨a, ws, rfl, h1, h2⟩ := hd
    cases r1
    obtain ⟨its, r, ht, hz⟩ := I5.list (SqL.of (hs _ _ h1))
    have hlen := r.length
    refine tail_any (ops := [.ref a, .ref s4.heap.objs.size]) ht.isList.typeIs PySem.slot_list_getitem.lookup ?_ (by with_unfolding_all rfl)
    refine wpAny_getItem_list_slice ht.isList (Heap.IsSliceOf.new _ vl vu vs) pl pu ps (by decide) ?_ (by rw [List.size_toArray]; omega)
    rw [PySem.W.krv_pick]
    refine ⟨.ref _, _, I5.laid (t' := s4.toks) (o := .lst ws.reverse) (fun b ob z => Heap.get?_push_of_some _ z) (Nat.le_refl _) ?_, rfl, fin_lst q hs h2.reverse _ fr⟩
    exact ⟨by rw [List.length_reverse]; exact hz, _, 0, vals_reverse r, Heap.get?_push_size _ rfl⟩
  · exact False.elim q
end
end Ev

/-! Rules for subscripts, calls, built-in functions and methods. -/
namespace Ev
open PySem L2 PyProof.Rows

/-- an argument that is no star -/
def NoStar (e : Expr) : Prop := ∀ es env, starEach (e :: es) env = (false, eval e env) :: starEach es env
def noStarB : Expr → Bool
  | .Starred _ _ => false
  | _ => true
theorem noStar_of {e : Expr} (h : noStarB e = true) : NoStar e := by
  intro es env
  cases e <;> first | rfl | cases h
def NoStars : List Expr → Prop
  | [] => True
  | e :: es => NoStar e ∧ NoStars es
theorem noStars_any {pos : Pos} {env : PySem.Env} : ∀ {es : List Expr}, NoStars es → (backTo pos (starEach es env)).any (·.1) = false
  | [], _ => rfl
  | e :: es, h => by
    rw [h.1 es env]
    show (false || (backTo pos (starEach es env)).any (·.1)) = false
    rw [noStars_any h.2]; rfl
/-- no super() -/
def noCall0 : Expr → Bool
  | .Call _ [] _ _ => false
  | _ => true
theorem base_of {o : Expr} {n : Str} {env : PySem.Env} (h : noCall0 o = true) : attributeBase o n env (eval o env) = eval o env := by
  unfold attributeBase
  split
  · cases h
  · rfl
def notSlice : Expr → Bool
  | .Slice _ _ _ _ => false
  | _ => true
theorem plainIx_of {e : Expr} (h : notSlice e = true) : PlainIx e := by
  intro o i
  cases e <;> first | rfl | cases h

section
variable {nm : Nm} {X : Cx} {C : Ct} {a b c : Expr} {ta tb tc : E} {pos : Pos}
theorem idx_ne (d e : D) (k : Nat) : idx d e ≠ .ex k := by
  unfold idx
  split <;> first | (intro h; cases h; done) | (split <;> first | (intro h; cases h; done) | (split <;> (intro h; cases h)))
theorem s_idx (G : Gd0 X C) (ha : PE X a (C.rd ta)) (hb : PE X b (C.rd tb)) (hn : notSlice b = true) : PE X (.Subscript a b pos) (C.rd (.idx ta tb)) :=
  PE.weak (pe_ix (ix_idx G.hu) ha hb (plainIx_of hn)) fun σ H Q ⟨env, F, he, hs, q⟩ => by
    have q' : fin C.K C.w ((ev C.glob C.fn ta env).bind fun x => (ev C.glob C.fn tb env).bind fun y => idx x y) F H Q _ := q
    refine ⟨env, F, he, hs, fin_bind q' fun d v F1 H1 e1 x1 r1 q1 => ⟨env, F1, he.mono x1.sub, x1.inH, fin_bind q1 fun d2 v2 F2 H2 e2 x2 r2 q2 => ?_⟩⟩
    rw [G.hK, G.hw]
    exact ⟨F2, d, d2, x2.inH, Rep.mono x2.sub d v r1, r2, fin_no0 q2 (idx_ne d d2)⟩
theorem slc_ne (d : D) (lo hi : Option Int) (k : Nat) : slc d lo hi ≠ .ex k := by
  unfold slc
  split <;> first | (intro h; cases h; done) | (split <;> (intro h; cases h))
/-- an end of a slice -/
def Ct.rpt (C : Ct) (t : E) : TO := fun σ H Q => ∃ env F, EnvR C.K C.w F σ env ∧ Same F H ∧ (match (if t.isNul then R.ok none else (ev C.glob C.fn t env).bind intOf) with
  | .ok o => ∀ F' H', Ext F H F' H' → Q o H'
  | .ex c => ∀ H', Same H H' → C.W (.ref (C.ca c)) none σ H'
  | .no => False)
theorem s_noPart : PO X none (C.rpt .nul) := ⟨fun pins s σ H Q I ⟨env, F, he, hs, q⟩ => po_none.run pins s σ H Q I ((show ∀ F' H', Ext F H F' H' → Q none H' from q) F H (Ext.refl hs))⟩
theorem s_part {t : E} {e : Expr} (h : PE X e (C.rd t)) (hn : t.isNul = false) : PO X (some e) (C.rpt t) := ⟨fun pins s σ H Q I ⟨env, F, he, hs, q⟩ => (po_some h).run pins s σ H Q I (by
    refine ⟨env, F, he, hs, ?_⟩
    rw [hn, if_neg Bool.false_ne_true] at q
    cases e1 : ev C.glob C.fn t env with
    | no => rw [e1] at q; exact q
    | ex k => rw [e1] at q; exact q
    | ok d =>
      rw [e1] at q
      intro v F1 H1 x1 r1
      cases d with
      | int i =>
        obtain rfl : v = .int i := r1
        exact ⟨i, rfl, (show ∀ F' H', Ext F H F' H' → Q (some i) H' from q) F1 H1 x1⟩
      | _ => exact False.elim q)⟩
theorem rpt_bind {t : E} {σ : L2.St} {H F : Hp} {env : Env} {f : Option Int → R D} {Q : VK} {P : Option Int → Hp → Prop} (he : EnvR C.K C.w F σ env) (hs : Same F H)
    (q : fin C.K C.w ((if t.isNul then R.ok none else (ev C.glob C.fn t env).bind intOf).bind f) F H Q fun c H' => C.W (.ref (C.ca c)) none σ H')
    (k : ∀ o F1 H1, Ext F H F1 H1 → fin C.K C.w (f o) F1 H1 Q (fun c H' => C.W (.ref (C.ca c)) none σ H') → P o H1) : C.rpt t σ H P := by
  refine ⟨env, F, he, hs, ?_⟩
  cases e1 : (if t.isNul then R.ok none else (ev C.glob C.fn t env).bind intOf) with
  | no => rw [e1] at q; exact q
  | ex c => rw [e1] at q; exact q
  | ok o =>
    rw [e1] at q
    exact fun F1 H1 x1 => k o F1 H1 x1 (fin_mono x1 q)
theorem s_slc (G : Gd0 X C) {tl tu : E} {lo hi : Option Expr} {p2 : Pos} (ha : PE X a (C.rd ta)) (hl : PO X lo (C.rpt tl)) (hh : PO X hi (C.rpt tu)) : PE X (.Subscript a (.Slice lo hi none p2) pos) (C.rd (.slc ta tl tu)) :=
  PE.weak (pe_slice sl_slc ha hl hh) fun σ H Q ⟨env, F, he, hs, q⟩ => by
    refine ⟨env, F, he, hs, fin_bind (show fin C.K C.w ((ev C.glob C.fn ta env).bind _) F H Q _ from q) fun d v F1 H1 e1 x1 r1 q1 => ?_⟩
    refine rpt_bind (he.mono x1.sub) x1.inH q1 fun o F2 H2 x2 q2 => rpt_bind (he.mono (x1.sub.trans x2.sub)) x2.inH q2 fun o3 F3 H3 x3 q3 => ?_
    rw [G.hK, G.hw]
    exact ⟨F3, d, x3.inH, Rep.mono (x2.sub.trans x3.sub) d v r1, fin_no0 q3 (slc_ne d o o3)⟩
theorem rvs_ne (d : D) (k : Nat) : rvs d ≠ .ex k := by
  unfold rvs
  split <;> (intro h; cases h)
theorem s_rev (G : Gd0 X C) {k : Nat} {p1 p2 p3 : Pos} (ha : PE X a (C.rd ta)) : PE X (.Subscript a (.Slice none none (some (.UnaryOp .USub (.Constant (.int 1) k p1) p2)) p3) pos) (C.rd (.rev ta)) :=
  PE.weak (pe_rev ha) fun σ H Q ⟨env, F, he, hs, q⟩ => by
    refine ⟨env, F, he, hs, fin_bind (show fin C.K C.w ((ev C.glob C.fn ta env).bind _) F H Q _ from q) fun d v F1 H1 e1 x1 r1 q1 => ?_⟩
    rw [G.hK, G.hw]
    exact ⟨F1, d, x1.inH, r1, fin_no0 q1 (rvs_ne d)⟩

/-! ### defs -/
theorem s_call (G : Gd nm X C) {f n : Nat} {x : Str} {p : Pos} {es : List Expr} {ts : List E} (hf : nm.f f = some (x, n)) (hg : Gl X x) (hp : plainName x = true) (ha : PA X es (C.rds ts)) (hns : NoStars es) (hl : ts.length = n) (hle : ts.length = es.length) :
    PE X (.Call (.Name x p) es [] pos) (C.rd (.call f ts)) := by
  obtain ⟨fa, fd, ps, k, hF, hr, hm, hk, hb⟩ := G.fns f x n hf
  have key : ∀ σ H Q, C.rd (.call f ts) σ H Q → tCallS (C.sp f n) (WE C.W) (C.rds ts) σ H Q := fun σ H Q ⟨env, F, he, hs, q⟩ => by
    have q' : fin C.K C.w ((evs C.glob C.fn ts env).bind fun ds => C.fn f ds) F H Q _ := q
    refine ⟨env, F, he, hs, ?_⟩
    cases e2 : evs C.glob C.fn ts env with
    | no => rw [e2] at q'; exact q'
    | ex k => rw [e2] at q'; exact q'
    | ok ds =>
      rw [e2] at q'
      intro vs F2 H2 x2 r2
      have len : ∀ (ts : List E) (ds : List D), evs C.glob C.fn ts env = .ok ds → ts.length = ds.length := by
        intro ts
        induction ts with
        | nil => intro ds h; cases h; rfl
        | cons t ts ih =>
          intro ds h
          obtain ⟨d, h1, h2⟩ := R.bind_eq_ok (show R.bind (ev C.glob C.fn t env) _ = .ok ds from h)
          obtain ⟨r, h3, h4⟩ := R.bind_eq_ok h2
          cases h4
          rw [List.length_cons, List.length_cons, ih r h3]
      exact ⟨by rw [← r2.length, ← len ts ds e2, hl], F2, ds, x2.inH, r2, fin_mono x2 (show fin C.K C.w (C.fn f ds) F H Q _ from q')⟩
  cases es with
  | nil =>
    refine ⟨fun pins s σ H Q I h => wpAny_Call_Name_kw (ld_glob I hg hm ?_ (plain1 hp).1)⟩
    have h' := key σ H Q h
    have ht : ts = [] := List.length_eq_zero_iff.mp hle
    subst ht
    obtain ⟨env, F, he, hs, q⟩ := h'
    refine PySem.W.callWith_K0 I.kIn hk ?_
    exact run_fnS (us := []) (vs := []) hF hr hb (L2N.passAt G.takes σ) I .nil ((show ∀ vs F' H', Ext F H F' H' → Reps C.K C.w F' [] vs → _ from q) [] F H (Ext.refl hs) rfl)
  | cons e es => exact PE.weak (pe_callS hF hr hg hm hk hb (fun σ => L2N.passAt G.takes σ) ha (plain1 hp).1 (hns.1 es X.env) (noStars_any hns.2)) key

/-! ### built-in functions of one argument -/
theorem b1_core (G : Gd nm X C) {f : D → R D} {t : E} (hne : ∀ d k, f d ≠ .ex k) (hev : ∀ env, ev C.glob C.fn t env = (ev C.glob C.fn ta env).bind f) {σ : L2.St} {H : Hp} {Q : VK} (h : C.rd t σ H Q) : tCB (rd1 X.K X.w f) (tCons (C.rd ta) tNil) σ H Q := by
  obtain ⟨env, F, he, hs, q⟩ := h
  rw [hev env] at q
  refine ⟨env, F, he, hs, fin_bind q fun d v F1 H1 e1 x1 r1 q1 => ?_⟩
  rw [G.hK, G.hw]
  exact ⟨F1, d, v, rfl, x1.inH, r1, fin_no0 q1 (hne d)⟩
theorem s_b1 (G : Gd nm X C) {id : String} {x : Str} {f : D → R D} {t : E} {p : Pos} (hc : CallR X (.builtin id) (rd1 X.K X.w f)) (hv : bootBuiltins x = some (.builtin id)) (hx : x ∈ bnames) (hg : Gl X x) (hp : plainName x = true)
    (hne : ∀ d k, f d ≠ .ex k) (hev : ∀ env, ev C.glob C.fn t env = (ev C.glob C.fn ta env).bind f) (ha : PE X a (C.rd ta)) (ns : NoStar a) : PE X (.Call (.Name x p) [a] [] pos) (C.rd t) :=
  PE.weak (pe_callB hc hg (G.blt x hx) hv (pa_cons ha pa_nil (ns [] X.env)) (plain1 hp).2.2 (plain1 hp).1 (ns [] X.env) rfl) fun σ H Q h => b1_core G hne hev h
theorem s_t1 (G : Gd nm X C) {id : String} {x : Str} {f : D → R D} {t : E} {p : Pos} (hc : CallR X (.type id) (rd1 X.K X.w f)) (hv : bootBuiltins x = some (.type id)) (hx : x ∈ bnames) (hg : Gl X x) (hp : plainName x = true)
    (hne : ∀ d k, f d ≠ .ex k) (hev : ∀ env, ev C.glob C.fn t env = (ev C.glob C.fn ta env).bind f) (ha : PE X a (C.rd ta)) (ns : NoStar a) : PE X (.Call (.Name x p) [a] [] pos) (C.rd t) :=
  PE.weak (pe_callTy hc hg (G.blt x hx) hv (pa_cons ha pa_nil (ns [] X.env)) (plain1 hp).2.2 (plain1 hp).1 (ns [] X.env) rfl) fun σ H Q h => b1_core G hne hev h
theorem bn_core (G : Gd nm X C) {f : D → R D} {t : E} (hne : ∀ d k, f d ≠ .ex k) (hnew : ∀ d r, f d = .ok r → (∃ ds, r = .lst ds) ∨ ∃ ks ds, r = .dic ks ds) (hev : ∀ env, ev C.glob C.fn t env = (ev C.glob C.fn ta env).bind f) {σ : L2.St} {H : Hp} {Q : VK} (h : C.rn t σ H Q) : tCB (rdn1 X.K X.w f) (tCons (C.rd ta) tNil) σ H Q := by
  obtain ⟨env, F, he, hs, q⟩ := h
  rw [hev env] at q
  refine ⟨env, F, he, hs, ?_⟩
  cases e1 : ev C.glob C.fn ta env with
  | no => rw [e1] at q; exact q
  | ex k => rw [e1] at q; exact q
  | ok d =>
    rw [e1] at q
    intro v F1 H1 x1 r1
    rw [G.hK, G.hw]
    refine ⟨F1, d, v, rfl, x1.inH, r1, ?_⟩
    have eb : R.bind (.ok d) f = f d := rfl
    rw [eb] at q
    cases e2 : f d with
    | no => rw [e2] at q; exact q
    | ex k => exact absurd e2 (hne d k)
    | ok r =>
      rw [e2] at q
      rcases hnew d r e2 with ⟨ds, rfl⟩ | ⟨ks, ds, rfl⟩
      · exact fun p vs hp hr => q p vs F1 H1 x1 hp hr
      · exact fun p kvs hp h1 h2 h3 => q p kvs F1 H1 x1 hp h1 h2 h3
theorem s_tn (G : Gd nm X C) {id : String} {x : Str} {f : D → R D} {t : E} {p : Pos} (hc : CallR X (.type id) (rdn1 X.K X.w f)) (hv : bootBuiltins x = some (.type id)) (hx : x ∈ bnames) (hg : Gl X x) (hp : plainName x = true)
    (hne : ∀ d k, f d ≠ .ex k) (hnew : ∀ d r, f d = .ok r → (∃ ds, r = .lst ds) ∨ ∃ ks ds, r = .dic ks ds) (hev : ∀ env, ev C.glob C.fn t env = (ev C.glob C.fn ta env).bind f) (ha : PE X a (C.rd ta)) (ns : NoStar a) : PE X (.Call (.Name x p) [a] [] pos) (C.rn t) :=
  PE.weak (pe_callTy hc hg (G.blt x hx) hv (pa_cons ha pa_nil (ns [] X.env)) (plain1 hp).2.2 (plain1 hp).1 (ns [] X.env) rfl) fun σ H Q h => bn_core G hne hnew hev h
theorem s_bn (G : Gd nm X C) {id : String} {x : Str} {f : D → R D} {t : E} {p : Pos} (hc : CallR X (.builtin id) (rdn1 X.K X.w f)) (hv : bootBuiltins x = some (.builtin id)) (hx : x ∈ bnames) (hg : Gl X x) (hp : plainName x = true)
    (hne : ∀ d k, f d ≠ .ex k) (hnew : ∀ d r, f d = .ok r → (∃ ds, r = .lst ds) ∨ ∃ ks ds, r = .dic ks ds) (hev : ∀ env, ev C.glob C.fn t env = (ev C.glob C.fn ta env).bind f) (ha : PE X a (C.rd ta)) (ns : NoStar a) : PE X (.Call (.Name x p) [a] [] pos) (C.rn t) :=
  PE.weak (pe_callB hc hg (G.blt x hx) hv (pa_cons ha pa_nil (ns [] X.env)) (plain1 hp).2.2 (plain1 hp).1 (ns [] X.env) rfl) fun σ H Q h => bn_core G hne hnew hev h

theorem dLen_ne (d : D) (k : Nat) : dLen d ≠ .ex k := by unfold dLen; split <;> first | (intro h; cases h; done) | (split <;> (intro h; cases h))
theorem dAll_ne (d : D) (k : Nat) : dAll d ≠ .ex k := by unfold dAll; split <;> first | (intro h; cases h; done) | (split <;> (intro h; cases h))
theorem dSum_ne (d : D) (k : Nat) : dSum d ≠ .ex k := by unfold dSum; split <;> first | (intro h; cases h; done) | (split <;> (intro h; cases h))
theorem dAbs_ne (d : D) (k : Nat) : dAbs d ≠ .ex k := by unfold dAbs; split <;> (intro h; cases h)
theorem dTuple_ne (d : D) (k : Nat) : dTuple d ≠ .ex k := by unfold dTuple; split <;> (intro h; cases h)
theorem dList_ne (d : D) (k : Nat) : dList d ≠ .ex k := by unfold dList; split <;> (intro h; cases h)
theorem dList_new (d r : D) (h : dList d = .ok r) : (∃ ds, r = .lst ds) ∨ ∃ ks ds, r = .dic ks ds := by
  unfold dList at h
  split at h <;> first | (cases h; exact .inl ⟨_, rfl⟩) | cases h

/-! ### isinstance -/
def tyN : Ty → String
  | .int => "int"
  | .bool => "bool"
  | .str => "str"
  | .tuple => "tuple"
  | .list => "list"
def tyD : D → String
  | .non => "NoneType"
  | .bl _ => "bool"
  | .int _ => "int"
  | .str _ => "str"
  | .tup _ => "tuple"
  | .lst _ => "list"
  | .dic _ _ => "dict"
  | .scr _ => "list"
  | .gdc _ _ => "dict"
  | .adr _ => "dict"
theorem ty_of {K : PySem.W.Frag} {w : World} {F H : Hp} {d : D} {v : V} (hs : Same F H) (r : Rep K w F d v) (hd : ∀ a, d ≠ .adr a) : TyX K H v (.type (tyD d)) := by
  cases d with
  | non => obtain rfl := r; exact .base .non
  | bl b => obtain rfl := r; exact .base (.bl b)
  | int i => obtain rfl := r; exact .base (.int i)
  | str l => obtain ⟨rfl, _⟩ := r; exact .base (.str _)
  | tup ds =>
    obtain ⟨a, vs, rfl, h1, _⟩ := r
    rcases h1 with (h1 | ⟨o, h1⟩) | ⟨o, its, n, h1, h2, _⟩
    · exact .base (.tup (hs _ _ h1))
    · exact .fTuple (hs _ _ h1)
    · exact .kTuple h1 h2
  | lst ds => obtain ⟨a, vs, rfl, h1, _⟩ := r; exact .base (.lst (hs _ _ h1))
  | dic ks ds => obtain ⟨a, kvs, rfl, h1, _⟩ := r; exact .base (.dK (hs _ _ h1))
  | scr ns =>
    obtain ⟨a, rfl, h1⟩ := r
    rcases h1 with (h1 | ⟨o, h1⟩) | ⟨o, its, n, h1, h2, _⟩
    · exact .base (.lst (hs _ _ h1))
    · exact .base (.frz (hs _ _ h1))
    · exact .kList h1 h2
  | gdc ks ds => obtain ⟨a, es, n, vs, rfl, h1, _⟩ := r; exact .kDict h1.at_ rfl
  | adr a => exact absurd rfl (hd a)
def tyHit (t : Ty) (n : String) : Bool := n == tyN t || (match t with
  | .int => n == "bool"
  | _ => false)
def tyAll : List String := ["NoneType", "bool", "int", "str", "tuple", "list", "dict"]
theorem kit_s (t : Ty) : ∀ n ∈ tyAll, kitB n (tyN t) = some (tyHit t n) := by
  cases t <;> decide +kernel
theorem kit_d (t : Ty) (d : D) : kitB (tyD d) (tyN t) = some (isTy t d) := by
  have e : tyHit t (tyD d) = isTy t d := by cases t <;> cases d <;> rfl
  rw [← e]
  exact kit_s t _ (by cases d <;> simp [tyD, tyAll])
theorem s_isi (G : Gd nm X C) {t : Ty} {p p2 : Pos} {tn : Str} (htn : tn = Str.ofString (tyN t)) (hg : Gl X "isinstance") (hg2 : Gl X tn) (ha : PE X a (C.rd ta)) (ns : NoStar a) :
    PE X (.Call (.Name "isinstance" p) [a, .Name tn p2] [] pos) (C.rd (.isi ta t)) := by
  have hb : bootBuiltins tn = some (.type (tyN t)) := by rw [htn]; cases t <;> decide +kernel
  have hm : X.mg tn = none := G.blt tn (by rw [htn]; cases t <;> decide +kernel)
  have pl : plainName tn = true := by rw [htn]; cases t <;> decide +kernel
  have h2 : PE X (.Name tn p2) (tC (.ty (tyN t))) := pe_bltn hg2 hm hb rfl (plain1 pl).2.2 (plain1 pl).1
  refine PE.weak (pe_callB call_isi hg (G.blt _ (by decide +kernel)) (by decide +kernel) (pa_cons ha (pa_cons h2 pa_nil rfl) (ns _ X.env)) (by decide) (by decide) (ns _ X.env) rfl) fun σ H Q ⟨env, F, he, hs, q⟩ => ?_
  refine ⟨env, F, he, hs, fin_bind (show fin C.K C.w ((ev C.glob C.fn ta env).bind _) F H Q _ from q) fun d v F1 H1 e1 x1 r1 q1 => ?_⟩
  have hd : ∀ a, d ≠ .adr a := fun a e => by subst e; exact q1
  have q2 : fin C.K C.w (.ok (.bl (isTy t d))) F1 H1 Q fun c H' => C.W (.ref (C.ca c)) none σ H' := by
    cases d <;> first | exact q1 | exact absurd rfl (hd _)
  rw [G.hK]
  exact ⟨v, _, _, _, isTy t d, rfl, .ty _, ty_of x1.inH r1 hd, kit_ty (kit_d t d), fin_ok q2 x1.inH rfl⟩
end
end Ev

/-! Targets, what is walked, comprehensions. -/
namespace Ev
open PySem L2 PyProof.Rows

/-! ### targets -/
mutual
theorem bind_out : ∀ (t : T) (d : D) (env env' : Env), bind t d env = .ok env' → env'.length = env.length ∧ (∀ i, i ∉ tslots t → env'[i]? = env[i]?) ∧ ∀ i ∈ tslots t, ∃ x, env'[i]? = some (.sh x)
  | .one j, d, env, env', h => by
    have h' : (if j < env.length then R.ok (env.set j (.sh d)) else .no) = .ok env' := h
    split at h'
    · rename_i hj
      cases h'
      refine ⟨List.length_set, fun i hi => ?_, fun i hi => ?_⟩
      · rw [List.getElem?_set_ne (fun e => hi (by rw [e]; exact List.mem_singleton.mpr rfl))]
      · obtain rfl : i = j := List.mem_singleton.mp hi
        exact ⟨d, List.getElem?_set_self hj⟩
    · cases h'
  | .many ts, .tup xs, env, env', h => binds_out ts xs env env' h
  | .many _, .non, _, _, h => by cases h
  | .many _, .bl _, _, _, h => by cases h
  | .many _, .int _, _, _, h => by cases h
  | .many _, .str _, _, _, h => by cases h
  | .many _, .lst _, _, _, h => by cases h
  | .many _, .dic _ _, _, _, h => by cases h
  | .many _, .scr _, _, _, h => by cases h
  | .many _, .gdc _ _, _, _, h => by cases h
  | .many _, .adr _, _, _, h => by cases h
theorem binds_out : ∀ (ts : List T) (xs : List D) (env env' : Env), binds ts xs env = .ok env' → env'.length = env.length ∧ (∀ i, i ∉ tslots.tsl ts → env'[i]? = env[i]?) ∧ ∀ i ∈ tslots.tsl ts, ∃ x, env'[i]? = some (.sh x)
  | [], [], env, env', h => by cases h; exact ⟨rfl, fun _ _ => rfl, fun _ hi => nomatch hi⟩
  | [], _ :: _, _, _, h => by cases h
  | _ :: _, [], _, _, h => by cases h
  | t :: ts, x :: xs, env, env', h => by
    obtain ⟨e1, h1, h2⟩ := R.bind_eq_ok (show R.bind (bind t x env) _ = .ok env' from h)
    obtain ⟨a1, a2, a3⟩ := bind_out t x env e1 h1
    obtain ⟨b1, b2, b3⟩ := binds_out ts xs e1 env' h2
    refine ⟨b1.trans a1, fun i hi => ?_, fun i hi => ?_⟩
    · have hi' : i ∉ tslots t ∧ i ∉ tslots.tsl ts := by
        rw [show tslots.tsl (t :: ts) = tslots t ++ tslots.tsl ts from rfl, List.mem_append, not_or] at hi
        exact hi
      rw [b2 i hi'.2, a2 i hi'.1]
    · rw [show tslots.tsl (t :: ts) = tslots t ++ tslots.tsl ts from rfl, List.mem_append] at hi
      by_cases hr : i ∈ tslots.tsl ts
      · exact b3 i hr
      · obtain ⟨z, hz⟩ := a3 i (hi.resolve_right hr)
        exact ⟨z, by rw [b2 i hr]; exact hz⟩
end
/-- what the slots hold behind a target -/
def Wrote (K : PySem.W.Frag) (w : World) (F : Hp) (sl : List Nat) (env' : Env) (σ σ' : L2.St) : Prop :=
  σ'.length = σ.length ∧ (∀ i, i ∉ sl → σ'[i]? = σ[i]?) ∧ ∀ i ∈ sl, ∀ x, env'[i]? = some (.sh x) → ∃ v, σ'[i]? = some (some v) ∧ Rep K w F x v
def Ct.gt (C : Ct) (t : T) : TG := fun v σ H Q => ∃ F d env env', Same F H ∧ Rep C.K C.w F d v ∧ σ.length = env.length ∧ bind t d env = .ok env' ∧ ∀ σ', Wrote C.K C.w F (tslots t) env' σ σ' → Q σ' H
def Ct.gts (C : Ct) (ts : List T) : TGs := fun vs σ H Q => ∃ F ds env env', Same F H ∧ Reps C.K C.w F ds vs ∧ σ.length = env.length ∧ binds ts ds env = .ok env' ∧ ∀ σ', Wrote C.K C.w F (tslots.tsl ts) env' σ σ' → Q σ' H
theorem PG.weak {X : Cx} {e : Expr} {t t' : TG} (h : PG X e t) (k : ∀ v σ H Q, t' v σ H Q → t v σ H Q) : PG X e t' := ⟨fun pins s σ H v u Q I r q => h.run pins s σ H v u Q I r (k v σ H Q q)⟩
theorem PGs.weak {X : Cx} {e : List Expr} {t t' : TGs} (h : PGs X e t) (k : ∀ v σ H Q, t' v σ H Q → t v σ H Q) : PGs X e t' := ⟨fun pins s σ H v u Q I r q => h.run pins s σ H v u Q I r (k v σ H Q q)⟩
def tgStar : Expr → Bool
  | .Starred _ _ => false
  | _ => true
mutual
/-- ok: which names may be stored to -/
def chkT (N : List Str) (ok : Str → Bool) : T → Expr → Bool
  | .one i, .Name x _ => decide (N[i]? = some x) && ok x
  | .many ts, .Tuple es _ _ => chkTs N ok ts es
  | _, _ => false
def chkTs (N : List Str) (ok : Str → Bool) : List T → List Expr → Bool
  | [], [] => true
  | t :: ts, e :: es => chkT N ok t e && chkTs N ok ts es
  | _, _ => false
end
theorem lenB : ∀ (ts : List T) (xs : List D) (env env' : Env), binds ts xs env = .ok env' → ts.length = xs.length
  | [], [], _, _, _ => rfl
  | [], _ :: _, _, _, h => by cases h
  | _ :: _, [], _, _, h => by cases h
  | t :: ts, x :: xs, env, env', h => by
    obtain ⟨e1, h1, h2⟩ := R.bind_eq_ok (show R.bind (bind t x env) _ = .ok env' from h)
    rw [List.length_cons, List.length_cons, lenB ts xs e1 env' h2]
section
variable {X : Cx} {C : Ct}
mutual
theorem s_tgt (hK : X.K = C.K) (hN : X.N.Nodup) (hc : X.calm = true) {ok : Str → Bool} (hok : ∀ x, ok x = true → Loc X.env.scope x ∧ (X.fn x = true ∨ X.env.scope.names.lookup x = some .local)) :
    ∀ (t : T) (e : Expr), chkT X.N ok t e = true → PG X e (C.gt t)
  | .one i, .Name x pos, h => by
    have h' : decide (X.N[i]? = some x) = true ∧ ok x = true := Bool.and_eq_true_iff.mp h
    refine PG.weak (pg_name hN (of_decide_eq_true h'.1) (hok x h'.2).1 (hok x h'.2).2) fun v σ H Q ⟨F, d, env, env', hs, hr, hl, hb, q⟩ => ?_
    have hb' : (if i < env.length then R.ok (env.set i (.sh d)) else .no) = .ok env' := hb
    split at hb'
    · rename_i hi
      cases hb'
      refine q (σ.set i (some v)) ⟨List.length_set, fun j hj => List.getElem?_set_ne (fun e => hj (by rw [e]; exact List.mem_singleton.mpr rfl)), fun j hj x hx => ?_⟩
      obtain rfl : j = i := List.mem_singleton.mp hj
      rw [List.getElem?_set_self hi] at hx
      cases hx
      exact ⟨v, List.getElem?_set_self (by omega), hr⟩
    · cases hb'
  | .many ts, .Tuple es k pos, h => by
    obtain ⟨hg, hn, hst⟩ := s_tgts hK hN hc hok ts es h
    refine PG.weak (pg_tup hc hg (n := ts.length) (hn X.env) (hst X.env)) fun v σ H Q ⟨F, d, env, env', hs, hr, hl, hb, q⟩ => ?_
    cases d with
    | tup xs =>
      obtain ⟨a, vs, rfl, h1, h2⟩ := hr
      refine ⟨a, vs, rfl, by rw [hK]; exact Same.tup hs h1, ?_, F, xs, env, env', hs, h2, hl, hb, q⟩
      rw [← h2.length]
      exact (lenB ts xs env env' hb).symm
    | _ => cases hb
  | .one _, .BoolOp .., h => by cases h
  | .one _, .NamedExpr .., h => by cases h
  | .one _, .BinOp .., h => by cases h
  | .one _, .UnaryOp .., h => by cases h
  | .one _, .Lambda .., h => by cases h
  | .one _, .IfExp .., h => by cases h
  | .one _, .Dict .., h => by cases h
  | .one _, .Set .., h => by cases h
  | .one _, .ListComp .., h => by cases h
  | .one _, .SetComp .., h => by cases h
  | .one _, .DictComp .., h => by cases h
  | .one _, .GeneratorExp .., h => by cases h
  | .one _, .Await .., h => by cases h
  | .one _, .Yield .., h => by cases h
  | .one _, .YieldFrom .., h => by cases h
  | .one _, .Compare .., h => by cases h
  | .one _, .Call .., h => by cases h
  | .one _, .FormattedValue .., h => by cases h
  | .one _, .JoinedStr .., h => by cases h
  | .one _, .Constant .., h => by cases h
  | .one _, .Attribute .., h => by cases h
  | .one _, .Subscript .., h => by cases h
  | .one _, .Starred .., h => by cases h
  | .one _, .List .., h => by cases h
  | .one _, .Tuple .., h => by cases h
  | .one _, .Slice .., h => by cases h
  | .many _, .Name .., h => by cases h
  | .many _, .BoolOp .., h => by cases h
  | .many _, .NamedExpr .., h => by cases h
  | .many _, .BinOp .., h => by cases h
  | .many _, .UnaryOp .., h => by cases h
  | .many _, .Lambda .., h => by cases h
  | .many _, .IfExp .., h => by cases h
  | .many _, .Dict .., h => by cases h
  | .many _, .Set .., h => by cases h
  | .many _, .ListComp .., h => by cases h
  | .many _, .SetComp .., h => by cases h
  | .many _, .DictComp .., h => by cases h
  | .many _, .GeneratorExp .., h => by cases h
  | .many _, .Await .., h => by cases h
  | .many _, .Yield .., h => by cases h
  | .many _, .YieldFrom .., h => by cases h
  | .many _, .Compare .., h => by cases h
  | .many _, .Call .., h => by cases h
  | .many _, .FormattedValue .., h => by cases h
  | .many _, .JoinedStr .., h => by cases h
  | .many _, .Constant .., h => by cases h
  | .many _, .Attribute .., h => by cases h
  | .many _, .Subscript .., h => by cases h
  | .many _, .Starred .., h => by cases h
  | .many _, .List .., h => by cases h
  | .many _, .Slice .., h => by cases h
theorem s_tgts (hK : X.K = C.K) (hN : X.N.Nodup) (hc : X.calm = true) {ok : Str → Bool} (hok : ∀ x, ok x = true → Loc X.env.scope x ∧ (X.fn x = true ∨ X.env.scope.names.lookup x = some .local)) :
    ∀ (ts : List T) (es : List Expr), chkTs X.N ok ts es = true → PGs X es (C.gts ts) ∧ (∀ env, (assignEach es env).length = ts.length) ∧ ∀ env, (assignEach es env).findIdx? (·.1) = none
  | [], [], _ => by
    refine ⟨PGs.weak pgs_nil fun vs σ H Q ⟨F, ds, env, env', hs, hr, hl, hb, q⟩ => ?_, fun _ => rfl, fun _ => rfl⟩
    cases ds with
    | nil =>
      obtain rfl : vs = [] := hr
      cases hb
      exact ⟨rfl, q σ ⟨rfl, fun _ _ => rfl, fun _ hi => nomatch hi⟩⟩
    | cons _ _ => cases hb
  | [], _ :: _, h => by cases h
  | _ :: _, [], h => by cases h
  | t :: ts, e :: es, h => by
    have h' : chkT X.N ok t e = true ∧ chkTs X.N ok ts es = true := Bool.and_eq_true_iff.mp h
    have h1 := s_tgt hK hN hc hok t e h'.1
    obtain ⟨h2, h3, h4⟩ := s_tgts hK hN hc hok ts es h'.2
    have ns : ∀ env, assignEach (e :: es) env = (false, assign e env) :: assignEach es env := fun env => by
      cases e <;> first | rfl | (cases t <;> cases h'.1)
    refine ⟨PGs.weak (pgs_cons h1 h2 (by rw [ns X.env]; rfl)) fun vs σ H Q ⟨F, ds, env, env', hs, hr, hl, hb, q⟩ => ?_, fun env => by rw [ns env, List.length_cons, h3 env]; rfl, fun env => by rw [ns env, List.findIdx?_cons, h4 env]; rfl⟩
    cases ds with
    | nil => cases hb
    | cons d ds =>
      obtain ⟨v, r, rfl, r1, r2⟩ := hr
      obtain ⟨e1, b1, b2⟩ := R.bind_eq_ok (show R.bind (bind t d env) _ = .ok env' from hb)
      refine ⟨v, r, rfl, F, d, env, e1, hs, r1, hl, b1, fun σ1 w1 => ⟨F, ds, e1, env', hs, r2, ?_, b2, fun σ2 w2 => q σ2 ?_⟩⟩
      · rw [w1.1, (bind_out t d env e1 b1).1]; exact hl
      · refine ⟨w2.1.trans w1.1, fun i hi => ?_, fun i hi x hx => ?_⟩
        · rw [show tslots.tsl (t :: ts) = tslots t ++ tslots.tsl ts from rfl, List.mem_append, not_or] at hi
          rw [w2.2.1 i hi.2, w1.2.1 i hi.1]
        · rw [show tslots.tsl (t :: ts) = tslots t ++ tslots.tsl ts from rfl, List.mem_append] at hi
          by_cases hr : i ∈ tslots.tsl ts
          · exact w2.2.2 i hr x hx
          · rw [w2.2.1 i hr]
            exact w1.2.2 i (hi.resolve_right hr) x (by rw [← (binds_out ts ds e1 env' b2).2.1 i hr]; exact hx)
end
end
end Ev

/-! What is walked. -/
namespace Ev
open PySem L2 PyProof.Rows RZ

/-- J walks the items xs, which stand in F -/
def WalkD (K : PySem.W.Frag) (w : World) (J : It) (F : Hp) (xs : List D) : Prop :=
  Walk J xs.length (fun H => Same F H) fun i H x H' => ∀ F1, Same F F1 → Same F1 H → ∃ F2 d, Ext F1 H F2 H' ∧ xs[i]? = some d ∧ Rep K w F2 d x
def Ct.ri (C : Ct) (k : Ik) (ts : List E) : TI := fun σ H R => ∃ env F, EnvR C.K C.w F σ env ∧ Same F H ∧ (match (evs C.glob C.fn ts env).bind (walk k) with
  | .ok xs => ∀ J F' H', Ext F H F' H' → WalkD C.K C.w J F' xs → R J H'
  | .ex c => ∀ H', Same H H' → C.W (.ref (C.ca c)) none σ H'
  | .no => False)
section
variable {K : PySem.W.Frag} {w : World} {F : Hp}
theorem wd_at {J : It} {vs : List V} {ds : List D} (hr : Reps K w F ds vs) {G : Hp → Prop} (h : Walk J vs.length G (YAt vs)) (hg : ∀ H, Same F H → G H) : WalkD K w J F ds := by
  unfold WalkD
  rw [hr.length]
  refine h.mono hg fun i H x H' hi hG ⟨e, hx⟩ F1 s1 s2 => ?_
  subst e
  obtain ⟨d, hd, rd⟩ := hr.get' hx
  exact ⟨F1, d, Ext.refl s2, hd, Rep.mono s1 d x rd⟩
theorem wd_str {l : List Nat} (ho : okc l = true) : WalkD K w (Its (tx l)) F (l.map fun c => .str [c]) := by
  unfold WalkD
  have hl : (l.map fun c => D.str [c]).length = (tx l).cps.size := by simp [tx]
  rw [hl]
  refine walk_str.mono (fun _ _ => trivial) fun i H x H' hi hG ⟨e, c, hc, hx⟩ F1 s1 s2 => ?_
  subst e hx
  have hc' : l[i]? = some c := by simpa [tx] using hc
  exact ⟨F1, .str [c], Ext.refl s2, by rw [List.getElem?_map, hc']; rfl, rfl, okc_one ho hc'⟩
theorem wd_range {n : Nat} {lo : Int} : WalkD K w (Itr lo n) F ((List.range n).map fun (k : Nat) => D.int (lo + k)) := by
  unfold WalkD
  rw [List.length_map, List.length_range]
  refine walk_range.mono (fun _ _ => trivial) fun i H x H' hi hG ⟨e, hx⟩ F1 s1 s2 => ?_
  subst e hx
  exact ⟨F1, .int (lo + i), Ext.refl s2, by rw [List.getElem?_map, List.getElem?_range hi]; rfl, rfl⟩
theorem numbered_len : ∀ (n : Nat) (xs : List D), (numbered n xs).length = xs.length
  | _, [] => rfl
  | n, x :: xs => by rw [numbered, List.length_cons, List.length_cons, numbered_len]
theorem numbered_at : ∀ (n : Nat) (xs : List D) (i : Nat) (d : D), xs[i]? = some d → (numbered n xs)[i]? = some (.tup [.int ((n + i : Nat) : Int), d])
  | _, [], i, d, h => by simp at h
  | n, x :: xs, 0, d, h => by
    simp only [List.getElem?_cons_zero, Option.some.injEq] at h
    rw [h]; rfl
  | n, x :: xs, i + 1, d, h => by
    rw [List.getElem?_cons_succ] at h
    rw [numbered, List.getElem?_cons_succ, numbered_at (n + 1) xs i d h, show n + 1 + i = n + (i + 1) by omega]
theorem paired_len : ∀ (xs ys : List D), (paired xs ys).length = min xs.length ys.length
  | [], ys => by simp [paired]
  | _ :: _, [] => by simp [paired]
  | x :: xs, y :: ys => by rw [paired, List.length_cons, paired_len]; simp only [List.length_cons]; omega
theorem paired_at : ∀ (xs ys : List D) (i : Nat) (d e : D), xs[i]? = some d → ys[i]? = some e → (paired xs ys)[i]? = some (.tup [d, e])
  | [], _, i, d, e, h, _ => by simp at h
  | _ :: _, [], i, d, e, _, h => by simp at h
  | x :: xs, y :: ys, 0, d, e, h, g => by
    simp only [List.getElem?_cons_zero, Option.some.injEq] at h g
    rw [h, g]; rfl
  | x :: xs, y :: ys, i + 1, d, e, h, g => by
    rw [List.getElem?_cons_succ] at h g
    rw [paired, List.getElem?_cons_succ, paired_at xs ys i d e h g]
/-- new pairs -/
theorem wd_pair {J : It} {n : Nat} {xs ys : Nat → Option V} {ds : List D} {G : Hp → Prop} (h : Walk J n G (YPair xs ys)) (hg : ∀ H, Same F H → G H) (hn : ds.length = n)
    (hp : ∀ i x y, i < n → xs i = some x → ys i = some y → ∃ d e, ds[i]? = some (.tup [d, e]) ∧ Rep K w F d x ∧ Rep K w F e y) : WalkD K w J F ds := by
  unfold WalkD
  rw [hn]
  refine h.mono hg fun i H v H' hi hG ⟨t, x, y, e1, e2, e3, e4, e5⟩ F1 s1 s2 => ?_
  subst e1 e3
  obtain ⟨d, e, h1, h2, h3⟩ := hp i x y hi e4 e5
  have sm := same_upd (o := .tup [x, y]) (s2.free e2)
  exact ⟨_, .tup [d, e], Ext.new1 (.tup [x, y]) s2 e2, h1, t, [x, y], rfl, SqT.of upd_same, x, [y], rfl, Rep.mono (s1.trans sm) d x h2, y, [], rfl, Rep.mono (s1.trans sm) e y h3, rfl⟩
end
section
variable {nm : Nm} {X : Cx} {C : Ct} {tg a b : Expr} {ta tb : E} {pos p : Pos}
theorem PI.weak {tg e : Expr} {t t' : TI} (h : PI X tg e t) (k : ∀ σ H Q, t' σ H Q → t σ H Q) : PI X tg e t' := ⟨fun pins s σ H R I q => h.run pins s σ H R I (k σ H R q)⟩
theorem walk_ne (k : Ik) (ds : List D) (c : Nat) : walk k ds ≠ .ex c := by
  unfold walk
  split <;> first | (intro h; cases h; done) | (split <;> (intro h; cases h))
theorem s_val (G : Gd nm X C) (ha : PE X a (C.rd ta)) : PI X tg a (C.ri .val [ta]) := by
  refine ⟨fun pins s σ H R I ⟨env, F, he, hs, q⟩ => ?_⟩
  have ee : evs C.glob C.fn [ta] env = (ev C.glob C.fn ta env).bind fun d => .ok [d] := rfl
  rw [ee] at q
  refine thn (ha.run pins s σ H (fun x H1 => ∃ F1 d xs, Ext F H F1 H1 ∧ Rep C.K C.w F1 d x ∧ walk .val [d] = .ok xs ∧ ∀ J F' H', Ext F H F' H' → WalkD C.K C.w J F' xs → R J H') I ⟨env, F, he, hs, ?_⟩) fun v s1 ⟨x, H1, I1, r1, F1, d, xs, x1, hd, hw, q1⟩ => ?_
  · cases e1 : ev C.glob C.fn ta env with
    | no => rw [e1] at q; exact q
    | ex k => rw [e1] at q; exact q
    | ok d =>
      rw [e1] at q
      have eb : Ev.R.bind (Ev.R.bind (.ok d) fun d => Ev.R.ok [d]) (walk .val) = walk .val [d] := rfl
      rw [eb] at q
      cases e2 : walk .val [d] with
      | no => rw [e2] at q; exact False.elim q
      | ex c => exact absurd e2 (walk_ne _ _ _)
      | ok xs =>
        rw [e2] at q
        exact fun v F1 H1 x1 r1 => ⟨F1, d, xs, x1, r1, e2, q⟩
  · have hK := G.hK
    cases d with
    | lst ds =>
      cases hw
      obtain ⟨b, vs, rfl, h1, h2⟩ := hd
      cases r1
      have sq : SqL X.K H1 b vs := SqL.of (x1.inH _ _ h1)
      obtain ⟨its, rv, p', hz⟩ := I1.list sq
      exact wpAny_pyIter_list p'.isList (pi_one (tk := s1.toks) I1 _ (turn_list b _) ⟨_, Heap.get?_push_size _ rfl, rfl, rfl⟩ (q1 _ F1 H1 x1 (wd_at h2 walk_list fun H' sH => SqL.of (sH _ _ h1))))
    | tup ds =>
      cases hw
      obtain ⟨b, vs, rfl, h1, h2⟩ := hd
      cases r1
      have sq : SqT X.K H1 b vs := by rw [hK]; exact Same.tup x1.inH h1
      obtain ⟨its, rv, p', hz⟩ := I1.tuple sq
      exact wpAny_pyIter_tuple p' (pi_one (tk := s1.toks) I1 _ (turn_tuple b _) ⟨_, Heap.get?_push_size _ rfl, rfl, rfl⟩ (q1 _ F1 H1 x1 (wd_at h2 walk_tup fun H' sH => by rw [hK]; exact Same.tup sH h1)))
    | str l =>
      obtain ⟨rfl, ho⟩ := hd
      obtain ⟨t, rfl⟩ := r1
      have hw' : (if l.length ≤ lim then Ev.R.ok (l.map fun c => D.str [c]) else Ev.R.no) = Ev.R.ok xs := hw
      split at hw'
      · cases hw'
        cases hasc : (tx l).cps.all (· < 128)
        · exact wpAny_pyIter_wide hasc (pi_one (tk := s1.toks) I1 _ (turn_str _ (tx l) t "str_iterator" (.inr rfl)) ⟨_, Heap.get?_push_size _ rfl, rfl, rfl⟩ (q1 _ F1 H1 x1 (wd_str ho)))
        · exact wpAny_pyIter_ascii hasc (pi_one (tk := s1.toks) I1 _ (turn_str _ (tx l) t "str_ascii_iterator" (.inl rfl)) ⟨_, Heap.get?_push_size _ rfl, rfl, rfl⟩ (q1 _ F1 H1 x1 (wd_str ho)))
      · cases hw'
    | _ => cases hw
/-- a row of arguments, walked -/
theorem ri_args {k : Ik} {ts : List E} {σ : L2.St} {H : Hp} {R : It → Hp → Prop} {P : List V → Hp → Prop} (h : C.ri k ts σ H R) (f : ∀ ds xs vs F1 H1, walk k ds = .ok xs → Reps C.K C.w F1 ds vs → Same F1 H1 → (∀ J, WalkD C.K C.w J F1 xs → R J H1) → P vs H1) : C.rds ts σ H P := by
  obtain ⟨env, F, he, hs, q⟩ := h
  refine ⟨env, F, he, hs, ?_⟩
  cases e1 : evs C.glob C.fn ts env with
  | no => rw [e1] at q; exact q
  | ex c => rw [e1] at q; exact q
  | ok ds =>
    rw [e1] at q
    intro vs F1 H1 x1 r1
    have eb : Ev.R.bind (.ok ds) (walk k) = walk k ds := rfl
    rw [eb] at q
    cases e2 : walk k ds with
    | no => rw [e2] at q; exact False.elim q
    | ex c => exact absurd e2 (walk_ne _ _ _)
    | ok xs =>
      rw [e2] at q
      exact f ds xs vs F1 H1 e2 r1 x1.inH fun J hJ => q J F1 H1 x1 hJ
theorem s_range (G : Gd nm X C) (hg : Gl X "range") (ha : PA X [a] (C.rds [ta])) (ns : NoStar a) : PI X tg (.Call (.Name "range" p) [a] [] pos) (C.ri .range [ta]) :=
  PI.weak (pi_range1 hg (G.blt _ (by decide +kernel)) ha (ns [] X.env)) fun σ H R h => ri_args h fun ds xs vs F1 H1 hw hr hs q => by
    cases ds with
    | nil => cases hw
    | cons d ds =>
      cases ds with
      | cons _ _ => cases d <;> cases hw
      | nil =>
        cases d with
        | int n =>
          have hw' : (if -1000000 ≤ n && n ≤ 1000000 then Ev.R.ok ((List.range n.toNat).map fun (k : Nat) => D.int k) else Ev.R.no) = Ev.R.ok xs := hw
          split at hw'
          · rename_i hn
            cases hw'
            rw [Bool.and_eq_true, decide_eq_true_eq, decide_eq_true_eq] at hn
            obtain ⟨v, r, rfl, h1, h2⟩ := hr
            obtain rfl : v = .int n := h1
            obtain rfl : r = [] := h2
            refine ⟨n, rfl, by omega, by omega, q _ ?_⟩
            have := wd_range (K := C.K) (w := C.w) (F := F1) (n := n.toNat) (lo := 0)
            simpa using this
          · cases hw'
        | _ => cases hw
theorem s_range2 (G : Gd nm X C) (hg : Gl X "range") (ha : PA X [a, b] (C.rds [ta, tb])) (ns : NoStar a) (ns2 : NoStar b) : PI X tg (.Call (.Name "range" p) [a, b] [] pos) (C.ri .range2 [ta, tb]) :=
  PI.weak (pi_range2 hg (G.blt _ (by decide +kernel)) ha (by rw [ns [b] X.env, ns2 [] X.env]; rfl) (ns2 [] X.env)) fun σ H R h => ri_args h fun ds xs vs F1 H1 hw hr hs q => by
    match ds, hw, hr with
    | [.int n, .int m], hw, hr =>
      have hw' : (if -1000000 ≤ n && n ≤ 1000000 && -1000000 ≤ m && m ≤ 1000000 then Ev.R.ok ((List.range (m - n).toNat).map fun (k : Nat) => D.int (n + k)) else Ev.R.no) = Ev.R.ok xs := hw
      split at hw'
      · rename_i hn
        cases hw'
        simp only [Bool.and_eq_true, decide_eq_true_eq] at hn
        obtain ⟨v, r, rfl, h1, u, r', rfl, h2, h3⟩ := hr
        obtain rfl : v = .int n := h1
        obtain rfl : u = .int m := h2
        obtain rfl : r' = [] := h3
        exact ⟨n, m, rfl, ⟨by omega, by omega, by omega, by omega⟩, q _ wd_range⟩
      · cases hw'
theorem s_enum (G : Gd nm X C) {elts : List Expr} {kk : Nat} {tpos : Pos} (hg : Gl X "enumerate") (ha : PA X [a] (C.rds [ta])) (ns : NoStar a) : PI X (.Tuple elts kk tpos) (.Call (.Name "enumerate" p) [a] [] pos) (C.ri .enum [ta]) :=
  PI.weak (pi_enum hg (G.blt _ (by decide +kernel)) ha (ns [] X.env)) fun σ H R h => ri_args h fun ds xs vs F1 H1 hw hr hs q => by
    match ds, hw, hr with
    | [.lst ys], hw, hr =>
      cases hw
      obtain ⟨v, r, rfl, ⟨c, us, rfl, h1, h2⟩, h3⟩ := hr
      obtain rfl : r = [] := h3
      refine ⟨c, us, rfl, SqL.of (hs _ _ h1), q _ (wd_pair walk_enum (fun H' sH => SqL.of (sH _ _ h1)) (by rw [numbered_len, h2.length]) fun i x y hi e4 e5 => ?_)⟩
      cases e4
      obtain ⟨d, hd, rd⟩ := h2.get' e5
      exact ⟨.int i, d, by rw [numbered_at 0 ys i d hd, Nat.zero_add], rfl, rd⟩
theorem s_zip2 (G : Gd nm X C) {elts : List Expr} {kk : Nat} {tpos : Pos} (hg : Gl X "zip") (ha : PA X [a, b] (C.rds [ta, tb])) (ns : NoStar a) (ns2 : NoStar b) : PI X (.Tuple elts kk tpos) (.Call (.Name "zip" p) [a, b] [] pos) (C.ri .zip2 [ta, tb]) :=
  PI.weak (pi_zipA hg (G.blt _ (by decide +kernel)) ha (ns [b] X.env) (noStars_any (es := [b]) ⟨ns2, trivial⟩)) fun σ H R h => ri_args h fun ds xs vs F1 H1 hw hr hs q => by
    match ds, hw, hr with
    | [.lst xs1, .lst ys1], hw, hr =>
      cases hw
      obtain ⟨v, r, rfl, ⟨c, us, rfl, h1, h2⟩, u, r', rfl, ⟨c', us', rfl, h3, h4⟩, h5⟩ := hr
      obtain rfl : r' = [] := h5
      refine ⟨c, c', us, us', rfl, .inl ⟨SqL.of (hs _ _ h1), SqL.of (hs _ _ h3), q _ (wd_pair (walk_zip rfl) (fun H' sH => ⟨SqL.of (sH _ _ h1), SqL.of (sH _ _ h3)⟩) (by rw [paired_len, h2.length, h4.length]) fun i x y hi e4 e5 => ?_)⟩⟩
      obtain ⟨d, hd, rd⟩ := h2.get' e4
      obtain ⟨e, he, re⟩ := h4.get' e5
      exact ⟨d, e, paired_at xs1 ys1 i d e hd he, rd, re⟩
    | [.tup xs1, .tup ys1], hw, hr =>
      cases hw
      obtain ⟨v, r, rfl, ⟨c, us, rfl, h1, h2⟩, u, r', rfl, ⟨c', us', rfl, h3, h4⟩, h5⟩ := hr
      obtain rfl : r' = [] := h5
      refine ⟨c, c', us, us', rfl, .inr ⟨by rw [G.hK]; exact Same.tup hs h1, by rw [G.hK]; exact Same.tup hs h3, q _ (wd_pair (n := min us.length us'.length) (xs := fun i => us[i]?) (ys := fun i => us'[i]?) (G := fun H => SqT X.K H c us ∧ SqT X.K H c' us') ?_ (fun H' sH => by rw [G.hK]; exact ⟨Same.tup sH h1, Same.tup sH h3⟩) (by rw [paired_len, h2.length, h4.length]) fun i x y hi e4 e5 => ?_)⟩⟩
      · refine ⟨fun i H hi hq => ?_, fun H hq => ⟨us, us', hq.1, hq.2, by omega⟩, fun i H v H' hi hq y => ?_⟩
        · have z1 : i < us.length := by omega
          have z2 : i < us'.length := by omega
          exact ⟨us, us', us[i], us'[i], hq.1, hq.2, List.getElem?_eq_getElem z1, List.getElem?_eq_getElem z2⟩
        · obtain ⟨t, x, y, q1, q2, q3, q4, q5⟩ := y
          exact ⟨t, x, y, q1, q2, q3, q4 us hq.1, q5 us' hq.2⟩
      · obtain ⟨d, hd, rd⟩ := h2.get' e4
        obtain ⟨e, he, re⟩ := h4.get' e5
        exact ⟨d, e, paired_at xs1 ys1 i d e hd he, rd, re⟩
end
end Ev

/-! Comprehensions. -/
namespace Ev
open PySem L2 PyProof.Rows RZ

/-- nothing flies out of a block -/
abbrev Ct.calm (C : Ct) : Ct := { C with W := fun _ _ _ _ => False }
theorem gd_blk {nm : Nm} {X : Cx} {C : Ct} (G : Gd nm X C) (s : Shared) (H : Hp) (scope : Scope) (cenv : PySem.Env) (fp : List Addr) : Gd nm (X.blk s H scope cenv fp) C.calm where
  hK := G.hK
  hw := G.hw
  nd := G.nd
  calm := G.calm
  hu := G.hu
  takes := fun _ _ x => by
    obtain ⟨_, _, _, _, _, _, _, _, _, _, _, _, _, _, _, _, z⟩ := x
    exact z.elim
  blt := G.blt
  glo := G.glo
  gno := G.gno
  fns := G.fns

def Ct.rtc (C : Ct) (c : List E) : TT := fun σ H Q => ∃ env F, EnvR C.K C.w F σ env ∧ Same F H ∧ (match evc C.glob C.fn c env with
  | .ok b => ∀ F' H', Ext F H F' H' → Q b H'
  | .ex k => ∀ H', Same H H' → C.W (.ref (C.ca k)) none σ H'
  | .no => False)
theorem PTs.weak {X : Cx} {es : List Expr} {t t' : TT} (h : PTs X es t) (k : ∀ σ H Q, t' σ H Q → t σ H Q) : PTs X es t' := ⟨fun pins s σ H Q I q => h.run pins s σ H Q I (k σ H Q q)⟩
theorem s_if0 {X : Cx} {C : Ct} : PTs X [] (C.rtc []) := PTs.weak pts_nil fun σ H Q ⟨env, F, he, hs, q⟩ => (show ∀ F' H', Ext F H F' H' → Q true H' from q) F H (Ext.refl hs)
theorem s_if1 {X : Cx} {C : Ct} {a : Expr} {ta : E} (ha : PT X a (tB (C.rd ta))) : PTs X [a] (C.rtc [ta]) := PTs.weak (pts_one ha) fun σ H Q ⟨env, F, he, hs, q⟩ => by
  have ee : evc C.glob C.fn [ta] env = (ev C.glob C.fn ta env).bind fun x => asBool x := rfl
  rw [ee] at q
  refine ⟨env, F, he, hs, ?_⟩
  cases e1 : ev C.glob C.fn ta env with
  | no => rw [e1] at q; exact q
  | ex k => rw [e1] at q; exact q
  | ok d =>
    rw [e1] at q
    intro v F1 H1 x1 r1
    cases d with
    | bl b =>
      obtain rfl : v = .bl b := r1
      exact ⟨b, rfl, (show ∀ F' H', Ext F H F' H' → Q b H' from q) F1 H1 x1⟩
    | _ => exact False.elim q

theorem ext_hide {F1 H2 F3 H' : Hp} {D : Addr} {o : HO} (hD : H2 D = none) (hs : Same F1 H2) (x : Ext F1 (upd H2 D o) F3 H') : ∃ H3, H' = upd H3 D o ∧ H3 D = none ∧ Ext F1 H2 F3 H3 := by
  have h1 : H' D = some o := x.same D o upd_same
  have hf : F3 D = none := x.new D (by rw [upd_same]; simp) (hs.free hD)
  have hne : ∀ a o', H2 a = some o' → a ≠ D := fun a o' q e => by rw [e, hD] at q; cases q
  refine ⟨fun a => if a = D then none else H' a, ?_, if_pos rfl, ⟨x.sub, fun a o' q => ?_, fun a o' q => ?_, fun a ha hfa => x.new a (fun e => ?_) hfa⟩⟩
  · funext a
    unfold upd
    by_cases e : a = D
    · subst e; rw [if_pos rfl]; exact h1
    · rw [if_neg e]
      show H' a = if a = D then none else H' a
      rw [if_neg e]
  · have : a ≠ D := fun e => by rw [e, hf] at q; cases q
    show (if a = D then none else H' a) = _
    rw [if_neg this]; exact x.inH a o' q
  · show (if a = D then none else H' a) = _
    rw [if_neg (hne a o' q)]
    exact x.same a o' (by rw [upd_ne (hne a o' q)]; exact q)
  · by_cases ea : a = D
    · subst ea; exact ha hD
    · rw [upd_ne ea] at e; exact ha e

theorem wipe_len (env : Env) : ∀ vs, (wipe env vs).length = env.length
  | [] => rfl
  | v :: vs => by rw [wipe, List.length_set, wipe_len env vs]
theorem wipe_ne {env : Env} {i : Nat} : ∀ {vs : List Nat}, i ∉ vs → (wipe env vs)[i]? = env[i]?
  | [], _ => rfl
  | v :: vs, h => by
    rw [List.mem_cons, not_or] at h
    rw [wipe, List.getElem?_set_ne (fun e => h.1 e.symm), wipe_ne h.2]
theorem wipe_in {env : Env} {i : Nat} : ∀ {vs : List Nat}, i ∈ vs → look (wipe env vs) i = .no
  | v :: vs, h => by
    unfold look
    rw [wipe]
    by_cases e : v = i
    · subst e
      by_cases hv : v < (wipe env vs).length
      · rw [List.getElem?_set_self hv]; rfl
      · rw [List.getElem?_eq_none (by rw [List.length_set]; omega)]
    · rw [List.getElem?_set_ne e]
      exact wipe_in (List.mem_of_ne_of_mem (fun z => e z.symm) h)
theorem lwipe_ne {σ : L2.St} {i : Nat} : ∀ {vs : List Nat}, i ∉ vs → (L2.wipe σ vs)[i]? = σ[i]?
  | [], _ => rfl
  | v :: vs, h => by
    rw [List.mem_cons, not_or] at h
    rw [L2.wipe, List.getElem?_set_ne (fun e => h.1 e.symm), lwipe_ne h.2]
theorem lwipe_in {σ : L2.St} {i : Nat} : ∀ {vs : List Nat}, i ∈ vs → (L2.wipe σ vs)[i]? = if i < σ.length then some none else none
  | v :: vs, h => by
    rw [L2.wipe]
    by_cases e : v = i
    · subst e
      by_cases hv : v < σ.length
      · rw [List.getElem?_set_self (by rw [L2.wipe_length]; exact hv), if_pos hv]
      · rw [List.getElem?_eq_none (by rw [List.length_set, L2.wipe_length]; omega), if_neg hv]
    · rw [List.getElem?_set_ne e]
      exact lwipe_in (List.mem_of_ne_of_mem (fun z => e z.symm) h)
/-- behind a block's target -/
theorem wrote_wipe {K : PySem.W.Frag} {w : World} {F : Hp} {σ σ2 : L2.St} {sl vs : List Nat} {env' : Env} (h : Wrote K w F sl env' (L2.wipe σ vs) σ2) (hsub : ∀ i ∈ sl, i ∈ vs) : L2.wipe σ2 vs = L2.wipe σ vs := by
  obtain ⟨h1, h2, h3⟩ := h
  rw [L2.wipe_length] at h1
  refine List.ext_getElem? fun i => ?_
  by_cases hi : i ∈ vs
  · rw [lwipe_in hi, lwipe_in hi, h1]
  · rw [lwipe_ne hi, h2 i (fun e => hi (hsub i e))]
theorem wrote_env {K : PySem.W.Frag} {w : World} {F : Hp} {σ σ2 : L2.St} {t : T} {d : D} {vs : List Nat} {env env' : Env} (h : Wrote K w F (tslots t) env' (L2.wipe σ vs) σ2) (he : EnvR K w F σ env) (hb : bind t d (wipe env vs) = .ok env') : EnvR K w F σ2 env' := by
  obtain ⟨b1, b2, b3⟩ := bind_out t d _ _ hb
  refine ⟨by rw [h.1, L2.wipe_length, b1, wipe_len]; exact he.1, fun i x hx => ?_⟩
  by_cases hi : i ∈ tslots t
  · obtain ⟨y, hy⟩ := b3 i hi
    have : y = x := by
      unfold look at hx
      rw [hy] at hx
      cases hx; rfl
    subst this
    exact h.2.2 i hi y hy
  · have hl : look (wipe env vs) i = .ok x := by
      unfold look at hx ⊢
      rw [← b2 i hi]; exact hx
    by_cases hv : i ∈ vs
    · rw [wipe_in hv] at hl; cases hl
    · have hl2 : look env i = .ok x := by
        unfold look at hl ⊢
        rw [← wipe_ne hv]; exact hl
      rw [h.2.1 i hi, lwipe_ne hv]
      exact he.2 i x hl2

theorem same_beside {F H : Hp} {D : Addr} {o : HO} (h : Same F H) (hD : H D = none) : Same F (upd H D o) := fun a o' q => by
  rw [upd_ne (fun e => by rw [e, h.free hD] at q; cases q)]
  exact h a o' q
theorem upd_twice {H : Hp} {D : Addr} {o o' : HO} : upd (upd H D o) D o' = upd H D o' := by
  funext a
  unfold upd
  split <;> rfl

section
variable {nm : Nm} {X : Cx} {C : Ct}
theorem lc_core' {e : E} {t : T} {k : Ik} {args c : List E} {own : List Nat} {vs : List Nat} (hv : vs = own) (hsub : ∀ i ∈ tslots t, i ∈ own) {σ : L2.St} {H : Hp} {Q : VK} (h : C.rn (.lc e t k args c own) σ H Q) :
    tLc (C.ri k args) (C.calm.gt t) (C.calm.rtc c) (C.calm.rd e) vs σ H Q := by
  subst hv
  obtain ⟨env, F, he, hs, q⟩ := h
  have ee : ev C.glob C.fn (.lc e t k args c vs) env = ((evs C.glob C.fn args env).bind fun ds => (walk k ds).bind fun xs =>
      (calmly (lcGo (fun x => bind t x (wipe env vs)) (fun env' => evc C.glob C.fn c env') (fun env' => ev C.glob C.fn e env') xs)).bind fun rs => fit rs.length (.lst rs)) := rfl
  rw [ee] at q
  refine ⟨env, F, he, hs, ?_⟩
  cases e1 : evs C.glob C.fn args env with
  | no => rw [e1] at q; exact q
  | ex c => rw [e1] at q; exact q
  | ok ds =>
    rw [e1] at q
    have eb : Ev.R.bind (.ok ds) (walk k) = walk k ds := rfl
    rw [eb]
    simp only [R.bind_ok] at q
    cases e2 : walk k ds with
    | no => rw [e2] at q; exact False.elim q
    | ex c => exact absurd e2 (walk_ne _ _ _)
    | ok xs =>
      rw [e2] at q
      simp only [R.bind_ok] at q
      cases e3 : lcGo (fun x => bind t x (wipe env vs)) (fun env' => evc C.glob C.fn c env') (fun env' => ev C.glob C.fn e env') xs with
      | no => rw [e3] at q; exact False.elim q
      | ex c => rw [e3] at q; exact False.elim q
      | ok rs =>
        rw [e3] at q
        simp only [calmly, R.bind_ok] at q
        by_cases hl : rs.length ≤ lim
        · have e4 : fit rs.length (.lst rs) = .ok (.lst rs) := by unfold fit; rw [if_pos hl]
          rw [e4] at q
          intro J F0 H0 x0 wd A hA
          refine lc_it wd (fun i Hc => ∃ F2 H2 rs1 us, Hc = upd H2 A (.lst us) ∧ H2 A = none ∧ Ext F0 H0 F2 H2 ∧ Reps C.K C.w F2 rs1 us ∧ ∃ rs2, lcGo (fun x => bind t x (wipe env vs)) (fun env' => evc C.glob C.fn c env') (fun env' => ev C.glob C.fn e env') (xs.drop i) = .ok rs2 ∧ rs1 ++ rs2 = rs)
            ⟨F0, H0, [], [], rfl, hA, Ext.refl x0.inH, rfl, rs, e3, rfl⟩ ?_ ?_ ?_
          · rintro i Hc hi ⟨F2, H2, rs1, us, rfl, hA2, x2, _⟩
            exact fun a o' z => same_beside x2.inH hA2 a o' (x2.sub a o' z)
          · rintro i x Hc Hc' hi ⟨F2, H2, rs1, us, rfl, hA2, x2, hr, rs2, hgo, hrs⟩ hY
            obtain ⟨F3, d, x3, hd, rd⟩ := hY F2 x2.sub (same_beside x2.inH hA2)
            obtain ⟨H3, rfl, hA3, x3'⟩ := ext_hide hA2 x2.inH x3
            have hdrop : xs.drop i = d :: xs.drop (i + 1) := by
              rw [List.drop_eq_getElem_cons hi]
              have : xs[i] = d := by
                rw [List.getElem?_eq_getElem hi] at hd
                exact Option.some.inj hd
              rw [this]
            rw [hdrop] at hgo
            obtain ⟨env', hb, hgo2⟩ := R.bind_eq_ok (show Ev.R.bind (bind t d (wipe env vs)) _ = .ok rs2 from hgo)
            obtain ⟨b, ht, hgo3⟩ := R.bind_eq_ok hgo2
            have he3 : EnvR C.K C.w F3 σ env := he.mono (x0.sub.trans (x2.sub.trans x3'.sub))
            refine ⟨F3, d, wipe env vs, env', same_beside x3'.inH hA3, rd, ?_, hb, fun σ2 w2 => ⟨wrote_wipe w2 hsub, ?_⟩⟩
            · rw [L2.wipe_length, wipe_len]; exact he.1
            have he2 : EnvR C.K C.w F3 σ2 env' := wrote_env w2 he3 hb
            refine ⟨env', F3, he2, same_beside x3'.inH hA3, ?_⟩
            have ht' : evc C.calm.glob C.calm.fn c env' = .ok b := ht
            rw [ht']
            intro F4 H4 x4
            obtain ⟨H4', rfl, hA4, x4'⟩ := ext_hide hA3 x3'.inH x4
            cases b with
            | false =>
              rw [if_neg Bool.false_ne_true]
              exact ⟨F4, H4', rs1, us, rfl, hA4, x2.trans (x3'.trans x4'), Reps.mono (x3'.sub.trans x4'.sub) _ _ hr, rs2, hgo3, hrs⟩
            | true =>
              rw [if_pos rfl]
              rw [if_pos rfl] at hgo3
              obtain ⟨d5, hev, hgo4⟩ := R.bind_eq_ok hgo3
              obtain ⟨rs5, hgo5, hgo6⟩ := R.bind_eq_ok hgo4
              cases hgo6
              refine ⟨env', F4, he2.mono x4.sub, same_beside x4'.inH hA4, ?_⟩
              have hev' : ev C.calm.glob C.calm.fn e env' = .ok d5 := hev
              rw [hev']
              intro v F5 H5 x5 r5
              obtain ⟨H5', rfl, hA5, x5'⟩ := ext_hide hA4 x4'.inH x5
              have hr5 : Reps C.K C.w F5 (rs1 ++ [d5]) (us ++ [v]) := Reps.append (Reps.mono (x3'.sub.trans (x4'.sub.trans x5'.sub)) _ _ hr) (Reps.one r5)
              refine ⟨us, upd_same, ?_, F5, H5', rs1 ++ [d5], us ++ [v], upd_twice, hA5, x2.trans (x3'.trans (x4'.trans x5')), hr5, rs5, hgo5, by rw [List.append_assoc]; exact hrs⟩
              have l1 := hr.length
              rw [← hrs, List.length_append, List.length_cons] at hl
              rw [← l1]
              have := lim_eq
              omega
          · rintro Hc ⟨F2, H2, rs1, us, rfl, hA2, x2, hr, rs2, hgo, hrs⟩
            rw [List.drop_length] at hgo
            cases hgo
            rw [List.append_nil] at hrs
            subst hrs
            exact q A us F2 H2 (x0.trans x2) hA2 hr
        · have e4 : fit rs.length (.lst rs) = .no := by unfold fit; rw [if_neg hl]
          rw [e4] at q
          exact False.elim q
end
end Ev

/-! int, dict displays. -/
namespace Ev
open PySem L2 PyProof.Rows RZ

/-! ### int -/
theorem readN_val : ∀ (l : List Nat) (a n : Nat), readN l a = some n → (∀ c ∈ l, 48 ≤ c ∧ c ≤ 57) ∧ n = l.foldl (fun acc c => acc * 10 + (c - 48)) a
  | [], a, n, h => by cases h; exact ⟨(fun c hc => nomatch hc), rfl⟩
  | c :: r, a, n, h => by
    unfold readN at h
    split at h
    · rename_i hc
      rw [Bool.and_eq_true, decide_eq_true_eq, decide_eq_true_eq] at hc
      obtain ⟨h1, h2⟩ := readN_val r _ n h
      refine ⟨fun d hd => ?_, ?_⟩
      · rcases List.mem_cons.mp hd with rfl | hd
        · exact hc
        · exact h1 d hd
      · rw [h2, List.foldl_cons, Nat.mul_comm 10 a]
    · cases h
theorem readI_text {l : List Nat} {i : Int} (h : readI l = some i) (hl : l.length ≤ 640) : PySem.intText? (tx l) = some i := by
  have hlen : (tx l).length ≤ 4300 := by rw [tx_len]; omega
  unfold readI at h
  split at h
  · cases h
  · rename_i c r
    obtain ⟨n, hn, rfl⟩ := Option.map_eq_some_iff.mp h
    obtain ⟨h1, h2⟩ := readN_val _ _ _ hn
    rw [h2]
    exact intText_neg (x := tx (45 :: c :: r)) (cs := c :: r) rfl h1 (by simp) hlen
  · rename_i c r hne
    obtain ⟨n, hn, rfl⟩ := Option.map_eq_some_iff.mp h
    obtain ⟨h1, h2⟩ := readN_val _ _ _ hn
    rw [h2]
    exact intText_digits (x := tx (c :: r)) h1 (by simp) hlen
theorem dInt_ne (d : D) (k : Nat) : dInt d ≠ .ex k := by unfold dInt; split <;> first | (intro h; cases h; done) | (split <;> first | (intro h; cases h; done) | (split <;> (intro h; cases h)))
section
variable {nm : Nm} {X : Cx} {C : Ct}
theorem cr_int : CallR X (.type "int") (rd1 X.K X.w dInt) := by
  intro pins s σ H xs us Q I r h
  obtain ⟨F, d, v, rfl, hs, hd, q⟩ := h
  unfold dInt at q
  split at q <;> first | exact False.elim q | skip
  · obtain rfl := hd
    exact call_int1 pins s σ H _ us Q I r (.inr ⟨_, rfl, fin_ok q hs rfl⟩)
  · obtain ⟨rfl, ho⟩ := hd
    split at q
    · rename_i hl
      split at q
      · rename_i i hi
        exact call_int_str pins s σ H _ us Q I r ⟨_, i, rfl, readI_text hi hl, by rw [tx_len]; exact hl, fin_ok q hs rfl⟩
      · exact False.elim q
    · exact False.elim q

/-! ### {k: v, ..} -/
def kyD : Ky → D
  | .i n => .int n
  | .s l => .str l
theorem kyD_rep {k : Ky} {v : V} {K : PySem.W.Frag} {w : World} {F : Hp} (h : Rep K w F (kyD k) v) : v = kV (kyK k) := by
  cases k with
  | i n => exact h
  | s l => exact h.1
theorem putK_new {kvs : List (Key × V)} {k : Key} {v : V} (h : k ∉ kvs.map (·.1)) : putK kvs k v = kvs ++ [(k, v)] := by
  unfold putK
  have : (kvs.any fun kv => decide (kv.1 = k)) = false := by
    cases hb : kvs.any fun kv => decide (kv.1 = k) with
    | false => rfl
    | true =>
      obtain ⟨kv, h1, h2⟩ := List.any_eq_true.mp hb
      exact absurd (List.mem_map.mpr ⟨kv, h1, of_decide_eq_true h2⟩) h
  rw [this, if_neg Bool.false_ne_true]
theorem mergeK_new : ∀ (more kvs : List (Key × V)), ((kvs ++ more).map (·.1)).Nodup → mergeK kvs more = kvs ++ more
  | [], kvs, _ => by rw [List.append_nil]; rfl
  | p :: r, kvs, h => by
    have e1 : putK kvs p.1 p.2 = kvs ++ [p] := putK_new (by
      rw [List.map_append, List.map_cons] at h
      have := (List.nodup_append.mp h).2.2
      exact fun hm => this _ hm _ List.mem_cons_self rfl)
    show mergeK (putK kvs p.1 p.2) r = _
    rw [e1, mergeK_new r (kvs ++ [p]) (by rw [List.append_assoc]; exact h), List.append_assoc]; rfl
theorem nodupK_iff : ∀ {ks : List Ky}, nodupK ks = true → ks.Nodup
  | [], _ => List.nodup_nil
  | k :: r, h => by
    have h' : (!decide (k ∈ r)) = true ∧ nodupK r = true := Bool.and_eq_true_iff.mp h
    refine List.nodup_cons.mpr ⟨fun hm => ?_, nodupK_iff h'.2⟩
    rw [decide_eq_true hm] at h'; cases h'.1
theorem kyK_nodup {ks : List Ky} (h : ks.Nodup) : (ks.map kyK).Nodup := by
  rw [List.nodup_iff_pairwise_ne] at *
  exact List.Pairwise.map _ (fun a b hab e => hab (kyK_inj e)) h
/-- keys and values of a display, kept with their expressions -/
inductive Disp (X : Cx) (C : Ct) (pos : Pos) : List (Option Expr) → List Expr → List Ky → List E → Prop
  | nil : Disp X C pos [] [] [] []
  | cons {ke ve : Expr} {kes : List (Option Expr)} {ves : List Expr} {k : Ky} {ks : List Ky} {t : E} {ts : List E} (hk : PE X ke (C.rd (.lit (kyD k)))) (hv : PE X ve (C.rd t)) (r : Disp X C pos kes ves ks ts) : Disp X C pos (some ke :: kes) (ve :: ves) (k :: ks) (t :: ts)
def trsOf (C : Ct) : List Ky → List E → List (TE × TE)
  | k :: ks, t :: ts => (C.rd (.lit (kyD k)), C.rd t) :: trsOf C ks ts
  | _, _ => []
theorem Disp.pps {pos : Pos} : ∀ {kes : List (Option Expr)} {ves : List Expr} {ks : List Ky} {ts : List E}, Disp X C pos kes ves ks ts → PPs X pos kes ves (trsOf C ks ts) ∧ kes.all (·.isSome) = true ∧ kes.length = ves.length ∧ kes.length = ks.length
  | _, _, _, _, .nil => ⟨pps_nil, rfl, rfl, rfl⟩
  | _, _, _, _, .cons hk hv r => by
    obtain ⟨h1, h2, h3, h4⟩ := r.pps
    exact ⟨pps_cons hk hv h1, by rw [List.all_cons, h2]; rfl, by rw [List.length_cons, List.length_cons, h3], by rw [List.length_cons, List.length_cons, h4]⟩
theorem pairs_go {Xc : Nat → Hp → Prop} {σ : L2.St} {env : Env} (hX : ∀ c H, Xc c H → C.W (.ref (C.ca c)) none σ H) : ∀ {ks : List Ky} {ts : List E} {kes : List (Option Expr)} {ves : List Expr} {pos : Pos} {F H : Hp} {Q : List (V × V) → Hp → Prop}, Disp X C pos kes ves ks ts → EnvR C.K C.w F σ env → Same F H →
    finL C.K C.w (evs C.glob C.fn ts env) F H (fun us H' => Q ((ks.map fun k => kV (kyK k)).zip us) H') Xc → tPairs (trsOf C ks ts) σ H Q
  | _, _, _, _, _, F, H, Q, .nil, he, hs, q => (show ∀ vs F' H', Ext F H F' H' → Reps C.K C.w F' [] vs → Q _ H' from q) [] F H (Ext.refl hs) rfl
  | _, _, _, _, _, F, H, Q, .cons (k := k) (t := t) (ts := ts) hk hv r, he, hs, q => by
    have q' : finL C.K C.w ((ev C.glob C.fn t env).bind fun d => (evs C.glob C.fn ts env).bind fun ds => .ok (d :: ds)) F H _ Xc := q
    show C.rd (.lit (kyD k)) σ H _
    refine ⟨env, F, he, hs, fun v F1 H1 x1 r1 => ?_⟩
    rw [kyD_rep r1]
    refine ⟨env, F1, he.mono x1.sub, x1.inH, ?_⟩
    have q1 := finL_mono x1 q'
    cases e1 : ev C.glob C.fn t env with
    | no => rw [e1] at q1; exact q1
    | ex c => rw [e1] at q1; exact fun H' s => hX c H' (q1 H' s)
    | ok d =>
      rw [e1] at q1
      intro u F2 H2 x2 r2
      refine pairs_go hX r (he.mono (x1.sub.trans x2.sub)) x2.inH ?_
      have q2 := finL_mono x2 q1
      cases e2 : evs C.glob C.fn ts env with
      | no => rw [e2] at q2; exact q2
      | ex c => rw [e2] at q2; exact q2
      | ok ds =>
        rw [e2] at q2
        intro us F3 H3 x3 r3
        exact q2 (u :: us) F3 H3 x3 ⟨u, us, rfl, Rep.mono x3.sub d u r2, r3⟩
theorem zip_kv : ∀ (ks : List Ky) (us : List V), ks.length = us.length → (ks.map fun k => kV (kyK k)).zip us = (((ks.map kyK).zip us).map fun kv => (kV kv.1, kv.2))
  | [], _, _ => rfl
  | k :: ks, [], h => by cases h
  | k :: ks, u :: us, h => by
    rw [List.map_cons, List.map_cons, List.zip_cons_cons, List.zip_cons_cons, List.map_cons, zip_kv ks us (by simpa using h)]
theorem s_dct {pos : Pos} {kes : List (Option Expr)} {ves : List Expr} {ks : List Ky} {ts : List E} (h : Disp X C pos kes ves ks ts) (h0 : ks.isEmpty = false) (h15 : ks.length ≤ 15) : PE X (.Dict kes ves pos) (C.rn (.dct ks ts)) := by
  obtain ⟨p1, p2, p3, p4⟩ := h.pps
  refine PE.weak (pe_disp p1 p2 p3 (fun e => ?_) (by omega)) fun σ H Q ⟨env, F, he, hs, q⟩ p hp => ?_
  · have hk : ks.length = 0 := by rw [← p4, e]; rfl
    rw [List.length_eq_zero_iff] at hk
    subst hk; cases h0
  have ee : ev C.glob C.fn (.dct ks ts) env = (evs C.glob C.fn ts env).bind fun es => if (ks.length = es.length && ks.length ≤ 15) && (!ks.isEmpty && nodupK ks) then .ok (.dic ks es) else .no := rfl
  rw [ee] at q
  refine pairs_go (Xc := fun c H' => C.W (.ref (C.ca c)) none σ H') (fun c H h => h) h he (same_beside hs hp) ?_
  cases e1 : evs C.glob C.fn ts env with
  | no => rw [e1] at q; exact q
  | ex c => rw [e1] at q; exact fun H' s => q H' ((same_upd hp).trans s)
  | ok ds =>
    rw [e1, R.bind_ok] at q
    intro us F1 H1 x1 r1
    obtain ⟨H2, rfl, hp2, x2⟩ := ext_hide hp hs x1
    by_cases hc : ((ks.length = ds.length && ks.length ≤ 15) && (!ks.isEmpty && nodupK ks)) = true
    · rw [if_pos hc] at q
      rw [Bool.and_eq_true, Bool.and_eq_true, Bool.and_eq_true, decide_eq_true_eq, decide_eq_true_eq] at hc
      have hl : ks.length = us.length := hc.1.1.trans r1.length
      have hnd := nodupK_iff hc.2.2
      refine ⟨upd_same, (ks.map kyK).zip us, zip_kv ks us hl, by rw [List.length_zip, List.length_map]; omega, ?_⟩
      have m1 : ((ks.map kyK).zip us).map (·.1) = ks.map kyK := List.map_fst_zip (by rw [List.length_map]; omega)
      have m2 : ((ks.map kyK).zip us).map (·.2) = us := List.map_snd_zip (by rw [List.length_map]; omega)
      rw [mergeK_new _ [] (by rw [List.nil_append, m1]; exact kyK_nodup hnd), List.nil_append, upd_twice]
      exact q p _ F1 H2 x2 hp2 m1 hnd (by rw [m2]; exact r1)
    · rw [if_neg hc] at q
      exact False.elim q

/-! ### methods that change nothing -/
def rdm (K : PySem.W.Frag) (w : World) (f : D → D → R D) : V → List V → Hp → VK → Prop := fun x xs H Q => ∃ F d e y, xs = [y] ∧ Same F H ∧ Rep K w F d x ∧ Rep K w F e y ∧ fin0 K w (f d e) F H Q
theorem findD_at : ∀ {xs : List D} {d : D} {j : Nat}, findD d xs = some j → (∃ z, xs[j]? = some z ∧ deq z d = true) ∧ ∀ (m : Nat) (z : D), m < j → xs[m]? = some z → deq z d = false
  | [], _, _, h => by cases h
  | x :: xs, d, j, h => by
    unfold findD at h
    cases hx : deq x d with
    | true =>
      rw [hx, if_pos rfl] at h
      cases h
      exact ⟨⟨x, rfl, hx⟩, fun m z hm => absurd hm (Nat.not_lt_zero _)⟩
    | false =>
      rw [hx, if_neg Bool.false_ne_true] at h
      obtain ⟨k, hk, rfl⟩ := Option.map_eq_some_iff.mp h
      obtain ⟨⟨z, h1, h2⟩, h3⟩ := findD_at hk
      refine ⟨⟨z, h1, h2⟩, fun m z hm hz => ?_⟩
      cases m with
      | zero => cases hz; exact hx
      | succ m => exact h3 m z (Nat.lt_of_succ_lt_succ hm) hz
theorem toPys_at : ∀ {xs : List D} {j : Nat} {z : PyData}, (toPys xs)[j]? = some z → ∃ d, xs[j]? = some d ∧ z = toPy d
  | [], j, z, h => by simp [toPys] at h
  | x :: xs, 0, z, h => by
    have h' : some (toPy x) = some z := h
    cases h'
    exact ⟨x, rfl, rfl⟩
  | x :: xs, j + 1, z, h => toPys_at (xs := xs) (j := j) h
theorem toPys_get : ∀ {xs : List D} {j : Nat} {d : D}, xs[j]? = some d → (toPys xs)[j]? = some (toPy d)
  | [], j, z, h => by simp at h
  | x :: xs, 0, z, h => by cases h; rfl
  | x :: xs, j + 1, z, h => toPys_get (xs := xs) (j := j) h
theorem okds_at : ∀ {n : Nat} {xs : List D} {j : Nat} {d : D}, okds n xs = true → xs[j]? = some d → okd n d = true
  | n, [], j, d, _, h => by simp at h
  | n, x :: xs, 0, d, h, e => by
    cases e
    have h' : okd n x = true ∧ okds n xs = true := by simpa [okds] using h
    exact h'.1
  | n, x :: xs, j + 1, d, h, e => by
    have h' : okd n x = true ∧ okds n xs = true := by simpa [okds] using h
    exact okds_at h'.2 e
theorem toPys_len : ∀ xs : List D, (toPys xs).length = xs.length
  | [] => rfl
  | x :: xs => by rw [toPys, List.length_cons, List.length_cons, toPys_len]
theorem mt_index' (hu : X.A.units + 65 < cLine) : MtR X "list.index" (rdm X.K X.w mIndex) := by
  intro pins s σ H x xs v us Q I rx rxs h
  obtain ⟨F, d, e, y, rfl, hs, hd, he, q⟩ := h
  unfold mIndex at q
  split at q
  · rename_i ys
    split at q
    · rename_i hc
      rw [Bool.and_eq_true] at hc
      split at q
      · rename_i j hj
        obtain ⟨⟨z, h1, h2⟩, h3⟩ := findD_at hj
        obtain ⟨a1, a2, a3⟩ := dp_of hs deep _ y hc.1 he
        obtain ⟨b1, b2, b3⟩ := dp_of hs (deep + 1) (.lst ys) x hc.2 hd
        obtain ⟨a, vs, rfl, _⟩ := hd
        have ee : ∀ (m : Nat) (z : D), ys[m]? = some z → PyData.eqv (toPy z) (toPy e) = deq z e := fun m z hz => eqv_deq deep deep z e (okds_at hc.2 hz) hc.1
        have sl : SeqAt.shaped (PyData.list (toPys ys)) = true := by
          show (PyData.canLay0 _ && decide _) = true
          rw [show PyData.canLay0 (PyData.list (toPys ys)) = true from b2]
          exact decide_eq_true (Nat.le_trans (show PyData.depth (PyData.list (toPys ys)) ≤ 61 from b3) (by decide))
        exact mt_indexD hu pins s σ H _ _ v us Q I rx rxs ⟨a, y, toPy e, toPys ys, j, toPy z, rfl, rfl, b1, a1, sl, shaped_of a2 a3, toPys_get h1, by rw [ee j z h1]; exact h2, fun m z' hm hz' => by
          obtain ⟨d', hd', rfl⟩ := toPys_at hz'
          rw [ee m d' hd']; exact h3 m d' hm hd', fin_ok q hs rfl⟩
      · exact False.elim q
    · exact False.elim q
  · exact False.elim q
theorem count_py : ∀ (n m : Nat) (xs : List D) (d : D), okds n xs = true → okd m d = true → (toPys xs).countP (fun z => PyData.eqv z (toPy d)) = countD d xs
  | n, m, [], d, _, _ => rfl
  | n, m, x :: xs, d, h, hd => by
    have h' : okd n x = true ∧ okds n xs = true := by simpa [okds] using h
    rw [toPys, List.countP_cons, count_py n m xs d h'.2 hd, eqv_deq n m x d h'.1 hd, countD, Nat.add_comm]
theorem mt_count' (hu : X.A.units + 65 < cLine) : MtR X "list.count" (rdm X.K X.w mCount) := by
  intro pins s σ H x xs v us Q I rx rxs h
  obtain ⟨F, d, e, y, rfl, hs, hd, he, q⟩ := h
  unfold mCount at q
  split at q
  · rename_i ys
    split at q
    · rename_i hc
      rw [Bool.and_eq_true] at hc
      obtain ⟨a1, a2, a3⟩ := dp_of hs deep _ y hc.1 he
      obtain ⟨a, vs, rfl, hF, hr⟩ := hd
      obtain ⟨b1, b2, b3⟩ := dps_of hs deep ys vs hc.2 hr
      cases rx
      obtain ⟨uy, rfl, ry⟩ := rxs.one
      obtain ⟨bs, r1⟩ := Dp.reads I _ y uy a1 ry
      obtain ⟨its, rv, ⟨⟨cls, dd, data, sls⟩, n, ho, hcl, hdn, hdt⟩, hlen⟩ := I.list (SqL.of (hs _ _ hF))
      simp only at hcl hdt
      subst hcl hdt
      obtain ⟨as, h4⟩ := Dp.readsAll I (toPys ys) _ its b1 rv
      have hmap : its.map (SeqAt.readOf s.heap) = toPys ys := SeqAt.readsAll_map (toPys ys) its as b2 h4
      have rm : X.A.units + 1 + min (PyData.depthAll (toPys ys)) (toPy e).depth < cLine := by
        have := Nat.min_le_right (PyData.depthAll (toPys ys)) (PyData.depth (toPy e))
        have a3' : PyData.depth (toPy e) ≤ 60 := a3
        omega
      refine call_meets PySem.F.slot_list_count ⟨_, ho, rfl⟩ PySem.F.entry_list_count (PySem.F.args_list_count_2 _ _)
        (SeqAt.list_countAt a its.toArray n dd sls uy (fun u => PyData.eqv (SeqAt.readOf s.heap u) (toPy e))) ⟨ho, SeqAt.items_eqAt (vs := its.toArray) (show ReadsAll s.heap its.toArray.toList (toPys ys) as from h4) r1 b2 a2 rm, ?_⟩
      have ec : its.toArray.toList.countP (fun u => PyData.eqv (SeqAt.readOf s.heap u) (toPy e)) = countD e ys := by
        rw [← count_py deep deep ys e hc.2 hc.1, ← hmap, List.countP_map]
        rfl
      refine ⟨.int (countD e ys : Nat), H, I.tok _, ⟨s.toks, ?_⟩, fin_ok q hs rfl⟩
      show Value.int ((its.toArray.toList.countP (fun u => PyData.eqv (SeqAt.readOf s.heap u) (toPy e)) : Nat) : Int) s.toks = _
      rw [ec]
    · exact False.elim q
  · exact False.elim q
theorem mIndex_ne (d e : D) (k : Nat) : mIndex d e ≠ .ex k := by unfold mIndex; split <;> first | (intro h; cases h; done) | (split <;> first | (intro h; cases h; done) | (split <;> (intro h; cases h)))
theorem mCount_ne (d e : D) (k : Nat) : mCount d e ≠ .ex k := by unfold mCount; split <;> first | (intro h; cases h; done) | (split <;> (intro h; cases h))
/-- o.m(a), o a list -/
theorem s_mtL (G : Gd0 X C) {m : Mt} {f : D → D → R D} {id : String} {name : Str} {o a : Expr} {to ta : E} {ap cp : Pos} (slot : Slot "list" name id) (hty : typeOf (.builtin id) = pure (.type "method_descriptor")) (hm : MtR X id (rdm X.K X.w f))
    (hf : ∀ x y, mt1 m x y = f x y) (hne : ∀ d e k, f d e ≠ .ex k) (hok : ∀ x, mtOk m x = true → ∃ xs, x = .lst xs) (ho : PE X o (C.rd to)) (ha : PE X a (C.rd ta)) (hn : NoStar a) (hb : noCall0 o = true) (hline : (ap.endLine == cp.line) = true) :
    PE X (.Call (.Attribute o name ap) [a] [] cp) (C.rd (.mt1 m to ta)) := by
  have hfew : ((backTo cp (starEach [a] X.env)).all (fun x => !x.1) && (backToKw cp (keywordEach [] X.env)).all (fun x => x.1.isSome)
      && decide (([a] : List Expr).length + ([] : List Keyword).length + (if ([] : List Keyword).isEmpty then 0 else 1) < 30)) = true := by rw [hn [] X.env]; rfl
  refine PE.weak (pe_bm PySem.F.plainAttrs_list slot hty hm ho (pa_cons ha pa_nil (hn [] X.env)) (base_of hb) hfew hline (hn [] X.env) rfl) fun σ H Q ⟨env, F, he, hs, q⟩ => ?_
  have q' : fin C.K C.w ((ev C.glob C.fn to env).bind fun x => if mtOk m x then (ev C.glob C.fn ta env).bind fun y => mt1 m x y else .no) F H Q _ := q
  refine ⟨env, F, he, hs, fin_bind q' fun d v F1 H1 e1 x1 r1 q1 => ?_⟩
  by_cases hk : mtOk m d = true
  · rw [if_pos hk] at q1
    obtain ⟨xs, rfl⟩ := hok d hk
    obtain ⟨b, vs, rfl, h1, h2⟩ := r1
    refine ⟨.inl ⟨rfl, vs, SqL.of (x1.inH _ _ h1)⟩, env, F1, he.mono x1.sub, x1.inH, fin_bind q1 fun d2 v2 F2 H2 e2 x2 r2 q2 => ?_⟩
    rw [G.hK, G.hw]
    rw [hf] at q2
    exact ⟨F2, .lst xs, d2, v2, rfl, x2.inH, Rep.mono x2.sub _ _ ⟨b, vs, rfl, h1, h2⟩, r2, fin_no0 q2 (hne _ d2)⟩
  · rw [if_neg hk] at q1; exact False.elim q1
end
end Ev

/-! From the text's expressions to E, and that it is right. -/
namespace Ev
open PySem L2 PyProof.Rows RZ

/-- names of constants, defs, exception classes -/
structure Tb where
  gs : List Str
  fs : List (Str × Nat)
  cs : List Str
def Tb.nm (tb : Tb) : Nm := ⟨fun i => tb.gs[i]?, fun i => tb.fs[i]?, fun i => tb.cs[i]?⟩
def posOf (x : Str) : List Str → Option Nat
  | [] => none
  | y :: r => if y = x then some 0 else (posOf x r).map (· + 1)
theorem posOf_at {x : Str} : ∀ {l : List Str} {i : Nat}, posOf x l = some i → l[i]? = some x
  | [], _, h => by cases h
  | y :: r, i, h => by
    unfold posOf at h
    split at h
    · rename_i e; cases h; rw [e]; rfl
    · obtain ⟨j, hj, rfl⟩ := Option.map_eq_some_iff.mp h
      rw [List.getElem?_cons_succ]; exact posOf_at hj
def posF (x : Str) : List (Str × Nat) → Option (Nat × Nat)
  | [] => none
  | y :: r => if y.1 = x then some (0, y.2) else (posF x r).map fun p => (p.1 + 1, p.2)
theorem posF_at {x : Str} : ∀ {l : List (Str × Nat)} {i n : Nat}, posF x l = some (i, n) → l[i]? = some (x, n)
  | [], _, _, h => by cases h
  | y :: r, i, n, h => by
    unfold posF at h
    split at h
    · rename_i e; cases h; rw [← e]; rfl
    · obtain ⟨⟨j, m⟩, hj, e⟩ := Option.map_eq_some_iff.mp h
      cases e
      rw [List.getElem?_cons_succ]; exact posF_at hj

def litOf : Const → Option D
  | .none => some .non
  | .bool b => some (.bl b)
  | .int i => some (.int i)
  | .str x => if okc x.cps.toList then some (.str x.cps.toList) else none
  | _ => none
theorem litOf_ok {k : Const} {d : D} (h : litOf k = some d) : litB d k = true := by
  cases k <;> first | cases h | skip
  · rfl
  · show (_ == _) = true; simp
  · show decide _ = true; simp
  · rename_i x
    have h' : (if okc x.cps.toList then some (D.str x.cps.toList) else none) = some d := h
    split at h'
    · rename_i ho
      cases h'
      show (decide _ && okc _) = true
      rw [ho, Bool.and_true, decide_eq_true_eq]
    · cases h'
def kyOfC : Expr → Option Ky
  | .Constant (.int i) _ _ => some (.i i)
  | .Constant (.str x) _ _ => if okc x.cps.toList then some (.s x.cps.toList) else none
  | _ => none
def binOf : Operator → Option B2
  | .Add => some .add
  | .Sub => some .sub
  | .Mult => some .mul
  | .FloorDiv => some .fdiv
  | .Mod => some .mod
  | _ => none
theorem binOf_ok {o : Operator} {b : B2} (h : binOf o = some b) : o = opOf b := by cases o <;> cases h <;> rfl
def cmpOf : CmpOp → Option C2
  | .Eq => some .eq
  | .NotEq => some .ne
  | .Lt => some .lt
  | .LtE => some .le
  | .Gt => some .gt
  | .GtE => some .ge
  | .In => some .isin
  | .NotIn => some .notin
  | .Is => some .is_
  | .IsNot => some .isnot
theorem cmpOf_ok {o : CmpOp} {b : C2} (h : cmpOf o = some b) : o = cOf b := by cases o <;> cases h <;> rfl
/-- forms that are a test as any -/
def tst0 : Expr → Bool
  | .IfExp .. => false
  | _ => true
def plainT : Expr → Bool
  | .IfExp .. => false
  | .UnaryOp .. => false
  | .BoolOp .. => false
  | .Compare .. => false
  | _ => true
theorem plainT_ok {e : Expr} (h : plainT e = true) (env : PySem.Env) : ∀ whole, isTrue e env whole = (do let v ← whole; standAt e.pos; holding [v] (truthy v)) := by
  cases e <;> first | (intro _; rfl) | cases h
def notSet : Expr → Bool
  | .Set .. => false
  | _ => true
theorem notSet_in {e : Expr} (h : notSet e = true) (o : CmpOp) : behindInMarks o e = false := by
  cases e <;> first | rfl | cases h
theorem notSet_it {e : Expr} (h : notSet e = true) (env : PySem.Env) : ∀ x, foldedSetIterable e env x = pure x := by
  cases e <;> first | (intro _; rfl) | cases h

/-! ### what is had of each -/
structure Res (X : Cx) (C : Ct) (e : Expr) (t : E) : Prop where
  pe : PE X e (C.rd t)
  pt : tst0 e = true → PT X e (tB (C.rd t))
  pn : fresh t = true → PE X e (C.rn t)
  pw : ∀ op es pos, e = .BoolOp op es pos → PW X e (tB (C.rd t))
theorem Res.plain {X : Cx} {C : Ct} {e : Expr} {t : E} (h : PE X e (C.rd t)) (hp : plainT e = true) (hf : fresh t = false) : Res X C e t where
  pe := h
  pt := fun _ => pt_val h (plainT_ok hp X.env)
  pn := fun q => by rw [hf] at q; cases q
  pw := fun op es pos q => by subst q; cases hp
theorem Res.new {X : Cx} {C : Ct} {e : Expr} {t : E} (h : PE X e (C.rn t)) (hp : plainT e = true) (hf : ∀ env d, ev C.glob C.fn t env = .ok d → (∃ ds, d = .lst ds) ∨ ∃ ks ds, d = .dic ks ds) : Res X C e t where
  pe := rn_rd h hf
  pt := fun _ => pt_val (rn_rd h hf) (plainT_ok hp X.env)
  pn := fun _ => h
  pw := fun op es pos q => by subst q; cases hp
/-- what a part's reader promises -/
abbrev Rc (X : Cx) (C : Ct) (f : Expr → Option E) : Prop := ∀ e t, f e = some t → Res X C e t
def compL (f : Expr → Option E) : List Expr → Option (List E)
  | [] => some []
  | e :: es => if noStarB e then (f e).bind fun t => (compL f es).map (t :: ·) else none
theorem compL_ok {X : Cx} {C : Ct} {f : Expr → Option E} (hf : Rc X C f) : ∀ {es : List Expr} {ts : List E}, compL f es = some ts → PA X es (C.rds ts) ∧ NoStars es ∧ ts.length = es.length
  | [], ts, h => by cases h; exact ⟨s_nil, trivial, rfl⟩
  | e :: es, ts, h => by
    unfold compL at h
    split at h
    · rename_i hn
      obtain ⟨t, h1, h2⟩ := Option.bind_eq_some_iff.mp h
      obtain ⟨r, h3, rfl⟩ := Option.map_eq_some_iff.mp h2
      obtain ⟨h4, h5, h6⟩ := compL_ok hf h3
      exact ⟨s_cons (hf e t h1).pe h4 (noStar_of hn es X.env), ⟨noStar_of hn, h5⟩, by rw [List.length_cons, List.length_cons, h6]⟩
    · cases h

section
variable (tb : Tb) (N : List Str)
def cName (sc : Scope) (x : Str) : Option E :=
  if plainName x then (if locB sc x then (posOf x N).map E.var else if glB sc x then (posOf x tb.gs).map E.glo else none) else none
def cUn (f : Expr → Option E) : UnaryOp → Expr → Option E
  | .USub, a => (f a).map E.neg
  | .Not, a => if tst0 a then (f a).map E.not_ else none
  | _, _ => none
/-- the tail of a row of and, or is read as such a row -/
def cBool (f : Expr → Option E) (op : BoolOp) (pos : Pos) : List Expr → Option E
  | [a] => if tst0 a then f a else none
  | a :: b :: rest => if tst0 a then (f a).bind fun ta => (f (.BoolOp op (b :: rest) pos)).map (match op with
    | .And => E.and_ ta
    | .Or => E.or_ ta) else none
  | _ => none
def cCmp (f : Expr → Option E) (a : Expr) : List CmpOp → List Expr → Option E
  | [o], [b] => if notSet b then (cmpOf o).bind fun o' => (f a).bind fun ta => (f b).map (E.cmp o' ta) else none
  | [o, p], [b, c] => if notSet c then (cmpOf o).bind fun o' => (cmpOf p).bind fun p' => (f a).bind fun ta => (f b).bind fun tb => (f c).map (E.cmp2 o' p' ta tb) else none
  | _, _ => none
def cPart (f : Expr → Option E) : Option Expr → Option E
  | none => some .nul
  | some e => (f e).bind fun t => if t.isNul then none else some t
def cSub (f : Expr → Option E) (a : Expr) : Expr → Option E
  | .Slice none none (some (.UnaryOp .USub (.Constant (.int 1) _ _) _)) _ => (f a).map E.rev
  | .Slice lo hi none _ => (f a).bind fun ta => (cPart f lo).bind fun tl => (cPart f hi).map (E.slc ta tl)
  | i => if notSlice i then (f a).bind fun ta => (f i).map (E.idx ta) else none
def tyOf (x : Str) : Option Ty :=
  if x = "int" then some .int else if x = "bool" then some .bool else if x = "str" then some .str else if x = "tuple" then some .tuple else if x = "list" then some .list else none
def cIsi (f : Expr → Option E) (sc : Scope) : List Expr → Option E
  | [a, .Name tn _] => if noStarB a && (glB sc "isinstance" && glB sc tn) then (tyOf tn).bind fun t => (f a).map fun ta => E.isi ta t else none
  | _ => none
def b1Of (x : Str) : Option Bi :=
  if x = "len" then some .len else if x = "all" then some .all_ else if x = "int" then some .int_ else if x = "abs" then some .abs_ else if x = "tuple" then some .tuple else if x = "list" then some .list else if x = "sum" then some .sum else none
def cBi (f : Expr → Option E) (b : Bi) : List Expr → Option E
  | [a] => if noStarB a then (f a).map (E.bi1 b) else none
  | _ => none
def cCall (f : Expr → Option E) (sc : Scope) (x : Str) (args : List Expr) : Option E :=
  if plainName x && glB sc x then
    (match posF x tb.fs with
    | some (i, n) => (compL f args).bind fun ts => if ts.length = n then some (.call i ts) else none
    | none => if x = "isinstance" then cIsi f sc args else match b1Of x with
      | some b => cBi f b args
      | none => none)
  else none
/-- what is walked, by its target -/
def isTup : Expr → Bool
  | .Tuple .. => true
  | _ => false
def iterCall : Expr → Option (Str × List Expr)
  | .Call (.Name x _) args [] _ => if x = "range" || (x = "enumerate" || x = "zip") then some (x, args) else none
  | _ => none
theorem iterCall_ok {e : Expr} {x : Str} {args : List Expr} (h : iterCall e = some (x, args)) : ∃ p pos, e = .Call (.Name x p) args [] pos := by
  unfold iterCall at h
  split at h
  · split at h
    · cases h; exact ⟨_, _, rfl⟩
    · cases h
  · cases h
def cIter (f : Expr → Option E) (sc : Scope) (tg e : Expr) : Option (Ik × List E) :=
  match iterCall e with
  | none => (f e).map fun t => (.val, [t])
  | some (x, args) => if glB sc x then (compL f args).bind fun ts => (match ts with
      | [t] => if x = "range" then some (.range, [t]) else if x = "enumerate" && isTup tg then some (.enum, [t]) else none
      | [t, u] => if x = "range" then some (.range2, [t, u]) else if x = "zip" && isTup tg then some (.zip2, [t, u]) else none
      | _ => none) else none
/-- targets -/
def compT (N : List Str) : Nat → Expr → Option T
  | 0, _ => none
  | n + 1, e => match e with
    | .Name x _ => (posOf x N).map T.one
    | .Tuple es _ _ => (es.mapM (compT N n)).map T.many
    | _ => none
def okIn (scope : Scope) (x : Str) : Bool := match scope.names.lookup x with
  | some .local => true
  | some .cell => true
  | _ => false
def ownOf (N : List Str) : List (Str × NameKind) → List (Str × Nat)
  | [] => []
  | (x, k) :: r => match k with
    | .local => (match posOf x N with
      | some i => (x, i) :: ownOf N r
      | none => ownOf N r)
    | .cell => (match posOf x N with
      | some i => (x, i) :: ownOf N r
      | none => ownOf N r)
    | _ => ownOf N r
def cIfs (f : Expr → Option E) : List Expr → Option (List E)
  | [] => some []
  | [c] => if tst0 c then (f c).map fun t => [t] else none
  | _ => none
def subB (a b : List Nat) : Bool := a.all fun i => decide (i ∈ b)
def cLc (f g : Expr → Option E) (sc : Scope) (elt : Expr) (scope : Scope) : List Comprehension → Option E
  | [⟨tg, iter, ifs, 0⟩] => if blkC N sc scope (ownOf N scope.names) && notSet iter then
      (cIter f sc tg iter).bind fun ka => (compT N 20 tg).bind fun t => (cIfs g ifs).bind fun cs => (g elt).bind fun te =>
        if chkT N (okIn scope) t tg && subB (tslots t) ((ownOf N scope.names).map (·.2)) then some (.lc te t ka.1 ka.2 cs ((ownOf N scope.names).map (·.2))) else none
    else none
  | _ => none
def cDict (f : Expr → Option E) : List (Option Expr) → List Expr → Option (List Ky × List E)
  | [], [] => some ([], [])
  | some k :: ks, v :: vs => (kyOfC k).bind fun ky => (f v).bind fun t => (cDict f ks vs).map fun p => (ky :: p.1, t :: p.2)
  | _, _ => none
def comp : Nat → Scope → Expr → Option E
  | 0, _, _ => none
  | n + 1, sc, e => match e with
    | .Name x _ => cName tb N sc x
    | .Constant k _ _ => (litOf k).map E.lit
    | .Tuple es _ _ => (compL (comp n sc) es).map E.tup
    | .List es _ => (compL (comp n sc) es).map E.lst
    | .Dict ks vs _ => (cDict (comp n sc) ks vs).bind fun p => if !p.1.isEmpty && p.1.length ≤ 15 then some (.dct p.1 p.2) else none
    | .BinOp a o b _ => (binOf o).bind fun o' => (comp n sc a).bind fun ta => (comp n sc b).map (E.bin o' ta)
    | .UnaryOp o a _ => cUn (comp n sc) o a
    | .BoolOp op es pos => cBool (comp n sc) op pos es
    | .Compare a os bs _ => cCmp (comp n sc) a os bs
    | .IfExp c a b _ => if tst0 c then (comp n sc c).bind fun tc => (comp n sc a).bind fun ta => (comp n sc b).map (E.ite tc ta) else none
    | .Subscript a i _ => cSub (comp n sc) a i
    | .Call (.Name x _) args [] _ => cCall tb (comp n sc) sc x args
    | .ListComp elt gs scope _ => cLc N (comp n sc) (comp n (relS scope sc)) sc elt scope gs
    | _ => none
end
end Ev

/-! The reading of expressions is right. -/
namespace Ev
open PySem L2 PyProof.Rows RZ

section
variable {tb : Tb} {X : Cx} {C : Ct}
theorem cName_ok (G : Gd tb.nm X C) {x : Str} {pos : Pos} {t : E} (h : cName tb X.N X.env.scope x = some t) : Res X C (.Name x pos) t := by
  unfold cName at h
  split at h
  · rename_i hp
    split at h
    · rename_i hl
      obtain ⟨i, hi, rfl⟩ := Option.map_eq_some_iff.mp h
      exact .plain (s_var (posOf_at hi) (locB_vis hl) hp) rfl rfl
    · split at h
      · rename_i hg
        obtain ⟨i, hi, rfl⟩ := Option.map_eq_some_iff.mp h
        exact .plain (s_glo G (posOf_at hi) (glB_gl hg) hp) rfl rfl
      · cases h
  · cases h
theorem cUn_ok {f : Expr → Option E} (hf : Rc X C f) {o : UnaryOp} {a : Expr} {pos : Pos} {t : E} (h : cUn f o a = some t) : Res X C (.UnaryOp o a pos) t := by
  unfold cUn at h
  split at h
  · obtain ⟨ta, h1, rfl⟩ := Option.map_eq_some_iff.mp h
    have p := s_neg (pos := pos) (hf a ta h1).pe
    exact ⟨p, fun _ => pt_val p, fun q => (by cases q), fun _ _ _ q => by cases q⟩
  · split at h
    · rename_i ht
      obtain ⟨ta, h1, rfl⟩ := Option.map_eq_some_iff.mp h
      exact ⟨s_not (hf a ta h1).pe, fun _ => st_not ((hf a ta h1).pt ht), fun q => (by cases q), fun _ _ _ q => by cases q⟩
    · cases h
  · cases h
theorem rn_one {op : BoolOp} {a : Expr} {pos : Pos} {t : E} (h : PE X a (C.rn t)) : PE X (.BoolOp op [a] pos) (C.rn t) := pe_one h
theorem cBool_ok {f : Expr → Option E} (hf : Rc X C f) {op : BoolOp} {es : List Expr} {pos : Pos} {t : E} (h : cBool f op pos es = some t) : Res X C (.BoolOp op es pos) t := by
  unfold cBool at h
  split at h
  · rename_i a
    split at h
    · rename_i ht
      have r := hf a t h
      have w : PW X (.BoolOp op [a] pos) (tB (C.rd t)) := by
        cases op with
        | And => exact pw_and1 (r.pt ht)
        | Or => exact pw_or1 (r.pt ht)
      exact ⟨pe_one r.pe, fun _ => w.pt, fun q => pe_one (r.pn q), fun _ _ _ _ => w⟩
    · cases h
  · rename_i a b rest
    split at h
    · rename_i ht
      obtain ⟨ta, h1, h2⟩ := Option.bind_eq_some_iff.mp h
      obtain ⟨tr, h3, rfl⟩ := Option.map_eq_some_iff.mp h2
      have r := hf a ta h1
      have r2 := hf _ tr h3
      cases op with
      | And =>
        have w := sw_and (pos := pos) (r.pt ht) (r2.pw _ _ _ rfl)
        exact ⟨s_and r.pe r2.pe, fun _ => w.pt, fun q => (by cases q), fun _ _ _ _ => w⟩
      | Or =>
        have w := sw_or (pos := pos) (r.pt ht) (r2.pw _ _ _ rfl)
        exact ⟨s_or r.pe r2.pe, fun _ => w.pt, fun q => (by cases q), fun _ _ _ _ => w⟩
    · cases h
  · cases h
theorem cCmp_ok (G : Gd tb.nm X C) {f : Expr → Option E} (hf : Rc X C f) {a : Expr} {os : List CmpOp} {bs : List Expr} {pos : Pos} {t : E} (h : cCmp f a os bs = some t) : Res X C (.Compare a os bs pos) t := by
  unfold cCmp at h
  split at h
  · split at h
    · rename_i hn
      obtain ⟨o', h1, h2⟩ := Option.bind_eq_some_iff.mp h
      obtain ⟨ta, h3, h4⟩ := Option.bind_eq_some_iff.mp h2
      obtain ⟨tb', h5, rfl⟩ := Option.map_eq_some_iff.mp h4
      obtain rfl := cmpOf_ok h1
      exact ⟨s_cmp G.toGd0 o' (hf _ _ h3).pe (hf _ _ h5).pe (notSet_in hn _), fun _ => st_cmp G.toGd0 o' (hf _ _ h3).pe (hf _ _ h5).pe (notSet_in hn _), fun q => (by cases q), fun _ _ _ q => by cases q⟩
    · cases h
  · split at h
    · rename_i hn
      obtain ⟨o', h1, h2⟩ := Option.bind_eq_some_iff.mp h
      obtain ⟨p', h3, h4⟩ := Option.bind_eq_some_iff.mp h2
      obtain ⟨ta, h5, h6⟩ := Option.bind_eq_some_iff.mp h4
      obtain ⟨tb', h7, h8⟩ := Option.bind_eq_some_iff.mp h6
      obtain ⟨tc, h9, rfl⟩ := Option.map_eq_some_iff.mp h8
      obtain rfl := cmpOf_ok h1
      obtain rfl := cmpOf_ok h3
      exact ⟨s_cmp2 G.toGd0 o' p' (hf _ _ h5).pe (hf _ _ h7).pe (hf _ _ h9).pe (notSet_in hn _), fun _ => st_cmp2 G.toGd0 o' p' (hf _ _ h5).pe (hf _ _ h7).pe (hf _ _ h9).pe (notSet_in hn _), fun q => (by cases q), fun _ _ _ q => by cases q⟩
    · cases h
  · cases h
theorem cPart_ok {f : Expr → Option E} (hf : Rc X C f) {o : Option Expr} {t : E} (h : cPart f o = some t) : PO X o (C.rpt t) := by
  unfold cPart at h
  split at h
  · cases h; exact s_noPart
  · obtain ⟨t', h1, h2⟩ := Option.bind_eq_some_iff.mp h
    split at h2
    · cases h2
    · rename_i hn
      cases h2
      exact s_part (hf _ _ h1).pe (by simpa using hn)
theorem cSub_ok (G : Gd tb.nm X C) {f : Expr → Option E} (hf : Rc X C f) {a i : Expr} {pos : Pos} {t : E} (h : cSub f a i = some t) : Res X C (.Subscript a i pos) t := by
  unfold cSub at h
  split at h
  · obtain ⟨ta, h1, rfl⟩ := Option.map_eq_some_iff.mp h
    exact .plain (s_rev G.toGd0 (hf _ _ h1).pe) rfl rfl
  · obtain ⟨ta, h1, h2⟩ := Option.bind_eq_some_iff.mp h
    obtain ⟨tl, h3, h4⟩ := Option.bind_eq_some_iff.mp h2
    obtain ⟨tu, h5, rfl⟩ := Option.map_eq_some_iff.mp h4
    exact .plain (s_slc G.toGd0 (hf _ _ h1).pe (cPart_ok hf h3) (cPart_ok hf h5)) rfl rfl
  · split at h
    · rename_i hn
      obtain ⟨ta, h1, h2⟩ := Option.bind_eq_some_iff.mp h
      obtain ⟨ti, h3, rfl⟩ := Option.map_eq_some_iff.mp h2
      exact .plain (s_idx G.toGd0 (hf _ _ h1).pe (hf _ _ h3).pe hn) rfl rfl
    · cases h
theorem tyOf_ok {x : Str} {t : Ty} (h : tyOf x = some t) : x = Str.ofString (tyN t) := by
  unfold tyOf at h
  split at h
  · cases h; assumption
  split at h
  · cases h; assumption
  split at h
  · cases h; assumption
  split at h
  · cases h; assumption
  split at h
  · cases h; assumption
  · cases h
theorem cIsi_ok (G : Gd tb.nm X C) {f : Expr → Option E} (hf : Rc X C f) {args : List Expr} {p pos : Pos} {t : E} (h : cIsi f X.env.scope args = some t) : Res X C (.Call (.Name "isinstance" p) args [] pos) t := by
  unfold cIsi at h
  split at h
  · split at h
    · rename_i hc
      rw [Bool.and_eq_true, Bool.and_eq_true] at hc
      obtain ⟨ty, h1, h2⟩ := Option.bind_eq_some_iff.mp h
      obtain ⟨ta, h3, rfl⟩ := Option.map_eq_some_iff.mp h2
      exact .plain (s_isi G (tyOf_ok h1) (glB_gl hc.2.1) (glB_gl hc.2.2) (hf _ _ h3).pe (noStar_of hc.1)) rfl rfl
    · cases h
  · cases h
theorem list_new {a : E} (env : Env) (d : D) (h : ev C.glob C.fn (.bi1 .list a) env = .ok d) : (∃ ds, d = .lst ds) ∨ ∃ ks ds, d = .dic ks ds := by
  obtain ⟨x, h1, h2⟩ := R.bind_eq_ok (show R.bind (ev C.glob C.fn a env) _ = .ok d from h)
  exact dList_new x d h2
theorem cBi_ok (G : Gd tb.nm X C) {f : Expr → Option E} (hf : Rc X C f) {b : Bi} {x : Str} {args : List Expr} {p pos : Pos} {t : E} (hx : b1Of x = some b) (hg : Gl X x) (hp : plainName x = true) (h : cBi f b args = some t) : Res X C (.Call (.Name x p) args [] pos) t := by
  unfold cBi at h
  split at h
  · split at h
    · rename_i hn
      have ns := noStar_of hn
      obtain ⟨ta, h1, rfl⟩ := Option.map_eq_some_iff.mp h
      have ha := (hf _ _ h1).pe
      unfold b1Of at hx
      split at hx
      · rename_i e; subst e; cases hx
        exact .plain (s_b1 G cr_len (by decide +kernel) (by decide +kernel) hg hp dLen_ne (fun _ => rfl) ha ns) rfl rfl
      split at hx
      · rename_i e; subst e; cases hx
        exact .plain (s_b1 G (cr_all' G.calm) (by decide +kernel) (by decide +kernel) hg hp dAll_ne (fun _ => rfl) ha ns) rfl rfl
      split at hx
      · rename_i e; subst e; cases hx
        exact .plain (s_t1 G cr_int (by decide +kernel) (by decide +kernel) hg hp dInt_ne (fun _ => rfl) ha ns) rfl rfl
      split at hx
      · rename_i e; subst e; cases hx
        exact .plain (s_b1 G cr_abs (by decide +kernel) (by decide +kernel) hg hp dAbs_ne (fun _ => rfl) ha ns) rfl rfl
      split at hx
      · rename_i e; subst e; cases hx
        exact .plain (s_t1 G cr_tuple (by decide +kernel) (by decide +kernel) hg hp dTuple_ne (fun _ => rfl) ha ns) rfl rfl
      split at hx
      · rename_i e; subst e; cases hx
        exact .new (s_tn G cr_list (by decide +kernel) (by decide +kernel) hg hp dList_ne dList_new (fun _ => rfl) ha ns) rfl list_new
      split at hx
      · rename_i e; subst e; cases hx
        exact .plain (s_b1 G (cr_sum' G.calm) (by decide +kernel) (by decide +kernel) hg hp dSum_ne (fun _ => rfl) ha ns) rfl rfl
      · cases hx
    · cases h
  · cases h
theorem cCall_ok (G : Gd tb.nm X C) {f : Expr → Option E} (hf : Rc X C f) {x : Str} {args : List Expr} {p pos : Pos} {t : E} (h : cCall tb f X.env.scope x args = some t) : Res X C (.Call (.Name x p) args [] pos) t := by
  unfold cCall at h
  split at h
  · rename_i hc
    rw [Bool.and_eq_true] at hc
    split at h
    · rename_i i n hp
      obtain ⟨ts, h1, h2⟩ := Option.bind_eq_some_iff.mp h
      split at h2
      · rename_i hl
        cases h2
        obtain ⟨a1, a2, a3⟩ := compL_ok hf h1
        exact .plain (s_call G (posF_at hp) (glB_gl hc.2) hc.1 a1 a2 hl a3) rfl rfl
      · cases h2
    · split at h
      · rename_i e
        subst e
        exact cIsi_ok G hf h
      · split at h
        · rename_i b hb
          exact cBi_ok G hf hb (glB_gl hc.2) hc.1 h
        · cases h
  · cases h
theorem cIter_ok (G : Gd tb.nm X C) {f : Expr → Option E} (hf : Rc X C f) {tg e : Expr} {ka : Ik × List E} (h : cIter f X.env.scope tg e = some ka) : PI X tg e (C.ri ka.1 ka.2) := by
  unfold cIter at h
  split at h
  · obtain ⟨t, h1, rfl⟩ := Option.map_eq_some_iff.mp h
    exact s_val G (hf _ _ h1).pe
  · rename_i x args hi
    obtain ⟨p, pos, rfl⟩ := iterCall_ok hi
    split at h
    · rename_i hg
      obtain ⟨ts, h1, h2⟩ := Option.bind_eq_some_iff.mp h
      obtain ⟨a1, a2, a3⟩ := compL_ok hf h1
      split at h2
      · obtain ⟨a, rfl⟩ : ∃ a, args = [a] := by
          match args, a3 with
          | [a], _ => exact ⟨a, rfl⟩
        split at h2
        · rename_i e; subst e; cases h2
          exact s_range G (glB_gl hg) a1 a2.1
        · split at h2
          · rename_i e
            rw [Bool.and_eq_true, decide_eq_true_eq] at e
            obtain ⟨e, ht⟩ := e
            subst e; cases h2
            cases tg <;> first | exact s_enum G (glB_gl hg) a1 a2.1 | cases ht
          · cases h2
      · obtain ⟨a, b, rfl⟩ : ∃ a b, args = [a, b] := by
          match args, a3 with
          | [a, b], _ => exact ⟨a, b, rfl⟩
        split at h2
        · rename_i e; subst e; cases h2
          exact s_range2 G (glB_gl hg) a1 a2.1 a2.2.1
        · split at h2
          · rename_i e
            rw [Bool.and_eq_true, decide_eq_true_eq] at e
            obtain ⟨e, ht⟩ := e
            subst e; cases h2
            cases tg <;> first | exact s_zip2 G (glB_gl hg) a1 a2.1 a2.2.1 | cases ht
          · cases h2
      · cases h2
    · cases h
theorem cIfs_ok {f : Expr → Option E} (hf : Rc X C f) {ifs : List Expr} {cs : List E} (h : cIfs f ifs = some cs) : PTs X ifs (C.rtc cs) := by
  unfold cIfs at h
  split at h
  · cases h; exact s_if0
  · split at h
    · rename_i ht
      obtain ⟨t, h1, rfl⟩ := Option.map_eq_some_iff.mp h
      exact s_if1 ((hf _ _ h1).pt ht)
    · cases h
  · cases h
theorem okIn_ok {scope sc : Scope} {x : Str} (h : okIn scope x = true) : (relS scope sc).names.lookup x = scope.names.lookup x ∧ Loc scope x := by
  unfold okIn at h
  split at h
  · rename_i e
    exact ⟨by rw [show (relS scope sc).names.lookup x = some .local from lookup_relS_keep (by decide) e, e], .inl e⟩
  · rename_i e
    exact ⟨by rw [show (relS scope sc).names.lookup x = some .cell from lookup_relS_keep (by decide) e, e], .inr e⟩
  · cases h
/-- what a comprehension's parts want -/
structure LcOk (X : Cx) (C : Ct) (elt tg iter : Expr) (ifs : List Expr) (scope : Scope) (own : List (Str × Nat)) (te : E) (t : T) (k : Ik) (args cs : List E) : Prop where
  hi : PI X tg iter (C.ri k args)
  ok : BlkOk X.N X.env.scope scope own
  hg : ∀ (s : Shared) (H : Hp) (A : Addr) (cl : List (Str × Addr)) (fp : List Addr), PG (X.blk s H scope (compEnvC scope cl A X.env) fp) tg (C.calm.gt t)
  ht : ∀ (s : Shared) (H : Hp) (A : Addr) (cl : List (Str × Addr)) (fp : List Addr), PTs (X.blk s H scope (compEnvC scope cl A X.env) fp) ifs (C.calm.rtc cs)
  he : ∀ (s : Shared) (H : Hp) (A : Addr) (cl : List (Str × Addr)) (fp : List Addr), PE (X.blk s H scope (compEnvC scope cl A X.env) fp) elt (C.calm.rd te)
  hs : ∀ x, foldedSetIterable iter X.env x = pure x
  sub : ∀ i ∈ tslots t, i ∈ own.map (·.2)
theorem cLc_ok (G : Gd tb.nm X C) {f g : Expr → Option E} (hf : Rc X C f) {elt : Expr} {scope : Scope} {gs : List Comprehension} {t : E}
    (hg : ∀ (s : Shared) (H : Hp) (A : Addr) (cl : List (Str × Addr)) (fp : List Addr), Rc (X.blk s H scope (compEnvC scope cl A X.env) fp) C.calm g) (h : cLc X.N f g X.env.scope elt scope gs = some t) :
    ∃ tg iter ifs te tt k args cs, gs = [⟨tg, iter, ifs, 0⟩] ∧ t = .lc te tt k args cs ((ownOf X.N scope.names).map (·.2)) ∧ LcOk X C elt tg iter ifs scope (ownOf X.N scope.names) te tt k args cs := by
  unfold cLc at h
  split at h
  · rename_i tg iter ifs
    split at h
    · rename_i hb
      rw [Bool.and_eq_true] at hb
      obtain ⟨ka, h1, h2⟩ := Option.bind_eq_some_iff.mp h
      obtain ⟨tt, h3, h4⟩ := Option.bind_eq_some_iff.mp h2
      obtain ⟨cs, h5, h6⟩ := Option.bind_eq_some_iff.mp h4
      obtain ⟨te, h7, h8⟩ := Option.bind_eq_some_iff.mp h6
      split at h8
      · rename_i hc
        rw [Bool.and_eq_true] at hc
        cases h8
        refine ⟨tg, iter, ifs, te, tt, ka.1, ka.2, cs, rfl, rfl, cIter_ok G hf h1, blkOk_by hb.1, fun s H A cl fp => ?_, fun s H A cl fp => cIfs_ok (hg s H A cl fp) h5, fun s H A cl fp => (hg s H A cl fp _ _ h7).pe, notSet_it hb.2 _, fun i hi => ?_⟩
        · refine s_tgt (X := X.blk s H scope (compEnvC scope cl A X.env) fp) (C := C.calm) G.hK G.nd G.calm (ok := okIn scope) (fun x hx => ?_) tt tg hc.1
          obtain ⟨e1, e2⟩ := okIn_ok (sc := X.env.scope) hx
          have e1' : (compEnvC scope cl A X.env).scope.names.lookup x = scope.names.lookup x := e1
          refine ⟨?_, ?_⟩
          · rcases e2 with e2 | e2
            · exact .inl (e1'.trans e2)
            · exact .inr (e1'.trans e2)
          · rcases e2 with e2 | e2
            · exact .inr (e1'.trans e2)
            · refine .inl ?_
              show (scope.names.lookup x == some .cell) = true
              rw [e2]; rfl
        · exact of_decide_eq_true (List.all_eq_true.mp hc.2 i hi)
      · cases h8
    · cases h
  · cases h
theorem LcOk.pe (G : Gd tb.nm X C) {elt tg iter : Expr} {ifs : List Expr} {scope : Scope} {own : List (Str × Nat)} {te : E} {t : T} {k : Ik} {args cs : List E} {pos : Pos} (L : LcOk X C elt tg iter ifs scope own te t k args cs) :
    PE X (.ListComp elt [⟨tg, iter, ifs, 0⟩] scope pos) (C.rn (.lc te t k args cs (own.map (·.2)))) :=
  PE.weak (pe_lc G.calm G.nd L.hi L.ok L.hg L.ht L.he L.hs) fun σ H Q h => lc_core' rfl L.sub h
theorem lc_new {te : E} {t : T} {k : Ik} {args cs : List E} {own : List Nat} (env : Env) (d : D) (h : ev C.glob C.fn (.lc te t k args cs own) env = .ok d) : (∃ ds, d = .lst ds) ∨ ∃ ks ds, d = .dic ks ds := by
  obtain ⟨x, h1, h2⟩ := R.bind_eq_ok (show R.bind (evs C.glob C.fn args env) _ = .ok d from h)
  obtain ⟨y, h3, h4⟩ := R.bind_eq_ok h2
  obtain ⟨z, h5, h6⟩ := R.bind_eq_ok h4
  unfold fit at h6
  split at h6
  · cases h6; exact .inl ⟨_, rfl⟩
  · cases h6
theorem lst_new {es : List E} (env : Env) (d : D) (h : ev C.glob C.fn (.lst es) env = .ok d) : (∃ ds, d = .lst ds) ∨ ∃ ks ds, d = .dic ks ds := by
  obtain ⟨x, h1, h2⟩ := R.bind_eq_ok (show R.bind (evs C.glob C.fn es env) _ = .ok d from h)
  unfold fit at h2
  split at h2
  · cases h2; exact .inl ⟨_, rfl⟩
  · cases h2
theorem dct_new {ks : List Ky} {es : List E} (env : Env) (d : D) (h : ev C.glob C.fn (.dct ks es) env = .ok d) : (∃ ds, d = .lst ds) ∨ ∃ ks ds, d = .dic ks ds := by
  obtain ⟨x, h1, h2⟩ := R.bind_eq_ok (show R.bind (evs C.glob C.fn es env) _ = .ok d from h)
  split at h2
  · cases h2; exact .inr ⟨_, _, rfl⟩
  · cases h2
theorem kyOfC_ok {e : Expr} {k : Ky} (h : kyOfC e = some k) : PE X e (C.rd (.lit (kyD k))) := by
  unfold kyOfC at h
  split at h
  · cases h; exact s_lit (by show decide _ = true; simp)
  · split at h
    · rename_i ho
      cases h
      exact s_lit (by show (decide _ && okc _) = true; rw [ho, Bool.and_true, decide_eq_true_eq])
    · cases h
  · cases h
theorem cDict_ok {f : Expr → Option E} (hf : Rc X C f) {pos : Pos} : ∀ {kes : List (Option Expr)} {ves : List Expr} {p : List Ky × List E}, cDict f kes ves = some p → Disp X C pos kes ves p.1 p.2
  | [], [], p, h => by cases h; exact .nil
  | some k :: ks, v :: vs, p, h => by
    obtain ⟨ky, h1, h2⟩ := Option.bind_eq_some_iff.mp (show (kyOfC k).bind _ = some p from h)
    obtain ⟨t, h3, h4⟩ := Option.bind_eq_some_iff.mp h2
    obtain ⟨q, h5, rfl⟩ := Option.map_eq_some_iff.mp h4
    exact .cons (kyOfC_ok h1) (hf _ _ h3).pe (cDict_ok hf h5)
  | [], _ :: _, _, h => by cases h
  | none :: _, _, _, h => by cases h
  | some _ :: _, [], _, h => by cases h
end
theorem comp_ok {tb : Tb} : ∀ (n : Nat) {X : Cx} {C : Ct} (G : Gd tb.nm X C) (e : Expr) (t : E), comp tb X.N n X.env.scope e = some t → Res X C e t
  | 0, _, _, _, _, _, h => by cases h
  | n + 1, X, C, G, e, t, h => by
    have hf : Rc X C (comp tb X.N n X.env.scope) := fun e t h => comp_ok n G e t h
    unfold comp at h
    split at h
    · exact cName_ok G h
    · obtain ⟨d, h1, rfl⟩ := Option.map_eq_some_iff.mp h
      exact .plain (s_lit (litOf_ok h1)) rfl rfl
    · obtain ⟨ts, h1, rfl⟩ := Option.map_eq_some_iff.mp h
      exact .plain (s_tup (compL_ok hf h1).1) rfl rfl
    · obtain ⟨ts, h1, rfl⟩ := Option.map_eq_some_iff.mp h
      exact .new (s_lst (compL_ok hf h1).1) rfl lst_new
    · obtain ⟨p, h1, h2⟩ := Option.bind_eq_some_iff.mp h
      split at h2
      · rename_i hc
        rw [Bool.and_eq_true, decide_eq_true_eq] at hc
        cases h2
        exact .new (s_dct (cDict_ok hf h1) (by simpa using hc.1) hc.2) rfl dct_new
      · cases h2
    · obtain ⟨o', h1, h2⟩ := Option.bind_eq_some_iff.mp h
      obtain ⟨ta, h3, h4⟩ := Option.bind_eq_some_iff.mp h2
      obtain ⟨tb', h5, rfl⟩ := Option.map_eq_some_iff.mp h4
      obtain rfl := binOf_ok h1
      exact .plain (s_bin G.toGd0 o' (hf _ _ h3).pe (hf _ _ h5).pe) rfl rfl
    · exact cUn_ok hf h
    · exact cBool_ok hf h
    · exact cCmp_ok G hf h
    · split at h
      · rename_i ht
        obtain ⟨tc, h1, h2⟩ := Option.bind_eq_some_iff.mp h
        obtain ⟨ta, h3, h4⟩ := Option.bind_eq_some_iff.mp h2
        obtain ⟨tb', h5, rfl⟩ := Option.map_eq_some_iff.mp h4
        exact ⟨s_ite ((hf _ _ h1).pt ht) (hf _ _ h3).pe (hf _ _ h5).pe, fun q => (by cases q), fun q => (by cases q), fun _ _ _ q => by cases q⟩
      · cases h
    · exact cSub_ok G hf h
    · exact cCall_ok G hf h
    · obtain ⟨tg, iter, ifs, te, tt, k, args, cs, rfl, rfl, L⟩ := cLc_ok G hf (fun s H A cl fp e t h => comp_ok n (gd_blk G s H _ _ fp) e t h) h
      exact .new (L.pe G) rfl lc_new
    · cases h
end Ev

/-! Statements: the slots with their own lists and dicts. -/
namespace Ev
open PySem L2 PyProof.Rows RZ

def OwR (K : PySem.W.Frag) (w : World) (F : Hp) (d : D) (o : HO) : Prop :=
  (∃ ds vs, d = .lst ds ∧ o = .lst vs ∧ Reps K w F ds vs) ∨ ∃ ks ds kvs, d = .dic ks ds ∧ o = .dK kvs ∧ kvs.map (·.1) = ks.map kyK ∧ ks.Nodup ∧ Reps K w F ds (kvs.map (·.2))
theorem OwR.mono {K : PySem.W.Frag} {w : World} {F F' : Hp} {d : D} {o : HO} (h : OwR K w F d o) (s : Same F F') : OwR K w F' d o := by
  rcases h with ⟨ds, vs, h1, h2, h3⟩ | ⟨ks, ds, kvs, h1, h2, h3, h4, h5⟩
  · exact .inl ⟨ds, vs, h1, h2, Reps.mono s _ _ h3⟩
  · exact .inr ⟨ks, ds, kvs, h1, h2, h3, h4, Reps.mono s _ _ h5⟩
theorem OwR.rep {K : PySem.W.Frag} {w : World} {F : Hp} {d : D} {o : HO} {a : Addr} (h : OwR K w F d o) (ha : F a = some o) : Rep K w F d (.ref a) := by
  rcases h with ⟨ds, vs, rfl, rfl, h3⟩ | ⟨ks, ds, kvs, rfl, rfl, h3, h4, h5⟩
  · exact ⟨a, vs, rfl, ha, h3⟩
  · exact ⟨a, kvs, rfl, ha, h3, h4, h5⟩
/-- the slots at a statement; F0, H0 as they were at the def's start -/
structure StR (K : PySem.W.Frag) (w : World) (F0 H0 F : Hp) (σ : L2.St) (H : Hp) (env : Env) : Prop where
  len : σ.length = env.length
  ext : Ext F0 H0 F H
  sh : ∀ (i : Nat) (d : D), env[i]? = some (.sh d) → ∃ v, σ[i]? = some (some v) ∧ Rep K w F d v
  ow : ∀ (i : Nat) (d : D), env[i]? = some (.ow d) → ∃ a o, σ[i]? = some (some (.ref a)) ∧ H a = some o ∧ F a = none ∧ H0 a = none ∧ OwR K w F d o
  inj : ∀ (i j : Nat) (d e : D) (a : Addr), env[i]? = some (.ow d) → env[j]? = some (.ow e) → σ[i]? = some (some (.ref a)) → σ[j]? = some (some (.ref a)) → i = j

def maskP (p : Nat → Bool) (env : Env) : Env := env.mapIdx fun i s => s.seen (p i)
def demP (p : Nat → Bool) (env : Env) : Env := env.mapIdx fun i s => s.free (p i)
theorem open_eq (env : Env) : open_ env = maskP (fun _ => true) env := by
  unfold open_ maskP
  refine List.ext_getElem? fun i => ?_
  rw [List.getElem?_map, List.getElem?_mapIdx]
theorem mask_at {p : Nat → Bool} {env : Env} {i : Nat} : (maskP p env)[i]? = (env[i]?).map (·.seen (p i)) := by
  unfold maskP; rw [List.getElem?_mapIdx]
theorem dem_at {p : Nat → Bool} {env : Env} {i : Nat} : (demP p env)[i]? = (env[i]?).map (·.free (p i)) := by
  unfold demP; rw [List.getElem?_mapIdx]
theorem mask_len {p : Nat → Bool} {env : Env} : (maskP p env).length = env.length := by unfold maskP; rw [List.length_mapIdx]
theorem dem_len {p : Nat → Bool} {env : Env} : (demP p env).length = env.length := by unfold demP; rw [List.length_mapIdx]
theorem dem_sh {p : Nat → Bool} {env : Env} {i : Nat} {d : D} (h : (demP p env)[i]? = some (.sh d)) : env[i]? = some (.sh d) ∨ (env[i]? = some (.ow d) ∧ p i = true) := by
  rw [dem_at] at h
  obtain ⟨s, h1, h2⟩ := Option.map_eq_some_iff.mp h
  cases s with
  | no => cases h2
  | sh e => cases h2; exact .inl h1
  | ow e =>
    have h3 : (if p i = true then Sl.sh e else Sl.ow e) = .sh d := h2
    by_cases hp : p i = true
    · rw [if_pos hp] at h3; cases h3; exact .inr ⟨h1, hp⟩
    · rw [if_neg hp] at h3; cases h3
theorem dem_ow {p : Nat → Bool} {env : Env} {i : Nat} {d : D} (h : (demP p env)[i]? = some (.ow d)) : env[i]? = some (.ow d) ∧ p i = false := by
  rw [dem_at] at h
  obtain ⟨s, h1, h2⟩ := Option.map_eq_some_iff.mp h
  cases s with
  | no => cases h2
  | sh e => cases h2
  | ow e =>
    have h3 : (if p i = true then Sl.sh e else Sl.ow e) = .ow d := h2
    by_cases hp : p i = true
    · rw [if_pos hp] at h3; cases h3
    · rw [if_neg hp] at h3; cases h3
      exact ⟨h1, by cases hb : p i with
        | true => exact absurd hb hp
        | false => rfl⟩

section
variable {K : PySem.W.Frag} {w : World} {F0 H0 F H F' H' : Hp} {σ : L2.St} {env : Env}
/-- what is frozen while an expression is asked -/
structure Froz (K : PySem.W.Frag) (w : World) (F0 H0 F : Hp) (σ : L2.St) (H : Hp) (env : Env) (p : Nat → Bool) (Fu : Hp) : Prop where
  sub : Same F Fu
  inH : Same Fu H
  envr : EnvR K w Fu σ (maskP p env)
  used : ∀ (i : Nat) (d : D) (a : Addr), p i = true → env[i]? = some (.ow d) → σ[i]? = some (some (.ref a)) → Rep K w Fu d (.ref a)
  rest : ∀ (i : Nat) (d : D) (a : Addr), p i = false → env[i]? = some (.ow d) → σ[i]? = some (some (.ref a)) → Fu a = none
  new : ∀ a, H0 a ≠ none → F0 a = none → Fu a = none
theorem StR.seen (h : StR K w F0 H0 F σ H env) (p : Nat → Bool) : ∃ Fu, Froz K w F0 H0 F σ H env p Fu := by
  classical
  let P : Addr → Prop := fun a => ∃ (i : Nat) (d : D), env[i]? = some (.ow d) ∧ σ[i]? = some (some (.ref a)) ∧ p i = true
  let Fu : Hp := fun a => if P a then H a else F a
  have sub : Same F Fu := fun a o e => by
    show (if P a then H a else F a) = some o
    by_cases hp : P a
    · rw [if_pos hp]; exact h.ext.inH a o e
    · rw [if_neg hp]; exact e
  have used : ∀ (i : Nat) (d : D) (a : Addr), p i = true → env[i]? = some (.ow d) → σ[i]? = some (some (.ref a)) → Rep K w Fu d (.ref a) := fun i d a hp he ha => by
    obtain ⟨b, o, h1, h2, h3, h4, h5⟩ := h.ow i d he
    rw [ha] at h1
    cases h1
    refine (h5.mono sub).rep ?_
    show (if P a then H a else F a) = some o
    rw [if_pos (show P a from ⟨i, d, he, ha, hp⟩)]
    exact h2
  refine ⟨Fu, sub, fun a o e => ?_, ⟨by rw [mask_len]; exact h.len, fun i d hd => ?_⟩, used, fun i d a hp he ha => ?_, fun a hn hf => ?_⟩
  · have e' : (if P a then H a else F a) = some o := e
    by_cases hp : P a
    · rw [if_pos hp] at e'; exact e'
    · rw [if_neg hp] at e'; exact h.ext.inH a o e'
  · unfold look at hd
    rw [mask_at] at hd
    cases he : env[i]? with
    | none => rw [he] at hd; cases hd
    | some s =>
      rw [he] at hd
      cases s with
      | no => cases hd
      | sh x =>
        cases hd
        obtain ⟨v, h1, h2⟩ := h.sh i d he
        exact ⟨v, h1, Rep.mono sub d v h2⟩
      | ow x =>
        have hd' : (if p i = true then Sl.sh x else Sl.no).val = .ok d := hd
        by_cases hp : p i = true
        · rw [if_pos hp] at hd'
          cases hd'
          obtain ⟨a, o, h1, _⟩ := h.ow i d he
          exact ⟨.ref a, h1, used i d a hp he h1⟩
        · rw [if_neg hp] at hd'; cases hd'
  · obtain ⟨b, o, h1, h2, h3, h4, h5⟩ := h.ow i d he
    rw [ha] at h1
    cases h1
    have no : ¬ P a := fun ⟨j, e, q1, q2, q3⟩ => by
      have := h.inj i j d e a he q1 ha q2
      subst this
      rw [hp] at q3; cases q3
    show (if P a then H a else F a) = none
    rw [if_neg no]
    exact h3
  · have no : ¬ P a := fun ⟨j, e, q1, q2, q3⟩ => by
      obtain ⟨b, o, h1, h2, h3, h4, h5⟩ := h.ow j e q1
      rw [q2] at h1
      cases h1
      exact hn h4
    show (if P a then H a else F a) = none
    rw [if_neg no]
    exact h.ext.new a hn hf
/-- the value is let go, or has no part in the heap -/
theorem StR.drop {p : Nat → Bool} {Fu : Hp} (h : StR K w F0 H0 F σ H env) (z : Froz K w F0 H0 F σ H env p Fu) (x : Ext Fu H F' H') : StR K w F0 H0 F σ H' env where
  len := h.len
  ext := ⟨h.ext.sub, fun a o e => x.inH a o (x.sub a o (z.sub a o e)), h.ext.same.trans x.same, h.ext.new⟩
  sh := h.sh
  ow := fun i d he => by
    obtain ⟨a, o, h1, h2, h3⟩ := h.ow i d he
    exact ⟨a, o, h1, x.same a o h2, h3⟩
  inj := h.inj
/-- the value is kept: what it was made of is not changed any more -/
theorem StR.keep {p : Nat → Bool} {Fu : Hp} (h : StR K w F0 H0 F σ H env) (z : Froz K w F0 H0 F σ H env p Fu) (x : Ext Fu H F' H') : StR K w F0 H0 F' σ H' (demP p env) where
  len := by rw [dem_len]; exact h.len
  ext := ⟨h.ext.sub.trans (z.sub.trans x.sub), x.inH, h.ext.same.trans x.same, fun a hn hf => x.new a (fun e => by
    cases q : H0 a with
    | none => exact hn q
    | some o => rw [h.ext.same a o q] at e; cases e) (z.new a hn hf)⟩
  sh := fun i d he => by
    rcases dem_sh he with he | ⟨he, hp⟩
    · obtain ⟨v, h1, h2⟩ := h.sh i d he
      exact ⟨v, h1, Rep.mono (z.sub.trans x.sub) d v h2⟩
    · obtain ⟨a, o, h1, _⟩ := h.ow i d he
      exact ⟨.ref a, h1, Rep.mono x.sub d _ (z.used i d a hp he h1)⟩
  ow := fun i d he => by
    obtain ⟨he, hp⟩ := dem_ow he
    obtain ⟨a, o, h1, h2, h3, h4, h5⟩ := h.ow i d he
    exact ⟨a, o, h1, x.same a o h2, x.new a (by rw [h2]; simp) (z.rest i d a hp he h1), h4, h5.mono (z.sub.trans x.sub)⟩
  inj := fun i j d e a hi hj => h.inj i j d e a (dem_ow hi).1 (dem_ow hj).1
/-- the heap grows beside the slots -/
theorem StR.grow (h : StR K w F0 H0 F σ H env) (x : Ext F H F' H') : StR K w F0 H0 F' σ H' env where
  len := h.len
  ext := h.ext.trans x
  sh := fun i d he => let ⟨v, h1, h2⟩ := h.sh i d he; ⟨v, h1, Rep.mono x.sub d v h2⟩
  ow := fun i d he => by
    obtain ⟨a, o, h1, h2, h3, h4, h5⟩ := h.ow i d he
    exact ⟨a, o, h1, x.same a o h2, x.new a (by rw [h2]; simp) h3, h4, h5.mono x.sub⟩
  inj := h.inj
def inB (uses : List Nat) (i : Nat) : Bool := decide (i ∈ uses)
theorem StR.after {uses : List Nat} {Fu : Hp} {d : D} {v : V} (h : StR K w F0 H0 F σ H env) (z : Froz K w F0 H0 F σ H env (inB uses) Fu) (x : Ext Fu H F' H') (r : Rep K w F' d v) : ∃ F2, StR K w F0 H0 F2 σ H' (after d uses env) ∧ Rep K w F2 d v := by
  unfold Ev.after
  by_cases hf : flat d = true
  · rw [if_pos hf]; exact ⟨F, h.drop z x, r.flat hf F⟩
  · rw [if_neg hf]; exact ⟨F', h.keep z x, r⟩
/-- stored to a target -/
theorem StR.bind {t : T} {d : D} {env' : Env} {σ' : L2.St} (h : StR K w F0 H0 F σ H env) (hb : Ev.bind t d env = .ok env') (wr : Wrote K w F (tslots t) env' σ σ') : StR K w F0 H0 F σ' H env' := by
  obtain ⟨b1, b2, b3⟩ := bind_out t d env env' hb
  have own : ∀ (i : Nat) (x : D), env'[i]? = some (.ow x) → i ∉ tslots t := fun i x e hi => by
    obtain ⟨y, hy⟩ := b3 i hi
    rw [e] at hy; cases hy
  refine ⟨by rw [wr.1, b1]; exact h.len, h.ext, fun i x he => ?_, fun i x he => ?_, fun i j x y a hi hj si sj => ?_⟩
  · by_cases hi : i ∈ tslots t
    · exact wr.2.2 i hi x he
    · rw [wr.2.1 i hi]
      exact h.sh i x (by rw [← b2 i hi]; exact he)
  · have hi := own i x he
    rw [wr.2.1 i hi]
    exact h.ow i x (by rw [← b2 i hi]; exact he)
  · have ni := own i x hi
    have nj := own j y hj
    rw [wr.2.1 i ni] at si
    rw [wr.2.1 j nj] at sj
    exact h.inj i j x y a (by rw [← b2 i ni]; exact hi) (by rw [← b2 j nj]; exact hj) si sj
/-- a new list or dict of one's own -/
theorem StR.setOw {i : Nat} {d : D} {o : HO} {q : Addr} (h : StR K w F0 H0 F σ H env) (hi : i < env.length) (hq : H q = none) (ho : OwR K w F d o) : StR K w F0 H0 F (σ.set i (some (.ref q))) (upd H q o) (env.set i (.ow d)) := by
  have hfree : H0 q = none := by
    cases e : H0 q with
    | none => rfl
    | some o' => rw [h.ext.same q o' e] at hq; cases hq
  have hil : i < σ.length := by rw [h.len]; exact hi
  refine ⟨by rw [List.length_set, List.length_set]; exact h.len, ⟨h.ext.sub, same_beside h.ext.inH hq, fun a o' e => ?_, h.ext.new⟩, fun j x he => ?_, fun j x he => ?_, fun j k x y a hj hk sj sk => ?_⟩
  · rw [upd_ne (fun z => by rw [z, hfree] at e; cases e)]; exact h.ext.same a o' e
  · by_cases e : i = j
    · subst e
      rw [List.getElem?_set_self hi] at he; cases he
    · rw [List.getElem?_set_ne e] at he ⊢
      exact h.sh j x he
  · by_cases e : i = j
    · subst e
      rw [List.getElem?_set_self hi] at he; cases he
      exact ⟨q, o, List.getElem?_set_self hil, upd_same, h.ext.inH.free hq, hfree, ho⟩
    · rw [List.getElem?_set_ne e] at he ⊢
      obtain ⟨a, o', h1, h2, h3⟩ := h.ow j x he
      exact ⟨a, o', h1, by rw [upd_ne (fun z => by rw [z, hq] at h2; cases h2)]; exact h2, h3⟩
  · have old : ∀ (m : Nat) (z : D), i ≠ m → (env.set i (.ow d))[m]? = some (.ow z) → (σ.set i (some (.ref q)))[m]? = some (some (.ref a)) → a ≠ q := fun m z e hm sm => by
      rw [List.getElem?_set_ne e] at hm sm
      obtain ⟨b, o', h1, h2, _⟩ := h.ow m z hm
      rw [sm] at h1; cases h1
      exact fun z => by rw [z, hq] at h2; cases h2
    by_cases e : i = j
    · by_cases e2 : i = k
      · rw [← e, ← e2]
      · subst e
        rw [List.getElem?_set_self hil] at sj
        cases sj
        exact absurd rfl (old k y e2 hk sk)
    · by_cases e2 : i = k
      · subst e2
        rw [List.getElem?_set_self hil] at sk
        cases sk
        exact absurd rfl (old j x e hj sj)
      · rw [List.getElem?_set_ne e] at hj sj
        rw [List.getElem?_set_ne e2] at hk sk
        exact h.inj j k x y a hj hk sj sk
/-- one's own list or dict changed -/
theorem StR.chOw {i : Nat} {d d' : D} {o' : HO} {a : Addr} (h : StR K w F0 H0 F σ H env) (he : env[i]? = some (.ow d)) (ha : σ[i]? = some (some (.ref a))) (ho : OwR K w F d' o') : StR K w F0 H0 F σ (upd H a o') (env.set i (.ow d')) := by
  obtain ⟨b, o, h1, h2, h3, h4, h5⟩ := h.ow i d he
  rw [ha] at h1
  cases h1
  have hi : i < env.length := (List.getElem?_eq_some_iff.mp he).1
  refine ⟨by rw [List.length_set]; exact h.len, ⟨h.ext.sub, fun b o q => ?_, fun b o q => ?_, h.ext.new⟩, fun j x hj => ?_, fun j x hj => ?_, fun j k x y b hj hk sj sk => ?_⟩
  · rw [upd_ne (fun z => by rw [z, h3] at q; cases q)]; exact h.ext.inH b o q
  · rw [upd_ne (fun z => by rw [z, h4] at q; cases q)]; exact h.ext.same b o q
  · by_cases e : i = j
    · subst e
      rw [List.getElem?_set_self hi] at hj; cases hj
    · rw [List.getElem?_set_ne e] at hj
      exact h.sh j x hj
  · by_cases e : i = j
    · subst e
      rw [List.getElem?_set_self hi] at hj; cases hj
      exact ⟨a, o', ha, upd_same, h3, h4, ho⟩
    · rw [List.getElem?_set_ne e] at hj
      obtain ⟨b, o2, q1, q2, q3⟩ := h.ow j x hj
      exact ⟨b, o2, q1, by rw [upd_ne (fun z => e (h.inj i j d x a he hj ha (by rw [q1, z])))]; exact q2, q3⟩
  · have back : ∀ (m : Nat) (z : D), (env.set i (.ow d'))[m]? = some (.ow z) → ∃ z', env[m]? = some (.ow z') := fun m z hm => by
      by_cases e : i = m
      · subst e; exact ⟨d, he⟩
      · rw [List.getElem?_set_ne e] at hm; exact ⟨z, hm⟩
    obtain ⟨x', hx⟩ := back j x hj
    obtain ⟨y', hy⟩ := back k y hk
    exact h.inj j k x' y' b hx hy sj sk
end
end Ev

/-! Rules of statements. -/
namespace Ev
open PySem L2 PyProof.Rows RZ

def Cont (C : Ct) (F0 H0 : Hp) (E : Ends) : Out → Prop
  | .nx env => ∀ F σ H, StR C.K C.w F0 H0 F σ H env → E.nx σ H
  | .rt d => ∀ v F H, Ext F0 H0 F H → Rep C.K C.w F d v → E.rt v H
  | .ex c => ∀ σ H, Same H0 H → C.W (.ref (C.ca c)) none σ H
  | .no => False
def Ct.rs (C : Ct) (refu : Nat → R D) (s : S) : TS := fun E σ H => ∃ F0 H0 F env, StR C.K C.w F0 H0 F σ H env ∧ Cont C F0 H0 E (exS C.glob C.fn refu s env)
def Ct.rss (C : Ct) (refu : Nat → R D) (ss : List S) : TS := fun E σ H => ∃ F0 H0 F env, StR C.K C.w F0 H0 F σ H env ∧ Cont C F0 H0 E (exSs C.glob C.fn refu ss env)
theorem PS.weak {X : Cx} {st : Stmt} {t t' : TS} (h : PS X st t) (k : ∀ E σ H, t' E σ H → t E σ H) : PS X st t' := ⟨fun pins s σ H E I q => h.run pins s σ H E I (k E σ H q)⟩
theorem PSs.weak {X : Cx} {st : List Stmt} {t t' : TS} (h : PSs X st t) (k : ∀ E σ H, t' E σ H → t E σ H) : PSs X st t' := ⟨fun pins s σ H E I q => h.run pins s σ H E I (k E σ H q)⟩

section
variable {X : Cx} {C : Ct} {refu : Nat → R D} {pos : Pos}
theorem Cont.nx_mono {F0 H0 : Hp} {E E' : Ends} {o : Out} (h : Cont C F0 H0 E o) (hr : E'.rt = E.rt) (hn : ∀ env, o = .nx env → ∀ F σ H, StR C.K C.w F0 H0 F σ H env → E'.nx σ H) : Cont C F0 H0 E' o := by
  cases o with
  | nx env => exact hn env rfl
  | rt d => exact fun v F H x r => by rw [hr]; exact h v F H x r
  | ex c => exact h
  | no => exact h
/-- a value is asked in a statement -/
theorem ask {e : E} {p : Nat → Bool} {f : D → Out} {F0 H0 F : Hp} {σ : L2.St} {H : Hp} {env : Env} {E' : Ends} {Q : VK} (h : StR C.K C.w F0 H0 F σ H env) (q : Cont C F0 H0 E' ((ev C.glob C.fn e (maskP p env)).out f))
    (k : ∀ d v Fu F' H', Froz C.K C.w F0 H0 F σ H env p Fu → Ext Fu H F' H' → Rep C.K C.w F' d v → Cont C F0 H0 E' (f d) → Q v H') : C.rd e σ H Q := by
  obtain ⟨Fu, z⟩ := h.seen p
  refine ⟨maskP p env, Fu, z.envr, z.inH, ?_⟩
  cases e1 : ev C.glob C.fn e (maskP p env) with
  | no => rw [e1] at q; exact q
  | ex c => rw [e1] at q; exact fun H' s => q σ H' (h.ext.same.trans s)
  | ok d => rw [e1] at q; exact fun v F' H' x r => k d v Fu F' H' z x r q
/-- a new list or dict -/
theorem askN {e : E} {p : Nat → Bool} {f : D → Out} {F0 H0 F : Hp} {σ : L2.St} {H : Hp} {env : Env} {E' : Ends} {Q : VK} (h : StR C.K C.w F0 H0 F σ H env) (q : Cont C F0 H0 E' ((ev C.glob C.fn e (maskP p env)).out f))
    (hf : ∀ env d, ev C.glob C.fn e env = .ok d → (∃ ds, d = .lst ds) ∨ ∃ ks ds, d = .dic ks ds)
    (k : ∀ d a o Fu F' H', Froz C.K C.w F0 H0 F σ H env p Fu → Ext Fu H F' H' → H' a = none → OwR C.K C.w F' d o → Cont C F0 H0 E' (f d) → Q (.ref a) (upd H' a o)) : C.rn e σ H Q := by
  obtain ⟨Fu, z⟩ := h.seen p
  refine ⟨maskP p env, Fu, z.envr, z.inH, ?_⟩
  cases e1 : ev C.glob C.fn e (maskP p env) with
  | no => rw [e1] at q; exact q
  | ex c => rw [e1] at q; exact fun H' s => q σ H' (h.ext.same.trans s)
  | ok d =>
    rw [e1] at q
    rcases hf _ d e1 with ⟨ds, rfl⟩ | ⟨ks, ds, rfl⟩
    · exact fun a vs F' H' x ha r => k _ a (.lst vs) Fu F' H' z x ha (.inl ⟨ds, vs, rfl, rfl, r⟩) q
    · exact fun a kvs F' H' x ha h1 h2 h3 => k _ a (.dK kvs) Fu F' H' z x ha (.inr ⟨ks, ds, kvs, rfl, rfl, h1, h2, h3⟩) q
theorem ask_bool {e : E} {f : Bool → Out} {F0 H0 F : Hp} {σ : L2.St} {H : Hp} {env : Env} {E' : Ends} {Q : Bool → Hp → Prop} (h : StR C.K C.w F0 H0 F σ H env) (q : Cont C F0 H0 E' (((ev C.glob C.fn e (open_ env)).bind asBool).out f))
    (k : ∀ b H', (ev C.glob C.fn e (open_ env)).bind asBool = .ok b → StR C.K C.w F0 H0 F σ H' env → Cont C F0 H0 E' (f b) → Q b H') : tB (C.rd e) σ H Q := by
  rw [open_eq] at q k
  obtain ⟨Fu, z⟩ := h.seen fun _ => true
  refine ⟨_, Fu, z.envr, z.inH, ?_⟩
  cases e1 : ev C.glob C.fn e (maskP (fun _ => true) env) with
  | no => rw [e1] at q; exact q
  | ex c => rw [e1] at q; exact fun H' s => q σ H' (h.ext.same.trans s)
  | ok d =>
    rw [e1] at q k
    intro v F' H' x r
    cases d with
    | bl b =>
      obtain rfl : v = .bl b := r
      exact ⟨b, rfl, k b H' rfl (h.drop z x) q⟩
    | _ => exact False.elim q

theorem s_ret {e : Expr} {t : E} (h : PE X e (C.rd t)) : PS X (.Return (some e) pos) (C.rs refu (.ret t)) :=
  PS.weak (ps_ret h) fun E' σ H ⟨F0, H0, F, env, st, q⟩ => by
    have q' : Cont C F0 H0 E' ((ev C.glob C.fn t (open_ env)).out .rt) := q
    rw [open_eq] at q'
    exact ask st q' fun d v Fu F' H' z x r q2 => q2 v F' H' (st.keep z x).ext r
theorem s_exp {e : Expr} {t : E} (h : PE X e (C.rd t)) (hs : swapsWith e none pos.line X.env = pure false) : PS X (.Expr e pos) (C.rs refu (.exp t)) :=
  PS.weak (ps_expr h hs) fun E' σ H ⟨F0, H0, F, env, st, q⟩ => by
    have q' : Cont C F0 H0 E' ((ev C.glob C.fn t (open_ env)).out fun _ => .nx env) := q
    rw [open_eq] at q'
    exact ask st q' fun d v Fu F' H' z x r q2 => q2 F σ H' (st.drop z x)
theorem s_ifs {c : Expr} {tc : E} {a b : List Stmt} {ta tb : List S} (hc : PT X c (tB (C.rd tc))) (ha : PSs X a (C.rss refu ta)) (hb : PSs X b (C.rss refu tb)) : PS X (.If c a b pos) (C.rs refu (.ite tc ta tb)) :=
  PS.weak (ps_if hc ha hb) fun E' σ H ⟨F0, H0, F, env, st, q⟩ => by
    have q' : Cont C F0 H0 E' (((ev C.glob C.fn tc (open_ env)).bind asBool).out fun z => if z then exSs C.glob C.fn refu ta env else exSs C.glob C.fn refu tb env) := q
    refine ask_bool st q' fun b H' _ st' q2 => ?_
    cases b with
    | true => exact ⟨F0, H0, F, env, st', q2⟩
    | false => exact ⟨F0, H0, F, env, st', q2⟩
theorem out_ok {A : Type} {r : R A} {f : A → Out} {F0 H0 : Hp} {E' : Ends} (hn : ∀ c, r ≠ .ex c) (h : Cont C F0 H0 E' (r.out f)) : ∃ a, r = .ok a ∧ Cont C F0 H0 E' (f a) := by
  cases r with
  | ok a => exact ⟨a, rfl, h⟩
  | ex c => exact absurd rfl (hn c)
  | no => exact False.elim h
mutual
theorem bind_ne' : ∀ (t : T) (d : D) (env : Env) (c : Nat), bind t d env ≠ .ex c
  | .one j, d, env, c => by
    show (if j < env.length then R.ok (env.set j (.sh d)) else .no) ≠ _
    split <;> (intro h; cases h)
  | .many ts, .tup xs, env, c => binds_ne ts xs env c
  | .many _, .non, _, _ => by intro h; cases h
  | .many _, .bl _, _, _ => by intro h; cases h
  | .many _, .int _, _, _ => by intro h; cases h
  | .many _, .str _, _, _ => by intro h; cases h
  | .many _, .lst _, _, _ => by intro h; cases h
  | .many _, .dic _ _, _, _ => by intro h; cases h
  | .many _, .scr _, _, _ => by intro h; cases h
  | .many _, .gdc _ _, _, _ => by intro h; cases h
  | .many _, .adr _, _, _ => by intro h; cases h
theorem binds_ne : ∀ (ts : List T) (xs : List D) (env : Env) (c : Nat), binds ts xs env ≠ .ex c
  | [], [], _, _ => by intro h; cases h
  | [], _ :: _, _, _ => by intro h; cases h
  | _ :: _, [], _, _ => by intro h; cases h
  | t :: ts, x :: xs, env, c => by
    intro h
    have h' : (bind t x env).bind (fun env' => binds ts xs env') = .ex c := h
    cases e1 : bind t x env with
    | ok env' => rw [e1] at h'; exact binds_ne ts xs env' c h'
    | ex k => exact bind_ne' t x env k e1
    | no => rw [e1] at h'; cases h'
end
/-- what is stored from a shared value -/
theorem asg_core {t : T} {e : E} {uses : List Nat} {E' : Ends} {σ : L2.St} {H : Hp} (h : C.rs refu (.asg t e false uses) E' σ H) : tAsg (C.rd e) (C.gt t) E' σ H := by
  obtain ⟨F0, H0, F, env, st, q⟩ := h
  have q' : Cont C F0 H0 E' ((ev C.glob C.fn e (maskP (inB uses) env)).out fun d => (bind t d (after d uses env)).out .nx) := q
  refine ask st q' fun d v Fu F' H' z x r q2 => ?_
  obtain ⟨F2, st2, r2⟩ := st.after z x r
  obtain ⟨env', hb, q3⟩ := out_ok (bind_ne' t d _) q2
  exact ⟨F2, d, after d uses env, env', st2.ext.inH, r2, st2.len, hb, fun σ' wr => q3 F2 σ' H' (st2.bind hb wr)⟩
theorem s_asg {t : T} {tg e : Expr} {te : E} {uses : List Nat} (he : PE X e (C.rd te)) (hg : PG X tg (C.gt t)) (hs : swapsWithSole [tg] e pos.line X.env = pure false) (hw : swappedStores [tg] e X.env = pure none) (h1 : (assignEach [tg] X.env).map (·.2) = [assign tg X.env]) :
    PS X (.Assign [tg] e pos) (C.rs refu (.asg t te false uses)) := PS.weak (ps_asg he hg hs hw h1) fun _ _ _ h => asg_core h
/-- the name's own rule: its slot -/
theorem asg1_core {i : Nat} {e : E} {uses : List Nat} {E' : Ends} {σ : L2.St} {H : Hp} (h : C.rs refu (.asg (.one i) e false uses) E' σ H) : tAsg (C.rd e) (gName i) E' σ H := by
  obtain ⟨F0, H0, F, env, st, q⟩ := h
  have q' : Cont C F0 H0 E' ((ev C.glob C.fn e (maskP (inB uses) env)).out fun d => (bind (.one i) d (after d uses env)).out .nx) := q
  refine ask st q' fun d v Fu F' H' z x r q2 => ?_
  obtain ⟨F2, st2, r2⟩ := st.after z x r
  obtain ⟨env', hb, q3⟩ := out_ok (bind_ne' _ d _) q2
  refine q3 F2 _ H' (st2.bind hb ⟨List.length_set, fun j hj => List.getElem?_set_ne (fun e => hj (by rw [e]; exact List.mem_singleton.mpr rfl)), fun j hj y hy => ?_⟩)
  obtain rfl : j = i := List.mem_singleton.mp hj
  have hb' : (if j < (after d uses env).length then R.ok ((after d uses env).set j (.sh d)) else .no) = .ok env' := hb
  split at hb'
  · rename_i hj
    cases hb'
    rw [List.getElem?_set_self hj] at hy
    cases hy
    exact ⟨v, List.getElem?_set_self (by rw [st2.len]; exact hj), r2⟩
  · cases hb'
theorem asgN_core {i : Nat} {e : E} {uses : List Nat} {E' : Ends} {σ : L2.St} {H : Hp} (hf : ∀ env d, ev C.glob C.fn e env = .ok d → (∃ ds, d = .lst ds) ∨ ∃ ks ds, d = .dic ks ds) (h : C.rs refu (.asg (.one i) e true uses) E' σ H) : tAsg (C.rn e) (gName i) E' σ H := by
  obtain ⟨F0, H0, F, env, st, q⟩ := h
  have q' : Cont C F0 H0 E' ((ev C.glob C.fn e (maskP (inB uses) env)).out fun d => if true && !fresh e then .no else (if i < (demP (inB uses) env).length then R.ok ((demP (inB uses) env).set i (.ow d)) else .no).out .nx) := q
  refine askN st q' hf fun d a o Fu F' H' z x ha ho q2 => ?_
  have q3 : Cont C F0 H0 E' (if true && !fresh e then .no else (if i < (demP (inB uses) env).length then R.ok ((demP (inB uses) env).set i (.ow d)) else .no).out .nx) := q2
  split at q3
  · exact False.elim q3
  · split at q3
    · rename_i hi
      exact q3 F' _ _ ((st.keep z x).setOw hi ha ho)
    · exact False.elim q3
theorem s_set {i : Nat} {x : Str} {e : Expr} {te : E} {pos' : Pos} {uses : List Nat} (hN : X.N.Nodup) (hi : X.N[i]? = some x) (hx : Loc X.env.scope x) (hf : X.fn x = true ∨ X.env.scope.names.lookup x = some .local) (he : PE X e (C.rd te)) (hs : swapsWith e (some (.Name x pos')) pos.line X.env = pure false) :
    PS X (.Assign [.Name x pos'] e pos) (C.rs refu (.asg (.one i) te false uses)) := PS.weak (ps_set hN hi hx he hs hf) fun _ _ _ h => asg1_core h
theorem s_setN {i : Nat} {x : Str} {e : Expr} {te : E} {pos' : Pos} {uses : List Nat} (hN : X.N.Nodup) (hi : X.N[i]? = some x) (hx : Loc X.env.scope x) (hf : X.fn x = true ∨ X.env.scope.names.lookup x = some .local) (he : PE X e (C.rn te)) (hn : ∀ env d, ev C.glob C.fn te env = .ok d → (∃ ds, d = .lst ds) ∨ ∃ ks ds, d = .dic ks ds) (hs : swapsWith e (some (.Name x pos')) pos.line X.env = pure false) :
    PS X (.Assign [.Name x pos'] e pos) (C.rs refu (.asg (.one i) te true uses)) := PS.weak (ps_set hN hi hx he hs hf) fun _ _ _ h => asgN_core hn h
theorem ownAt_ne (env : Env) (i : Nat) (c : Nat) : ownAt env i ≠ .ex c := by
  unfold ownAt
  split <;> (intro h; cases h)
theorem ownAt_ok {env : Env} {i : Nat} {d : D} (h : ownAt env i = .ok d) : env[i]? = some (.ow d) := by
  unfold ownAt at h
  split at h
  · rename_i e; cases h; exact e
  · cases h
/-- l.append(e) -/
theorem s_app {i : Nat} {x : Str} {e : Expr} {te : E} {p1 ap cp : Pos} {uses : List Nat} (G : Gd0 X C) (hi : X.N[i]? = some x) (hv : Vis X.env.scope x) (hp : plainName x = true) (he : PE X e (C.rd te)) (hn : NoStar e) (hline : (ap.endLine == cp.line) = true) :
    PS X (.Expr (.Call (.Attribute (.Name x p1) "append" ap) [e] [] cp) pos) (C.rs refu (.app i te uses)) := by
  have hfew : ((backTo cp (starEach [e] X.env)).all (fun x => !x.1) && (backToKw cp (keywordEach [] X.env)).all (fun x => x.1.isSome)
      && decide (([e] : List Expr).length + ([] : List Keyword).length + (if ([] : List Keyword).isEmpty then 0 else 1) < 30)) = true := by rw [hn [] X.env]; rfl
  refine PS.weak (ps_expr (pe_bm PySem.F.plainAttrs_list PySem.F.slot_list_append PySem.F.type_list_append mt_append (pe_var hi hv (plain1 hp).1 (plain1 hp).2.1) (pa_cons he pa_nil (hn [] X.env)) rfl hfew hline (hn [] X.env) rfl) rfl) fun E' σ H ⟨F0, H0, F, env, st, q⟩ => ?_
  have q0 : Cont C F0 H0 E' ((ownAt env i).out fun o => match o with
    | .lst xs => (ev C.glob C.fn te (maskP (inB uses) env)).out fun d => (ownAt (after d uses env) i).out fun _ =>
      if xs.length < lim then .nx ((after d uses env).set i (.ow (.lst (xs ++ [d])))) else .no
    | _ => .no) := q
  obtain ⟨o, ho, q1⟩ := out_ok (ownAt_ne env i) q0
  have how := ownAt_ok ho
  obtain ⟨a, ob, h1, h2, h3, h4, h5⟩ := st.ow i o how
  cases o with
  | lst xs =>
    obtain ⟨ds, vs, e1, rfl, h6⟩ : ∃ ds vs, D.lst xs = .lst ds ∧ ob = .lst vs ∧ Reps C.K C.w F ds vs := by
      rcases h5 with h5 | ⟨_, _, _, e, _⟩
      · exact h5
      · cases e
    cases e1
    refine ⟨.ref a, h1, .inl ⟨rfl, vs, SqL.of h2⟩, ?_⟩
    refine ask st q1 fun d v Fu F' H' z x r q2 => ?_
    obtain ⟨F2, st2, r2⟩ := st.after z x r
    obtain ⟨o2, ho2, q3⟩ := out_ok (ownAt_ne _ i) q2
    have hlen : vs.length = xs.length := h6.length.symm
    have how2 := ownAt_ok ho2
    have e2 : o2 = .lst xs := by
      unfold Ev.after at how2
      split at how2
      · rw [how] at how2; cases how2; rfl
      · have := (dem_ow (p := inB uses) how2).1
        rw [how] at this; cases this; rfl
    subst e2
    obtain ⟨a', ob', g1, g2, g3, g4, g5⟩ := st2.ow i _ how2
    rw [h1] at g1
    cases g1
    obtain ⟨ds', vs', e3, rfl, g6⟩ : ∃ ds vs, D.lst xs = .lst ds ∧ ob' = .lst vs ∧ Reps C.K C.w F2 ds vs := by
      rcases g5 with g5 | ⟨_, _, _, e, _⟩
      · exact g5
      · cases e
    cases e3
    by_cases hz : xs.length < lim
    · rw [if_pos hz] at q3
      refine ⟨a, vs', v, rfl, rfl, g2, by rw [← g6.length, ← lim_eq]; exact hz, q3 F2 σ _ (st2.chOw how2 h1 (.inl ⟨_, _, rfl, rfl, Reps.append g6 (Reps.one r2)⟩))⟩
    · rw [if_neg hz] at q3; exact False.elim q3
  | _ => exact False.elim q1
end
end Ev

/-! Rows of statements, loops, raise, try. -/
namespace Ev
open PySem L2 PyProof.Rows RZ
section
variable {nm : Nm} {X : Cx} {C : Ct} {refu : Nat → R D} {pos : Pos}
theorem s_nil' : PSs X [] (C.rss refu []) := PSs.weak pss_nil fun E' σ H ⟨F0, H0, F, env, st, q⟩ => (show Cont C F0 H0 E' (.nx env) from q) F σ H st
theorem s_cons' {st : Stmt} {rest : List Stmt} {s : S} {ss : List S} (h1 : PS X st (C.rs refu s)) (h2 : PSs X rest (C.rss refu ss)) : PSs X (st :: rest) (C.rss refu (s :: ss)) :=
  PSs.weak (pss_cons h1 h2) fun E' σ H ⟨F0, H0, F, env, st, q⟩ => by
    have q' : Cont C F0 H0 E' (match exS C.glob C.fn refu s env with
      | .nx env' => exSs C.glob C.fn refu ss env'
      | .rt d => .rt d
      | .ex c => .ex c
      | .no => .no) := q
    refine ⟨F0, H0, F, env, st, ?_⟩
    cases e1 : exS C.glob C.fn refu s env with
    | nx env' => rw [e1] at q'; exact fun F' σ' H' st' => ⟨F0, H0, F', env', st', q'⟩
    | rt d => rw [e1] at q'; exact q'
    | ex c => rw [e1] at q'; exact q'
    | no => rw [e1] at q'; exact q'
theorem s_while {c : Expr} {tc : E} {body : List Stmt} {ts : List S} (hp : PassesOwn (model X.prog X.w) X.A X.env X.xe) (hc : PT X c (tB (C.rd tc))) (hb : PSs X body (C.rss refu ts)) : PS X (.While c body [] pos) (C.rs refu (.while_ tc ts)) :=
  PS.weak (ps_while hp hc hb) fun E' σ H ⟨F0, H0, F, env, st, q⟩ => by
    have q' : Cont C F0 H0 E' (whileGo (fun env' => (ev C.glob C.fn tc (open_ env')).bind asBool) (fun env' => exSs C.glob C.fn refu ts env') turns env) := q
    generalize hg : whileGo (fun env' => (ev C.glob C.fn tc (open_ env')).bind asBool) (fun env' => exSs C.glob C.fn refu ts env') turns env = out at q'
    refine ⟨fun n σ H => ∃ F env, StR C.K C.w F0 H0 F σ H env ∧ whileGo (fun env' => (ev C.glob C.fn tc (open_ env')).bind asBool) (fun env' => exSs C.glob C.fn refu ts env') n env = out, ⟨turns, F, env, st, hg⟩, ?_⟩
    rintro n σ H ⟨F, env, st, hw⟩
    cases n with
    | zero => rw [← hw] at q'; exact False.elim q'
    | succ n =>
      have hw' : (((ev C.glob C.fn tc (open_ env)).bind asBool).out fun b => if b then (match exSs C.glob C.fn refu ts env with
        | .nx env2 => whileGo (fun env' => (ev C.glob C.fn tc (open_ env')).bind asBool) (fun env' => exSs C.glob C.fn refu ts env') n env2
        | .rt d => .rt d
        | .ex c => .ex c
        | .no => .no) else .nx env) = out := hw
      rw [← hw'] at q'
      refine ask_bool st q' fun b H' hb1 st' q2 => ?_
      rw [hb1] at hw'
      cases b with
      | false => exact q2 F σ H' st'
      | true =>
        rw [if_pos rfl]
        refine ⟨fun σ2 H2 => ∃ F env, StR C.K C.w F0 H0 F σ2 H2 env ∧ whileGo (fun env' => (ev C.glob C.fn tc (open_ env')).bind asBool) (fun env' => exSs C.glob C.fn refu ts env') n env = out, fun σ2 H2 z => ⟨n, Nat.lt_succ_self n, z⟩, F0, H0, F, env, st', ?_⟩
        have hw2 : (match exSs C.glob C.fn refu ts env with
          | .nx env2 => whileGo (fun env' => (ev C.glob C.fn tc (open_ env')).bind asBool) (fun env' => exSs C.glob C.fn refu ts env') n env2
          | .rt d => .rt d
          | .ex c => .ex c
          | .no => .no) = out := hw'
        have q3 : Cont C F0 H0 E' (match exSs C.glob C.fn refu ts env with
          | .nx env2 => whileGo (fun env' => (ev C.glob C.fn tc (open_ env')).bind asBool) (fun env' => exSs C.glob C.fn refu ts env') n env2
          | .rt d => .rt d
          | .ex c => .ex c
          | .no => .no) := q2
        cases e2 : exSs C.glob C.fn refu ts env with
        | nx env2 => rw [e2] at hw2; exact fun F' σ' H2 st2 => ⟨F', env2, st2, hw2⟩
        | rt d => rw [e2] at q3; exact q3
        | ex c => rw [e2] at q3; exact q3
        | no => rw [e2] at q3; exact q3
theorem ext_re {F0 F1 H0 F H : Hp} (h : Ext F1 H0 F H) (s : Same F0 F1) (n : ∀ a, H0 a ≠ none → F0 a = none → F1 a = none) : Ext F0 H0 F H := ⟨s.trans h.sub, h.inH, h.same, fun a h1 h2 => h.new a h1 (n a h1 h2)⟩
theorem StR.re {K : PySem.W.Frag} {w : World} {F0 F1 H0 F H : Hp} {σ : L2.St} {env : Env} (h : StR K w F1 H0 F σ H env) (s : Same F0 F1) (n : ∀ a, H0 a ≠ none → F0 a = none → F1 a = none) : StR K w F0 H0 F σ H env := ⟨h.len, ext_re h.ext s n, h.sh, h.ow, h.inj⟩
theorem StR.self {K : PySem.W.Frag} {w : World} {F0 H0 F H : Hp} {σ : L2.St} {env : Env} (h : StR K w F0 H0 F σ H env) : StR K w F H0 F σ H env := ⟨h.len, ⟨Same.refl _, h.ext.inH, h.ext.same, fun _ _ e => e⟩, h.sh, h.ow, h.inj⟩
theorem Cont.re {F0 F1 H0 : Hp} {E' : Ends} {o : Out} (h : Cont C F0 H0 E' o) (s : Same F0 F1) (n : ∀ a, H0 a ≠ none → F0 a = none → F1 a = none) : Cont C F1 H0 E' o := by
  cases o with
  | nx env => exact fun F σ H st => h F σ H (st.re s n)
  | rt d => exact fun v F H x r => h v F H (ext_re x s n) r
  | ex c => exact h
  | no => exact h
theorem s_for {tg iter : Expr} {t : T} {k : Ik} {args : List E} {uses : List Nat} {body : List Stmt} {ts : List S} (hp : PassesOwn (model X.prog X.w) X.A X.env X.xe) (hc : X.calm = true) (hi : PI X tg iter (C.ri k args)) (hg : PG X tg (C.gt t)) (hb : PSs X body (C.rss refu ts))
    (hs : ∀ x, foldedSetIterable iter X.env x = pure x) : PS X (.For tg iter body [] pos) (C.rs refu (.for_ t k args uses ts)) :=
  PS.weak (ps_for hp hc hi hg hb hs) fun E' σ H ⟨F0, H0, F, env, st, q⟩ => by
    have q' : Cont C F0 H0 E' ((evs C.glob C.fn args (maskP (inB uses) env)).out fun ds => (walk k ds).out fun xs =>
      forGo (fun x env' => bind t x env') (fun env' => exSs C.glob C.fn refu ts env') xs (demP (inB uses) env)) := q
    obtain ⟨Fu, z⟩ := st.seen (inB uses)
    refine ⟨maskP (inB uses) env, Fu, z.envr, z.inH, ?_⟩
    cases e1 : evs C.glob C.fn args (maskP (inB uses) env) with
    | no => rw [e1] at q'; exact q'
    | ex c => rw [e1] at q'; exact fun H' s => q' σ H' (st.ext.same.trans s)
    | ok ds =>
      rw [e1] at q'
      have eb : Ev.R.bind (.ok ds) (walk k) = walk k ds := rfl
      rw [eb]
      obtain ⟨xs, e2, q2⟩ := out_ok (walk_ne k ds) (show Cont C F0 H0 E' ((walk k ds).out _) from q')
      rw [e2]
      intro J F1 H1 x1 wd
      generalize hgo : forGo (fun x env' => bind t x env') (fun env' => exSs C.glob C.fn refu ts env') xs (demP (inB uses) env) = out at q2
      have st1 := st.keep z x1
      replace q2 := q2.re st1.ext.sub st1.ext.new
      refine for_it wd (fun i σ H => ∃ F env, StR C.K C.w F1 H0 F σ H env ∧ forGo (fun x env' => bind t x env') (fun env' => exSs C.glob C.fn refu ts env') (xs.drop i) env = out) ⟨F1, _, st1.self, hgo⟩ ?_ ?_ ?_
      · rintro i σ H hi ⟨F, env, st, _⟩
        exact st.ext.sub.trans st.ext.inH
      · rintro i x σ H H' hi ⟨F, env, st, hgo⟩ hY
        obtain ⟨F2, d, x2, hd, rd⟩ := hY F st.ext.sub st.ext.inH
        have hdrop : xs.drop i = d :: xs.drop (i + 1) := by
          rw [List.drop_eq_getElem_cons hi]
          have : xs[i] = d := by
            rw [List.getElem?_eq_getElem hi] at hd
            exact Option.some.inj hd
          rw [this]
        rw [hdrop] at hgo
        have hgo' : ((bind t d env).out fun env' => match exSs C.glob C.fn refu ts env' with
          | .nx env2 => forGo (fun x env' => bind t x env') (fun env' => exSs C.glob C.fn refu ts env') (xs.drop (i + 1)) env2
          | .rt d => .rt d
          | .ex c => .ex c
          | .no => .no) = out := hgo
        have st2 := st.grow x2
        rw [← hgo'] at q2
        obtain ⟨env', hb', q3⟩ := out_ok (bind_ne' t d env) q2
        rw [hb'] at hgo'
        have hgo2 : (match exSs C.glob C.fn refu ts env' with
          | .nx env2 => forGo (fun x env' => bind t x env') (fun env' => exSs C.glob C.fn refu ts env') (xs.drop (i + 1)) env2
          | .rt d => .rt d
          | .ex c => .ex c
          | .no => .no) = out := hgo'
        refine ⟨F2, d, env, env', st2.ext.inH, rd, st2.len, hb', fun σ2 wr => ⟨F1, H0, F2, env', st2.bind hb' wr, ?_⟩⟩
        cases e3 : exSs C.glob C.fn refu ts env' with
        | nx env2 => rw [e3] at hgo2; exact fun F' σ' H2 st3 => ⟨F', env2, st3, hgo2⟩
        | rt d => rw [e3] at q3; exact q3
        | ex c => rw [e3] at q3; exact q3
        | no => rw [e3] at q3; exact q3
      · rintro σ H ⟨F, env, st, hgo⟩
        rw [List.drop_length] at hgo
        have hgo' : Out.nx env = out := hgo
        rw [← hgo'] at q2
        exact q2 F σ H st
/-- raise X('..') -/
theorem s_raise {e : Expr} {c : Nat} {d : D} (hc : X.calm = true) (tk : L2N.Takes X C.W) (he : L2N.PMk X e (fun _ H Q => Q (.ref (C.ca c)) none H)) : PS X (.Raise (some e) none pos) (C.rs refu (.raise c (.lit d))) :=
  PS.weak (L2N.ps_raise hc tk he) fun E' σ H ⟨F0, H0, F, env, st, q⟩ => (show Cont C F0 H0 E' (.ex c) from q) σ H st.ext.same
/-- what a refusal is told as, from within the suite that holds it -/
def Ct.rf (C : Ct) (refu : Nat → R D) (i : Nat) (a : Addr) (cls : Value) (dd : Option Addr) : TE := fun σ H Q => σ[i]? = some (some (.ref a)) ∧ dd = none ∧ H a = none ∧ ∃ c F, cls = .ref (C.ca c) ∧ Same F H ∧ fin C.K C.w (refu c) F H Q fun _ _ => False
theorem s_try {e : Expr} {t : E} {ax n rf : Str} {i : Nat} {cA : Value} {np p1 q1 q2 q3 q4 pos' : Pos} (hs : X.stack = X.env :: X.outer) (hf : X.env.frame = some X.env.locals) (hN : X.N.Nodup) (hi : X.N[i]? = some n) (hln : X.env.kindOf n = some .local) (hc : Names X ax cA) (tk : L2N.Takes X C.W)
    (he : ∀ (W : WX) (pn : List (Addr × Obj)) (xe : Value → Shared → Prop), L2N.Takes (X.tr pn xe) W → PE (X.tr pn xe) e (({ C with W := W } : Ct).rd t))
    (hsu : ∀ (a : Addr) (oe : Obj) (cls : Value) (d : Option Addr) (pn : List (Addr × Obj)), L2N.Zn cls d oe → (∃ vs, oe.data = .fields vs) → PE (X.suite a ((a, oe) :: pn)) (.Call (.Name rf q1) [.Name n q2] [] q3) (C.rf refu i a cls d))
    (hx : ∀ c d, refu c = .ok d → PySem.W.exmOne X.K (.ref (C.ca c)) cA = some true) (hr : ∀ c k, refu c ≠ .ex k) (hl : i < X.N.length) :
    PS X (.Try [.Return (some e) p1] [.ExceptHandler (some (.Name ax np)) (some n) [.Return (some (.Call (.Name rf q1) [.Name n q2] [] q3)) q4] pos'] [] [] pos) (C.rs refu (.tryR t i)) := by
  refine ⟨fun pins s σ H E' I h => ?_⟩
  refine (L2N.ps_try_as (tb := fun W => tRet (({ C with W := W } : Ct).rd t)) (ts := fun a cls d => tRet (C.rf refu i a cls d)) hs hf hN hi hln hc tk (fun W pn xe tk' _ => pss_one (ps_ret (he W pn xe tk'))) (fun a oe cls d pn hz hfl => pss_one (ps_ret (hsu a oe cls d pn hz hfl)))).run pins s σ H E' I ?_
  obtain ⟨F0, H0, F, env, st, q⟩ := h
  have q' : Cont C F0 H0 E' (match ev C.glob C.fn t (open_ env) with
    | .ok d => .rt d
    | .ex c => (refu c).out .rt
    | .no => .no) := q
  rw [open_eq] at q'
  obtain ⟨Fu, z⟩ := st.seen fun _ => true
  refine ⟨_, Fu, z.envr, z.inH, ?_⟩
  show fin C.K C.w (ev C.glob C.fn t (maskP (fun _ => true) env)) Fu H _ _
  cases e1 : ev C.glob C.fn t (maskP (fun _ => true) env) with
  | no => rw [e1] at q'; exact q'
  | ok d => rw [e1] at q'; exact fun v F' H' x r => q' v F' H' (st.keep z x).ext r
  | ex c =>
    rw [e1] at q'
    intro H' s1
    obtain ⟨d, e2, q2⟩ := out_ok (hr c) (show Cont C F0 H0 E' ((refu c).out .rt) from q')
    have hil : i < σ.length := by rw [I.len]; exact hl
    refine ⟨true, hx c d e2, fun _ a ha => ?_, fun z => nomatch z⟩
    refine ⟨List.getElem?_set_self hil, rfl, ha, c, F, rfl, st.ext.inH.trans s1, ?_⟩
    rw [e2]
    intro v F2 H2 x2 r2
    exact q2 v F2 H2 ⟨st.ext.sub.trans x2.sub, x2.inH, st.ext.same.trans (s1.trans x2.same), fun a h1 h2 => x2.new a (fun z => by
      cases q : H0 a with
      | none => exact h1 q
      | some o => rw [s1 a o (st.ext.same a o q)] at z; cases z) (st.ext.new a h1 h2)⟩ r2
end
end Ev

/-! From the text's statements to S, and that it is right. -/
namespace Ev
open PySem L2 PyProof.Rows RZ

mutual
def usesE : E → List Nat
  | .nul => []
  | .var i => [i]
  | .lit _ => []
  | .glo _ => []
  | .tup es => usesL es
  | .lst es => usesL es
  | .dct _ vs => usesL vs
  | .bin _ a b => usesE a ++ usesE b
  | .neg a => usesE a
  | .cmp _ a b => usesE a ++ usesE b
  | .cmp2 _ _ a b c => usesE a ++ (usesE b ++ usesE c)
  | .and_ a b => usesE a ++ usesE b
  | .or_ a b => usesE a ++ usesE b
  | .not_ a => usesE a
  | .ite c a b => usesE c ++ (usesE a ++ usesE b)
  | .idx a i => usesE a ++ usesE i
  | .slc a l u => usesE a ++ (usesE l ++ usesE u)
  | .rev a => usesE a
  | .call _ es => usesL es
  | .isi a _ => usesE a
  | .isx i _ _ => [i]
  | .bi1 _ a => usesE a
  | .bi2 _ a b => usesE a ++ usesE b
  | .mt1 _ o a => usesE o ++ usesE a
  | .lc e _ _ args c _ => usesE e ++ (usesL args ++ usesL c)
def usesL : List E → List Nat
  | [] => []
  | e :: es => usesE e ++ usesL es
end
def notComp : Expr → Bool
  | .ListComp .. => false
  | .SetComp .. => false
  | .DictComp .. => false
  | _ => true
def notTup : Expr → Bool
  | .Tuple .. => false
  | _ => true
theorem notComp_sw {e : Expr} (h : notComp e = true) (t : Option Expr) (l : Nat) (env : PySem.Env) : swapsWith e t l env = pure false := by
  cases e <;> first | rfl | cases h
theorem sole_sw {e : Expr} (h : notComp e = true) (t : Expr) (l : Nat) (env : PySem.Env) : swapsWithSole [t] e l env = pure false := notComp_sw h (some t) l env
theorem notTup_sw {e tg : Expr} (h : notTup e = true) (env : PySem.Env) : swappedStores [tg] e env = pure none := by
  cases e <;> first | (cases tg <;> rfl) | cases h
def ownIn (s : Scope) (y : Str) : Bool := s.names.any fun (n, k) => n == y && (k == .local || k == .cell)
/-- the comprehension is stored from within -/
def swB (sc : Scope) (x : Str) (p : Pos) : Expr → Bool
  | .ListComp _ _ s pos => decide (sc.names.lookup x = some .local) && ((p.line == pos.line) && !ownIn s x)
  | _ => false
def notSD : Expr → Bool
  | .SetComp .. => false
  | .DictComp .. => false
  | _ => true
theorem sw_lc {elt : Expr} {gs : List Comprehension} {scope : Scope} {pos py : Pos} {y : Str} {l : Nat} {env : PySem.Env} :
    swapsWith (.ListComp elt gs scope pos) (some (.Name y py)) l env = pure (env.blockKind == .function && env.kindOf y == some .local && py.line == pos.line && !(scope.names.any fun (n, k) => n == y && (k == .local || k == .cell))) := rfl
theorem sw_no {e : Expr} {x : Str} {p : Pos} {l : Nat} {env : PySem.Env} (hd : notSD e = true) (h : swB env.scope x p e = false) : swapsWith e (some (.Name x p)) l env = pure false := by
  cases e with
  | ListComp elt gs scope pos =>
    rw [sw_lc]
    have h' : (decide (env.scope.names.lookup x = some .local) && ((p.line == pos.line) && !ownIn scope x)) = false := h
    have e2 : (env.kindOf x == some NameKind.local) = decide (env.scope.names.lookup x = some .local) := by
      show (env.scope.names.lookup x == some NameKind.local) = _
      cases hb : (env.scope.names.lookup x == some NameKind.local) with
      | true => rw [decide_eq_true (eq_of_beq hb)]
      | false => exact (decide_eq_false (fun z => by rw [z] at hb; simp at hb)).symm
    have e3 : (env.blockKind == .function && env.kindOf x == some .local && p.line == pos.line && !(scope.names.any fun (n, k) => n == x && (k == .local || k == .cell))) = (env.blockKind == .function && (decide (env.scope.names.lookup x = some .local) && ((p.line == pos.line) && !ownIn scope x))) := by
      rw [e2]
      unfold ownIn
      rw [Bool.and_assoc, Bool.and_assoc]
    rw [e3, h', Bool.and_false]
  | SetComp _ _ _ _ => cases hd
  | DictComp _ _ _ _ _ => cases hd
  | _ => rfl

section
variable (tb : Tb) (N : List Str) (sc : Scope) (ow : List Str)
def cAsg (f : Expr → Option E) (tg e : Expr) : Option S :=
  match tg with
  | .Name x p => if okIn sc x && (plainName x && notSD e) then (posOf x N).bind fun i => (f e).map fun t => .asg (.one i) t (decide (x ∈ ow) && fresh t) (usesE t) else none
  | .Tuple es _ _ => if notTup e && notComp e then (compT N 20 tg).bind fun t => (f e).bind fun te => if chkT N (okIn sc) t tg then some (.asg t te false (usesE te)) else none else none
  | _ => none
def cRaise (e : Expr) : Option S :=
  match e with
  | .Call (.Name x _) [.Constant (.str m) _ _] [] _ => if glB sc x && plainName x then (posOf x tb.cs).map fun c => .raise c (.lit .non) else none
  | _ => none
def cExpr (f : Expr → Option E) (e : Expr) : Option S :=
  match e with
  | .Call (.Attribute (.Name x _) m ap) [a] [] cp => if m = "append" && (locB sc x && (plainName x && (noStarB a && ap.endLine == cp.line))) then (posOf x N).bind fun i => (f a).map fun t => .app i t (usesE t) else none
  | e => if notComp e then (f e).map .exp else none
def cTry (f : Expr → Option E) (body : List Stmt) (hs : List ExceptHandler) : Option S :=
  match body, hs with
  | [.Return (some e) _], [.ExceptHandler (some (.Name ax _)) (some n) [.Return (some (.Call (.Name rf _) [.Name n2 _] [] _)) _] _] =>
    if ax = "AskError" && (glB sc ax && (rf = "_law_refused" && (glB sc rf && (n2 = n && (decide (sc.names.lookup n = some .local) && plainName n))))) then (posOf n N).bind fun i => (f e).map fun t => .tryR t i else none
  | _, _ => none
def compSs (g : Stmt → Option S) : List Stmt → Option (List S)
  | [] => some []
  | s :: r => (g s).bind fun t => (compSs g r).map (t :: ·)
def compS : Nat → Stmt → Option S
  | 0, _ => none
  | n + 1, st => match st with
    | .Assign [tg] e _ => cAsg N sc ow (comp tb N 60 sc) tg e
    | .Expr e _ => cExpr N sc (comp tb N 60 sc) e
    | .Return (some e) _ => (comp tb N 60 sc e).map S.ret
    | .If c a b _ => if tst0 c then (comp tb N 60 sc c).bind fun tc => (compSs (compS n) a).bind fun ta => (compSs (compS n) b).map (S.ite tc ta) else none
    | .For tg iter body [] _ => if notSet iter then (cIter (comp tb N 60 sc) sc tg iter).bind fun ka => (compT N 20 tg).bind fun t => (compSs (compS n) body).bind fun ts => if chkT N (okIn sc) t tg then some (.for_ t ka.1 ka.2 (usesL ka.2) ts) else none else none
    | .While c body [] _ => if tst0 c then (comp tb N 60 sc c).bind fun tc => (compSs (compS n) body).map (S.while_ tc) else none
    | .Raise (some e) none _ => cRaise tb sc e
    | .Try body hs [] [] _ => cTry N sc (comp tb N 60 sc) body hs
    | _ => none
end

/-- what holds while a def's body runs -/
structure Gs (tb : Tb) (X : Cx) (C : Ct) (refu : Nat → R D) : Prop extends Gd tb.nm X C where
  hp : PassesOwn (model X.prog X.w) X.A X.env X.xe
  hk : X.env.scope.kind = .function
  hst : X.stack = X.env :: X.outer
  hfr : X.env.frame = some X.env.locals
  hfn : ∀ x, X.fn x = true
  exc : ∀ c x, tb.cs[c]? = some x → X.mg x = some (.ref (C.ca c)) ∧ PySem.W.excIn X.K (C.ca c) He.veBase "ValueError.__new__" = true ∧ PySem.W.keepIn X.K (.ref (C.ca c)) = true ∧ Raises X (.ref (C.ca c))
  ask : ∃ cA, X.mg "AskError" = some cA ∧ ∀ c d, refu c = .ok d → PySem.W.exmOne X.K (.ref (C.ca c)) cA = some true
  hot : ∀ (i : Nat) (n : Str) (q1 q2 q3 : Pos), X.N[i]? = some n → Vis X.env.scope n → plainName n = true → Gl X "_law_refused" → ∀ (a : Addr) (oe : Obj) (cls : Value) (d : Option Addr) (pn : List (Addr × Obj)), L2N.Zn cls d oe → (∃ vs, oe.data = .fields vs) →
    PE (X.suite a ((a, oe) :: pn)) (.Call (.Name "_law_refused" q1) [.Name n q2] [] q3) (C.rf refu i a cls d)
  rne : ∀ c k, refu c ≠ .ex k
section
variable {tb : Tb} {X : Cx} {C : Ct} {refu : Nat → R D}
theorem okIn_loc {sc : Scope} {x : Str} (h : okIn sc x = true) : Loc sc x := by
  unfold okIn at h
  split at h
  · exact .inl (by assumption)
  · exact .inr (by assumption)
  · cases h
theorem gd_tr (G : Gd tb.nm X C) (W : WX) (pn : List (Addr × Obj)) (xe : Value → Shared → Prop) (tk : L2N.Takes (X.tr pn xe) W) : Gd tb.nm (X.tr pn xe) { C with W := W } where
  hK := G.hK
  hw := G.hw
  nd := G.nd
  hu := G.hu
  calm := G.calm
  takes := tk
  blt := G.blt
  glo := G.glo
  gno := G.gno
  fns := G.fns
theorem dDict_new (d r : D) (h : dDict d = .ok r) : (∃ ds, r = .lst ds) ∨ ∃ ks ds, r = .dic ks ds := by
  unfold dDict at h
  split at h
  · cases h; exact .inr ⟨_, _, rfl⟩
  · split at h
    · split at h
      · cases h; exact .inr ⟨_, _, rfl⟩
      · cases h
    · cases h
  · split at h
    · split at h
      · cases h; exact .inr ⟨_, _, rfl⟩
      · cases h
    · cases h
  · cases h
theorem sorted_new (d r : D) (h : Ev.sorted d = .ok r) : (∃ ds, r = .lst ds) ∨ ∃ ks ds, r = .dic ks ds := by
  unfold Ev.sorted at h
  split at h
  · split at h
    · split at h
      · cases h; exact .inl ⟨_, rfl⟩
      · split at h
        · cases h; exact .inl ⟨_, rfl⟩
        · cases h
    · cases h
  · split at h
    · split at h
      · cases h; exact .inl ⟨_, rfl⟩
      · cases h
    · cases h
  · cases h
theorem fresh_new {C : Ct} {X : Cx} {e : Expr} {t : E} (h : Res X C e t) (hf : fresh t = true) : ∀ env d, ev C.glob C.fn t env = .ok d → (∃ ds, d = .lst ds) ∨ ∃ ks ds, d = .dic ks ds := by
  intro env d hd
  cases t <;> first | cases hf | skip
  · exact lst_new env d hd
  · exact dct_new env d hd
  · rename_i f a
    cases f <;> first | cases hf | skip
    · exact list_new env d hd
    · obtain ⟨x, h1, h2⟩ := R.bind_eq_ok (show R.bind (ev C.glob C.fn a env) _ = .ok d from hd)
      exact dDict_new x d h2
    · obtain ⟨x, h1, h2⟩ := R.bind_eq_ok (show R.bind (ev C.glob C.fn a env) _ = .ok d from hd)
      exact sorted_new x d h2
  · exact lc_new env d hd
theorem cAsg_ok (G : Gs tb X C refu) {ow : List Str} {tg e : Expr} {s : S} {pos : Pos} (h : cAsg X.N X.env.scope ow (comp tb X.N 60 X.env.scope) tg e = some s) : PS X (.Assign [tg] e pos) (C.rs refu s) := by
  have hf : Rc X C (comp tb X.N 60 X.env.scope) := fun e t h => comp_ok 60 G.toGd e t h
  unfold cAsg at h
  split at h
  · rename_i x p
    split at h
    · rename_i hc
      rw [Bool.and_eq_true, Bool.and_eq_true] at hc
      obtain ⟨i, h1, h2⟩ := Option.bind_eq_some_iff.mp h
      obtain ⟨t, h3, rfl⟩ := Option.map_eq_some_iff.mp h2
      have hi := posOf_at h1
      have hl := okIn_loc hc.1
      have r := hf _ _ h3
      cases hsw : swB X.env.scope x p e with
      | false =>
        have hs := sw_no (l := pos.line) hc.2.2 hsw
        cases ho : decide (x ∈ ow) && fresh t with
        | false => exact s_set G.nd hi hl (.inl (G.hfn x)) r.pe hs
        | true =>
          have hfr := (Bool.and_eq_true_iff.mp ho).2
          exact s_setN G.nd hi hl (.inl (G.hfn x)) (r.pn hfr) (fresh_new r hfr) hs
      | true =>
        cases e <;> first | cases hsw | skip
        rename_i elt gs scope lpos
        have hsw' : decide (X.env.scope.names.lookup x = some .local) = true ∧ ((p.line == lpos.line) = true ∧ (!ownIn scope x) = true) := by
          have := Bool.and_eq_true_iff.mp hsw
          exact ⟨this.1, Bool.and_eq_true_iff.mp this.2⟩
        have hloc := of_decide_eq_true hsw'.1
        have h3' : cLc X.N (comp tb X.N 59 X.env.scope) (comp tb X.N 59 (relS scope X.env.scope)) X.env.scope elt scope gs = some t := h3
        obtain ⟨tg', iter, ifs, te, tt, k, args, cs, rfl, rfl, L⟩ := cLc_ok G.toGd (fun e t h => comp_ok 59 G.toGd e t h) (fun s H A cl fp e t h => comp_ok 59 (gd_blk G.toGd s H _ _ fp) e t h) h3'
        have key := ps_setLc (spos := pos) (py := p) G.calm G.nd hi hloc (sw_true G.hk hloc hsw'.2.1 (by simpa [ownIn] using hsw'.2.2)) L.hi L.ok L.hg L.ht L.he L.hs (pos := lpos)
        cases ho : decide (x ∈ ow) with
        | false =>
          refine PS.weak key fun E' σ H h => ?_
          have h' := asg1_core (show C.rs refu (.asg (.one i) (.lc te tt k args cs _) false _) E' σ H from h)
          have hrn : C.rn (.lc te tt k args cs ((ownOf X.N scope.names).map (·.2))) σ H (fun x H1 => gName i x σ H1 E'.nx) := by
            obtain ⟨env, F, he, hs, q⟩ := h'
            refine ⟨env, F, he, hs, ?_⟩
            cases e1 : ev C.glob C.fn (.lc te tt k args cs ((ownOf X.N scope.names).map (·.2))) env with
            | no => rw [e1] at q; exact q
            | ex c => rw [e1] at q; exact q
            | ok d =>
              rw [e1] at q
              rcases lc_new env d e1 with ⟨ds, rfl⟩ | ⟨ks, ds, rfl⟩
              · exact fun p vs F' H' x hp r => fin_lst (fin_mono x q) x.inH r p hp
              · exact fun p kvs F' H' x hp h1 h2 h3 => q (.ref p) _ _ (x.trans (Ext.new1 (.dK kvs) x.inH hp)) ⟨p, kvs, rfl, upd_same, h1, h2, Reps.mono (same_upd (x.inH.free hp)) ds _ h3⟩
          exact lc_core' rfl L.sub hrn
        | true =>
          refine PS.weak key fun E' σ H h => ?_
          have h' := asgN_core (lc_new) (show C.rs refu (.asg (.one i) (.lc te tt k args cs _) true _) E' σ H from h)
          exact lc_core' rfl L.sub h'
    · cases h
  · split at h
    · rename_i hc
      rw [Bool.and_eq_true] at hc
      obtain ⟨t, h1, h2⟩ := Option.bind_eq_some_iff.mp h
      obtain ⟨te, h3, h4⟩ := Option.bind_eq_some_iff.mp h2
      split at h4
      · rename_i hk
        cases h4
        exact s_asg (hf _ _ h3).pe (s_tgt G.hK G.nd G.calm (ok := okIn X.env.scope) (fun x hx => ⟨okIn_loc hx, .inl (G.hfn x)⟩) t _ hk) (sole_sw hc.2 _ _ _) (notTup_sw hc.1 _) rfl
      · cases h4
    · cases h
  · cases h
theorem cRaise_ok (G : Gs tb X C refu) {e : Expr} {s : S} {pos : Pos} (h : cRaise tb X.env.scope e = some s) : PS X (.Raise (some e) none pos) (C.rs refu s) := by
  unfold cRaise at h
  split at h
  · split at h
    · rename_i hc
      rw [Bool.and_eq_true] at hc
      obtain ⟨c, h1, rfl⟩ := Option.map_eq_some_iff.mp h
      obtain ⟨g1, g2, g3, g4⟩ := G.exc c _ (posOf_at h1)
      exact s_raise G.calm G.takes (L2N.pmk_own PySem.F.excBase_ValueError g2 g1 g3 g4 (glB_gl hc.1) (plain1 hc.2).1)
    · cases h
  · cases h
theorem cExpr_ok (G : Gs tb X C refu) {e : Expr} {s : S} {pos : Pos} (h : cExpr X.N X.env.scope (comp tb X.N 60 X.env.scope) e = some s) : PS X (.Expr e pos) (C.rs refu s) := by
  have hf : Rc X C (comp tb X.N 60 X.env.scope) := fun e t h => comp_ok 60 G.toGd e t h
  unfold cExpr at h
  split at h
  · split at h
    · rename_i hc
      rw [Bool.and_eq_true, Bool.and_eq_true, Bool.and_eq_true, Bool.and_eq_true, decide_eq_true_eq] at hc
      obtain ⟨rfl, h1, h2, h3, h4⟩ := hc
      obtain ⟨i, q1, q2⟩ := Option.bind_eq_some_iff.mp h
      obtain ⟨t, q3, rfl⟩ := Option.map_eq_some_iff.mp q2
      exact s_app G.toGd0 (posOf_at q1) (locB_vis h1) h2 (hf _ _ q3).pe (noStar_of h3) h4
    · cases h
  · split at h
    · rename_i hc
      obtain ⟨t, q3, rfl⟩ := Option.map_eq_some_iff.mp h
      exact s_exp (hf _ _ q3).pe (notComp_sw hc _ _ _)
    · cases h
theorem cTry_ok (G : Gs tb X C refu) {body : List Stmt} {hs : List ExceptHandler} {s : S} {pos : Pos} (h : cTry X.N X.env.scope (comp tb X.N 60 X.env.scope) body hs = some s) : PS X (.Try body hs [] [] pos) (C.rs refu s) := by
  unfold cTry at h
  split at h
  · split at h
    · rename_i hc
      simp only [Bool.and_eq_true, decide_eq_true_eq] at hc
      obtain ⟨rfl, h1, rfl, h2, rfl, h3, h4⟩ := hc
      obtain ⟨i, q1, q2⟩ := Option.bind_eq_some_iff.mp h
      obtain ⟨t, q3, rfl⟩ := Option.map_eq_some_iff.mp q2
      obtain ⟨cA, m1, m2⟩ := G.ask
      have hi := posOf_at q1
      exact s_try G.hst G.hfr G.nd hi h3 ⟨glB_gl h1, by decide, .inl m1⟩ G.takes (fun W pn xe tk => (comp_ok 60 (gd_tr G.toGd W pn xe tk) _ _ q3).pe)
        (fun a oe cls d pn hz hfl => G.hot i _ _ _ _ hi (.inl h3) h4 (glB_gl h2) a oe cls d pn hz hfl) m2 G.rne (List.getElem?_eq_some_iff.mp hi).1
    · cases h
  · cases h
theorem compSs_ok {g : Stmt → Option S} (hg : ∀ st s, g st = some s → PS X st (C.rs refu s)) : ∀ {sts : List Stmt} {ss : List S}, compSs g sts = some ss → PSs X sts (C.rss refu ss)
  | [], ss, h => by cases h; exact s_nil'
  | st :: r, ss, h => by
    obtain ⟨t, h1, h2⟩ := Option.bind_eq_some_iff.mp (show (g st).bind _ = some ss from h)
    obtain ⟨r', h3, rfl⟩ := Option.map_eq_some_iff.mp h2
    exact s_cons' (hg _ _ h1) (compSs_ok hg h3)
theorem compS_ok (G : Gs tb X C refu) {ow : List Str} : ∀ (n : Nat) (st : Stmt) (s : S), compS tb X.N X.env.scope ow n st = some s → PS X st (C.rs refu s)
  | 0, _, _, h => by cases h
  | n + 1, st, s, h => by
    have hf : Rc X C (comp tb X.N 60 X.env.scope) := fun e t h => comp_ok 60 G.toGd e t h
    have hg := compS_ok G (ow := ow) n
    unfold compS at h
    split at h
    · exact cAsg_ok G h
    · exact cExpr_ok G h
    · obtain ⟨t, h1, rfl⟩ := Option.map_eq_some_iff.mp h
      exact s_ret (hf _ _ h1).pe
    · split at h
      · rename_i ht
        obtain ⟨tc, h1, h2⟩ := Option.bind_eq_some_iff.mp h
        obtain ⟨ta, h3, h4⟩ := Option.bind_eq_some_iff.mp h2
        obtain ⟨tb', h5, rfl⟩ := Option.map_eq_some_iff.mp h4
        exact s_ifs ((hf _ _ h1).pt ht) (compSs_ok hg h3) (compSs_ok hg h5)
      · cases h
    · split at h
      · rename_i hn
        obtain ⟨ka, h1, h2⟩ := Option.bind_eq_some_iff.mp h
        obtain ⟨t, h3, h4⟩ := Option.bind_eq_some_iff.mp h2
        obtain ⟨ts, h5, h6⟩ := Option.bind_eq_some_iff.mp h4
        split at h6
        · rename_i hk
          cases h6
          exact s_for G.hp G.calm (cIter_ok G.toGd hf h1) (s_tgt G.hK G.nd G.calm (ok := okIn X.env.scope) (fun x hx => ⟨okIn_loc hx, .inl (G.hfn x)⟩) t _ hk) (compSs_ok hg h5) (notSet_it hn _)
        · cases h6
      · cases h
    · split at h
      · rename_i ht
        obtain ⟨tc, h1, h2⟩ := Option.bind_eq_some_iff.mp h
        obtain ⟨ts, h3, rfl⟩ := Option.map_eq_some_iff.mp h2
        exact s_while G.hp ((hf _ _ h1).pt ht) (compSs_ok hg h3)
      · cases h
    · exact cRaise_ok G h
    · exact cTry_ok G h
    · cases h
end
end Ev

/-! The def that tells a refusal, called within the suite that holds it. -/
namespace Ev
open PySem PySem.Spec L2 PyProof.Rows RZ L2H

section
variable {X : Cx} {C : Ct}
theorem call_isP {a K' : Addr} {oe : Obj} (hin : (a, oe) ∈ X.pn) (T : ExcC X.K K') (hz : Zc (.ref K') none oe) (hf : ∃ vs, oe.data = .fields vs) : CallR X (.builtin "isinstance") (rIsE X.K K' a) := by
  intro pins s σ H xs us Q I r h
  obtain ⟨c, cv, b, e1, hcv, e, q⟩ := h
  subst e1
  cases r with
  | cons rx rr =>
    cases rr with
    | cons rt rr =>
      cases rr
      cases rx
      have ec := hcv _ rt
      subst ec
      have hget := (I.pin (a, oe) (List.mem_append_left _ hin)).1
      obtain ⟨vs, hv⟩ := hf
      have J : PySem.W.InstAt s.heap a oe K' none := by
        cases oe
        obtain ⟨h1, h2⟩ := hz
        dsimp only at h1 h2 hv
        subst h1
        subst h2
        subst hv
        exact ⟨hget, rfl, rfl, trivial⟩
      have kx := PySem.W.handS_kitx_exc (x := a) (ox := oe) T.hg T.hk T.hs T.hd T.ha T.hn T.ht T.hm
      exact PySem.W.kia_one kx I.kIn J e (fun z => nomatch z) fun tk => ⟨.bl b, H, I.kept (t' := tk) (fun _ _ z => z), rfl, q⟩
/-- isinstance(e, c), by the class of what is held -/
theorem s_isx {i : Nat} {a K' : Addr} {oe : Obj} {b : Bool} {x c : Str} {cV : V} {cv : Value} {p1 p2 p3 pos : Pos} (hin : (a, oe) ∈ X.pn) (T : ExcC X.K K') (hz : Zc (.ref K') none oe) (hf : ∃ vs, oe.data = .fields vs) (hN : X.N[i]? = some x) (hv : Vis X.env.scope x) (hp : plainName x = true)
    (hg : Gl X "isinstance") (hm : X.mg "isinstance" = none) (hc : PE X (.Name c p3) (tC cV)) (hcv : ∀ u, RelV cV u → u = cv) (hk : PySem.W.kitOne X.K (.ref K') cv = some b) : PE X (.Call (.Name "isinstance" p1) [.Name x p2, .Name c p3] [] pos) (C.rd (.isx i a b)) := by
  refine PE.weak (pe_callB (call_isP hin T hz hf) hg hm (by decide +kernel) (pa_cons (pe_var hN hv (plain1 hp).1 (plain1 hp).2.1) (pa_cons hc pa_nil rfl) rfl) (by decide) (by decide) rfl rfl) fun σ H Q ⟨env, F, he, hs, q⟩ => ?_
  have q' : fin C.K C.w ((look env i).bind fun y => match y with
    | .adr a' => if a' = a then .ok (.bl b) else .no
    | _ => .no) F H Q _ := q
  cases e1 : look env i with
  | no => rw [e1] at q'; exact False.elim q'
  | ex k =>
    unfold look at e1
    split at e1
    · rename_i sl _
      cases sl <;> cases e1
    · cases e1
  | ok d =>
    rw [e1] at q'
    obtain ⟨v, h1, h2⟩ := he.2 i d e1
    cases d with
    | adr a' =>
      have q2 : fin C.K C.w (if a' = a then .ok (.bl b) else .no) F H Q _ := q'
      by_cases ea : a' = a
      · rw [if_pos ea] at q2
        subst ea
        obtain rfl : v = .ref a' := h2
        exact ⟨.ref a', h1, cV, cv, b, rfl, hcv, hk, fin_ok q2 hs rfl⟩
      · rw [if_neg ea] at q2; exact False.elim q2
    | _ => exact False.elim q'

/-! ### its text -/
variable (N : List Str) (sc : Scope) (ei : Nat) (a : Nat) (cl : Str → Option Bool)
def cIsx (f x c : Str) : Option E := if f = "isinstance" && (posOf x N == some ei && (locB sc x && (plainName x && (glB sc f && (glB sc c && plainName c))))) then (cl c).map fun b => .isx ei a b else none
def cMtH (f : Expr → Option E) (o : Expr) (m : Str) (ap : Pos) (e : Expr) (cp : Pos) : Option E :=
  if noStarB e && (noCall0 o && (ap.endLine == cp.line)) then (f o).bind fun to => (f e).bind fun te =>
    if m = "count" then some (.mt1 .count to te) else if m = "index" then some (.mt1 .index to te) else none
  else none
def compH : Nat → Expr → Option E
  | 0, _ => none
  | n + 1, e => match e with
    | .Name x _ => if plainName x && locB sc x then (posOf x N).map E.var else none
    | .Constant k _ _ => (litOf k).map E.lit
    | .Tuple es _ _ => (compL (compH n) es).map E.tup
    | .List es _ => (compL (compH n) es).map E.lst
    | .BinOp x o y _ => (binOf o).bind fun o' => (compH n x).bind fun tx => (compH n y).map (E.bin o' tx)
    | .UnaryOp o x _ => cUn (compH n) o x
    | .BoolOp op es pos => cBool (compH n) op pos es
    | .Compare x os bs _ => cCmp (compH n) x os bs
    | .Call (.Name f _) [.Name x _, .Name c _] [] _ => cIsx N sc ei a cl f x c
    | .Call (.Attribute o m ap) [e] [] cp => cMtH (compH n) o m ap e cp
    | _ => none
def compHS : Nat → Stmt → Option S
  | 0, _ => none
  | n + 1, st => match st with
    | .Assign [.Name x _] e _ => if okIn sc x && notComp e then (posOf x N).bind fun i => (compH N sc ei a cl 30 e).map fun t => .asg (.one i) t false [] else none
    | .Return (some e) _ => (compH N sc ei a cl 30 e).map S.ret
    | .If c p q _ => if tst0 c then (compH N sc ei a cl 30 c).bind fun tc => (compSs (compHS n) p).bind fun tp => (compSs (compHS n) q).map (S.ite tc tp) else none
    | _ => none
end
theorem cCmp_ok0 {X : Cx} {C : Ct} (G : Gd0 X C) {f : Expr → Option E} (hf : Rc X C f) {a : Expr} {os : List CmpOp} {bs : List Expr} {pos : Pos} {t : E} (h : cCmp f a os bs = some t) : Res X C (.Compare a os bs pos) t := by
  unfold cCmp at h
  split at h
  · split at h
    · rename_i hn
      obtain ⟨o', h1, h2⟩ := Option.bind_eq_some_iff.mp h
      obtain ⟨ta, h3, h4⟩ := Option.bind_eq_some_iff.mp h2
      obtain ⟨tb', h5, rfl⟩ := Option.map_eq_some_iff.mp h4
      obtain rfl := cmpOf_ok h1
      have l := (hf _ _ h3).pe
      have r := (hf _ _ h5).pe
      exact ⟨s_cmp G o' l r (notSet_in hn _), fun _ => st_cmp G o' l r (notSet_in hn _), fun q => (by cases q), fun _ _ _ q => by cases q⟩
    · cases h
  · split at h
    · rename_i hn
      obtain ⟨o', h1, h2⟩ := Option.bind_eq_some_iff.mp h
      obtain ⟨p', h3, h4⟩ := Option.bind_eq_some_iff.mp h2
      obtain ⟨ta, h5, h6⟩ := Option.bind_eq_some_iff.mp h4
      obtain ⟨tb', h7, h8⟩ := Option.bind_eq_some_iff.mp h6
      obtain ⟨tc, h9, rfl⟩ := Option.map_eq_some_iff.mp h8
      obtain rfl := cmpOf_ok h1
      obtain rfl := cmpOf_ok h3
      have l := (hf _ _ h5).pe
      have m := (hf _ _ h7).pe
      have r := (hf _ _ h9).pe
      exact ⟨s_cmp2 G o' p' l m r (notSet_in hn _), fun _ => st_cmp2 G o' p' l m r (notSet_in hn _), fun q => (by cases q), fun _ _ _ q => by cases q⟩
    · cases h
  · cases h
/-- what holds while it runs -/
structure Gh (X : Cx) (C : Ct) (ei a : Nat) (cl : Str → Option Bool) : Prop extends Gd0 X C where
  hfn : ∀ x, X.fn x = true
  isx : ∀ (x c : Str) (b : Bool) (p1 p2 p3 pos : Pos), cl c = some b → X.N[ei]? = some x → Vis X.env.scope x → plainName x = true → Gl X "isinstance" → Gl X c → plainName c = true → PE X (.Call (.Name "isinstance" p1) [.Name x p2, .Name c p3] [] pos) (C.rd (.isx ei a b))
section
variable {X : Cx} {C : Ct} {ei a : Nat} {cl : Str → Option Bool} {refu : Nat → R D}
theorem cMtH_ok (G : Gd0 X C) {f : Expr → Option E} (hf : Rc X C f) {o e : Expr} {m : Str} {ap cp : Pos} {t : E} (h : cMtH f o m ap e cp = some t) : Res X C (.Call (.Attribute o m ap) [e] [] cp) t := by
  unfold cMtH at h
  split at h
  · rename_i hc
    rw [Bool.and_eq_true, Bool.and_eq_true] at hc
    obtain ⟨to, h1, h2⟩ := Option.bind_eq_some_iff.mp h
    obtain ⟨te, h3, h4⟩ := Option.bind_eq_some_iff.mp h2
    split at h4
    · rename_i em
      subst em; cases h4
      exact .plain (s_mtL G PySem.F.slot_list_count PySem.F.type_list_count (mt_count' G.hu) (fun _ _ => rfl) mCount_ne (fun x hx => by cases x <;> first | exact ⟨_, rfl⟩ | cases hx) (hf _ _ h1).pe (hf _ _ h3).pe (noStar_of hc.1) hc.2.1 hc.2.2) rfl rfl
    · split at h4
      · rename_i em
        subst em; cases h4
        exact .plain (s_mtL G PySem.F.slot_list_index PySem.F.type_list_index (mt_index' G.hu) (fun _ _ => rfl) mIndex_ne (fun x hx => by cases x <;> first | exact ⟨_, rfl⟩ | cases hx) (hf _ _ h1).pe (hf _ _ h3).pe (noStar_of hc.1) hc.2.1 hc.2.2) rfl rfl
      · cases h4
  · cases h
theorem compH_ok (G : Gh X C ei a cl) : ∀ (n : Nat) (e : Expr) (t : E), compH X.N X.env.scope ei a cl n e = some t → Res X C e t
  | 0, _, _, h => by cases h
  | n + 1, e, t, h => by
    have hf : Rc X C (compH X.N X.env.scope ei a cl n) := fun e t h => compH_ok G n e t h
    unfold compH at h
    split at h
    · split at h
      · rename_i hc
        rw [Bool.and_eq_true] at hc
        obtain ⟨i, hi, rfl⟩ := Option.map_eq_some_iff.mp h
        exact .plain (s_var (posOf_at hi) (locB_vis hc.2) hc.1) rfl rfl
      · cases h
    · obtain ⟨d, h1, rfl⟩ := Option.map_eq_some_iff.mp h
      exact .plain (s_lit (litOf_ok h1)) rfl rfl
    · obtain ⟨ts, h1, rfl⟩ := Option.map_eq_some_iff.mp h
      exact .plain (s_tup (compL_ok hf h1).1) rfl rfl
    · obtain ⟨ts, h1, rfl⟩ := Option.map_eq_some_iff.mp h
      exact .new (s_lst (compL_ok hf h1).1) rfl lst_new
    · obtain ⟨o', h1, h2⟩ := Option.bind_eq_some_iff.mp h
      obtain ⟨ta, h3, h4⟩ := Option.bind_eq_some_iff.mp h2
      obtain ⟨tb', h5, rfl⟩ := Option.map_eq_some_iff.mp h4
      obtain rfl := binOf_ok h1
      exact .plain (s_bin G.toGd0 o' (hf _ _ h3).pe (hf _ _ h5).pe) rfl rfl
    · exact cUn_ok hf h
    · exact cBool_ok hf h
    · exact cCmp_ok0 G.toGd0 hf h
    · unfold cIsx at h
      split at h
      · rename_i hc
        simp only [Bool.and_eq_true, decide_eq_true_eq] at hc
        obtain ⟨rfl, h1, h2, h3, h4, h5, h6⟩ := hc
        obtain ⟨b, hb, rfl⟩ := Option.map_eq_some_iff.mp h
        exact .plain (G.isx _ _ b _ _ _ _ hb (posOf_at (eq_of_beq h1)) (locB_vis h2) h3 (glB_gl h4) (glB_gl h5) h6) rfl rfl
      · cases h
    · exact cMtH_ok G.toGd0 hf h
    · cases h
theorem compHS_ok (G : Gh X C ei a cl) : ∀ (n : Nat) (st : Stmt) (s : S), compHS X.N X.env.scope ei a cl n st = some s → PS X st (C.rs refu s)
  | 0, _, _, h => by cases h
  | n + 1, st, s, h => by
    have hf : Rc X C (compH X.N X.env.scope ei a cl 30) := fun e t h => compH_ok G 30 e t h
    have hg := compHS_ok G n
    unfold compHS at h
    split at h
    · split at h
      · rename_i hc
        rw [Bool.and_eq_true] at hc
        obtain ⟨i, h1, h2⟩ := Option.bind_eq_some_iff.mp h
        obtain ⟨t, h3, rfl⟩ := Option.map_eq_some_iff.mp h2
        exact s_set G.nd (posOf_at h1) (okIn_loc hc.1) (.inl (G.hfn _)) (hf _ _ h3).pe (notComp_sw hc.2 _ _ _)
      · cases h
    · obtain ⟨t, h1, rfl⟩ := Option.map_eq_some_iff.mp h
      exact s_ret (hf _ _ h1).pe
    · split at h
      · rename_i ht
        obtain ⟨tc, h1, h2⟩ := Option.bind_eq_some_iff.mp h
        obtain ⟨ta, h3, h4⟩ := Option.bind_eq_some_iff.mp h2
        obtain ⟨tb', h5, rfl⟩ := Option.map_eq_some_iff.mp h4
        exact s_ifs ((hf _ _ h1).pt ht) (compSs_ok hg h3) (compSs_ok hg h5)
      · cases h
    · cases h
end
end Ev

/-! The constants of the text's top; the refusing def's promise; all defs together. -/
namespace Ev
open PySem PySem.Spec L2 PyProof.Rows RZ L2H

/-! ### constants -/
mutual
/-- u stands for d in what is written -/
def repB (K : PySem.W.Frag) : D → Value → Bool
  | .non, u => (match u with
    | .none => true
    | _ => false)
  | .bl b, u => (match u with
    | .bool c => b == c
    | _ => false)
  | .int i, u => (match u with
    | .int j _ => decide (i = j)
    | _ => false)
  | .str l, u => (match u with
    | .str y _ => decide (y = tx l) && okc l
    | _ => false)
  | .tup ds, u => (match u with
    | .ref a => (match K.lookup a with
      | some ⟨.type c, _, .seq its _, _⟩ => decide (c = "tuple") && (decide (its.size ≤ sizeLine) && repsB K ds its.toList)
      | _ => false)
    | _ => false)
  | .lst _, _ => false
  | .dic _ _, _ => false
  | .scr _, _ => false
  | .gdc _ _, _ => false
  | .adr _, _ => false
def repsB (K : PySem.W.Frag) : List D → List Value → Bool
  | [], us => us.isEmpty
  | d :: ds, us => (match us with
    | u :: us => repB K d u && repsB K ds us
    | [] => false)
end
mutual
theorem repB_ok {K : PySem.W.Frag} {w : World} : ∀ (d : D) (u : Value), repB K d u = true → ∃ v, RelV v u ∧ ∀ F, Rep K w F d v
  | .non, u, h => by
    cases u <;> first | exact ⟨.non, rfl, fun _ => rfl⟩ | cases h
  | .bl b, u, h => by
    cases u with
    | bool c => exact ⟨.bl b, by rw [eq_of_beq (show (b == c) = true from h)]; rfl, fun _ => rfl⟩
    | _ => cases h
  | .int i, u, h => by
    cases u with
    | int j t => exact ⟨.int i, ⟨t, by rw [of_decide_eq_true (show decide (i = j) = true from h)]⟩, fun _ => rfl⟩
    | _ => cases h
  | .str l, u, h => by
    cases u with
    | str y t =>
      have h' : decide (y = tx l) = true ∧ okc l = true := Bool.and_eq_true_iff.mp h
      exact ⟨.str (tx l), ⟨t, by rw [of_decide_eq_true h'.1]⟩, fun _ => ⟨rfl, h'.2⟩⟩
    | _ => cases h
  | .tup ds, u, h => by
    cases u with
    | ref a =>
      have h0 : (match K.lookup a with
        | some ⟨.type c, _, .seq its _, _⟩ => decide (c = "tuple") && (decide (its.size ≤ sizeLine) && repsB K ds its.toList)
        | _ => false) = true := h
      cases q : K.lookup a with
      | none => rw [q] at h0; cases h0
      | some o =>
        obtain ⟨oc, od, dt, osl⟩ := o
        rw [q] at h0
        cases oc with
        | type c =>
          cases dt with
          | seq its n =>
            have h1 : (decide (c = "tuple") && (decide (its.size ≤ sizeLine) && repsB K ds its.toList)) = true := h0
            rw [Bool.and_eq_true, Bool.and_eq_true] at h1
            obtain ⟨vs, r1, r2⟩ := repsB_ok (w := w) ds its.toList h1.2.2
            exact ⟨.ref a, rfl, fun F => ⟨a, vs, rfl, .inr ⟨_, its, n, q, congrArg Value.type (of_decide_eq_true h1.1), rfl, of_decide_eq_true h1.2.1, r1⟩, r2 F⟩⟩
          | _ => cases h0
        | _ => cases dt <;> cases h0
    | _ => cases h
  | .lst _, _, h => by cases h
  | .dic _ _, _, h => by cases h
  | .scr _, _, h => by cases h
  | .gdc _ _, _, h => by cases h
  | .adr _, _, h => by cases h
theorem repsB_ok {K : PySem.W.Frag} {w : World} : ∀ (ds : List D) (us : List Value), repsB K ds us = true → ∃ vs, Vals vs us ∧ ∀ F, Reps K w F ds vs
  | [], us, h => by
    obtain rfl : us = [] := List.isEmpty_iff.mp h
    exact ⟨[], .nil, fun _ => rfl⟩
  | _ :: _, [], h => by cases h
  | d :: ds, u :: us, h => by
    have h' : repB K d u = true ∧ repsB K ds us = true := Bool.and_eq_true_iff.mp h
    obtain ⟨v, r1, r2⟩ := repB_ok (w := w) d u h'.1
    obtain ⟨vs, r3, r4⟩ := repsB_ok (w := w) ds us h'.2
    exact ⟨v :: vs, .cons r1 r3, fun F => ⟨v, vs, rfl, r2 F, r4 F⟩⟩
end
/-- a dict of the top: its values, and no other key -/
def valsG (K : PySem.W.Frag) (a : Addr) : List (List Nat) → List D → Bool
  | [], ds => ds.isEmpty
  | l :: ks, ds => (match ds with
    | d :: ds => (match PySem.W.nsIn K a (tx l) with
      | some (some u) => repB K d u
      | _ => false) && valsG K a ks ds
    | [] => false)
def onlyG (K : PySem.W.Frag) (a : Addr) (ks : List (List Nat)) : Bool := match K.lookup a with
  | some ⟨_, _, .dict es _, _⟩ => es.toList.all fun e => (ks.any fun l => e.key.isStr (tx l)) && !e.refKey
  | _ => false
theorem isStr_one {v : Value} {x y : Str} (h : v.isStr x = true) (g : v.isStr y = true) : x = y := by
  cases v with
  | str s t => exact (eq_of_beq (show (s == x) = true from h)).symm.trans (eq_of_beq (show (s == y) = true from g))
  | _ => cases h
theorem onlyG_ok {K : PySem.W.Frag} {a : Addr} {ks : List (List Nat)} (h : onlyG K a ks = true) (l : List Nat) (hl : l ∉ ks) : PySem.W.nsIn K a (tx l) = some none := by
  unfold onlyG at h
  unfold PySem.W.nsIn
  split at h
  · rename_i es _ _ q
    rw [q]
    have hall := List.all_eq_true.mp h
    have h1 : es.toList.find? (fun e => e.key.isStr (tx l)) = none := by
      rw [List.find?_eq_none]
      intro e he hs
      have := hall e he
      rw [Bool.and_eq_true] at this
      obtain ⟨l', hl', hs'⟩ := List.any_eq_true.mp this.1
      have e1 := isStr_one hs hs'
      exact hl (by rw [tx_inj.mp e1]; exact hl')
    have h2 : (es.toList.any fun e => e.refKey) = false := by
      cases hb : es.toList.any fun e => e.refKey with
      | false => rfl
      | true =>
        obtain ⟨e, he, hr⟩ := List.any_eq_true.mp hb
        have := hall e he
        rw [Bool.and_eq_true, hr] at this
        cases this.2
    simp only [h1, h2]
    rfl
  · cases h
theorem valsG_ok {K : PySem.W.Frag} {w : World} {a : Addr} : ∀ {ks : List (List Nat)} {ds : List D}, valsG K a ks ds = true → ∃ vs, ks.length = vs.length ∧ (∀ F, Reps K w F ds vs) ∧ ∀ (i : Nat) (l : List Nat) (x : V), ks[i]? = some l → vs[i]? = some x → ∃ u, PySem.W.nsIn K a (tx l) = some (some u) ∧ RelV x u
  | [], ds, h => by
    obtain rfl : ds = [] := List.isEmpty_iff.mp h
    exact ⟨[], rfl, fun _ => rfl, fun i l x h => by simp at h⟩
  | _ :: _, [], h => by cases h
  | l :: ks, d :: ds, h => by
    have h' : (match PySem.W.nsIn K a (tx l) with
      | some (some u) => repB K d u
      | _ => false) = true ∧ valsG K a ks ds = true := Bool.and_eq_true_iff.mp h
    obtain ⟨vs, h1, h2, h3⟩ := valsG_ok (w := w) h'.2
    cases q : PySem.W.nsIn K a (tx l) with
    | none => rw [q] at h'; cases h'.1
    | some o =>
      cases o with
      | none => rw [q] at h'; cases h'.1
      | some u =>
        rw [q] at h'
        obtain ⟨v, r1, r2⟩ := repB_ok (w := w) d u h'.1
        refine ⟨v :: vs, by rw [List.length_cons, List.length_cons, h1], fun F => ⟨v, vs, rfl, r2 F, h2 F⟩, fun i l' x hl hx => ?_⟩
        cases i with
        | zero => cases hl; cases hx; exact ⟨u, q, r1⟩
        | succ i => exact h3 i l' x hl hx

/-! ### the refusing def -/
/-- as FnH, for one held exception -/
structure FnP (P : Program) (w : World) (K : PySem.W.Frag) (mg : Str → Option Value) (base : Heap) (CX : CXT) (k : Nat) (f : Addr) (fd : FuncData) (ps : List Str) (p : Addr × Obj) (sp : Sp) : Prop where
  len : ∀ vs H Q E, sp vs H Q E → vs.length = ps.length
  run : ∀ (A : Around) (outer : List PySem.Env) (s : Shared) (H : Hp) (args : Args) (us : List Value) (vs : List V) (Q : VK) (E : XK), RoomH k A → Hot1 A p → PinOk outer H s p →
    Env0 P w K mg base A outer s H → BindsTo s fd args (ps.zip us) → Vals vs us → sp vs H Q E → codeAny (model P w) A (.call (.ref f) args) (CR CX outer P w H s Q E) s
theorem fn_ofP {CX : CXT} {P : Program} {w : World} {K : PySem.W.Frag} {mg : Str → Option Value} {base : Heap} {k : Nat} {x qual : Str} {params : Arguments} {body : List Stmt} {scope : Scope} {f : Addr} {fd : FuncData} {N ps : List Str} {sp : Sp} {p : Addr × Obj}
    (F : FunD K x qual params body scope [] [] f fd) (S : FnScope N ps scope) (len : ∀ vs H Q E, sp vs H Q E → vs.length = ps.length)
    (hbody : ∀ (cdv : Value) (A : Around) (outer : List PySem.Env) (s : Shared) (H : Hp) (vs : List V) (Q : VK) (E : XK), Hot1 A p → RoomH k (A.deeper (envOfC qual scope s.heap.objs.size f cdv)) → sp vs H Q E →
      ∃ t, PSs (cxH CX P w K mg base N qual scope f cdv A outer s H E p) body t ∧ t { nx := fun _ H' => Q .non H', rt := Q } (L2.start N vs) H) : FnP P w K mg base CX (k + 1) f fd ps p sp := by
  obtain ⟨oc, od, dV, kV, doc, pm, an, cdv, ct, osl, e0, lk, hcd, _, _⟩ := F.ex
  subst e0
  refine ⟨len, fun A outer s H args us vs Q E hr hot hpin en hb r hsp => ?_⟩
  have hlen := len _ _ _ _ hsp
  have inK : K.In s.heap := en.mod.kin.keeps fun b o e => (en.bs b o e).1
  have nolim : s.heap.NoLimit := en.mod.nolimit.keeps fun b o e => (en.bs b o e).1
  have kinds : ∀ y ∈ ps.zip us, scope.names.lookup y.1 = some .local ∨
      (scope.names.lookup y.1 = some .cell ∧ ((cellsFrom (s.heap.objs.size + 1) scope.names []).lookup y.1).isSome = true) := by
    rintro ⟨n, v⟩ hy
    rcases S.par n (List.of_mem_zip hy).1 with z | z
    · exact .inl z
    · exact .inr ⟨z, PySem.W.cellsFrom_some _ _ _ (.inl z)⟩
  refine codeAny_call_function hr.depth (inK _ _ lk) rfl S.co S.gen rfl (PySem.W.codeRec_of inK hcd) (hb _ _ _ _ ?_)
  refine wpAny_newFunctionEnv_cells S.kind kinds fun env henv s1 ic => ?_
  subst henv
  refine ⟨nolim.keeps ic.toInCall.keep, codeAny_func ?_⟩
  obtain ⟨t, ht, hq⟩ := hbody cdv A outer s H vs Q E hot (hr.deeper _) hsp
  have J : Inv (cxH CX P w K mg base N qual scope f cdv A outer s H E p) [] (L2.start N vs) H s1 := inv_startH S hpin en hlen r ic
  refine wpAny_mono (ht.run [] s1 (L2.start N vs) H _ J hq) (fun fl s' hs => ?_) fun e s' hs => hs
  cases fl with
  | ret u =>
    obtain ⟨v, σ', H', J', rv, q⟩ := hs
    exact ⟨v, H', J'.os, J'.bare, J'.base, J'.hok, rv, q⟩
  | next =>
    obtain ⟨σ', H', J', q⟩ := hs
    exact ⟨V.non, H', J'.os, J'.bare, J'.base, J'.hok, rfl, q⟩
  | brk => obtain ⟨_, _, _, q⟩ := hs; exact False.elim q
  | cont => obtain ⟨_, _, _, q⟩ := hs; exact False.elim q
/-- what it promises of what p holds -/
def spRf (C : Ct) (refu : Nat → R D) (p : Addr × Obj) : Sp := fun vs H Q _ => vs = [.ref p.1] ∧ p.2.dict = none ∧ ∃ c F, p.2.cls = .ref (C.ca c) ∧ Same F H ∧ fin C.K C.w (refu c) F H Q fun _ _ => False
theorem hot_call {X : Cx} {C : Ct} {refu : Nat → R D} {i k : Nat} {a f : Addr} {oe : Obj} {cls : Value} {d : Option Addr} {pn : List (Addr × Obj)} {n rf : Str} {fd : FuncData} {ps : List Str} {q1 q2 q3 : Pos} (F : FnP X.prog X.w X.K X.mg X.base (L2N.CX X.prog X.w) k f fd ps (a, oe) (spRf C refu (a, oe)))
    (hr : Room k X.A) (hN : X.N[i]? = some n) (hv : Vis X.env.scope n) (hp : plainName n = true) (hg : Gl X rf) (hdb : (rf == ("__debug__" : Str)) = false) (hm : X.mg rf = some (.ref f)) (hk : PySem.W.keepIn X.K (.ref f) = true) (hb : Binds X.K fd ps [])
    (hz : L2N.Zn cls d oe) (hf : ∃ vs, oe.data = .fields vs) : PE (X.suite a ((a, oe) :: pn)) (.Call (.Name rf q1) [.Name n q2] [] q3) (C.rf refu i a cls d) := by
  refine ⟨fun pins s σ H Q I h => ?_⟩
  obtain ⟨h1, h2, h3, c, F0, h4, h5, h6⟩ := h
  have ha : PA (X.suite a ((a, oe) :: pn)) [.Name n q2] (tCons (tVar i) tNil) := pa_cons (pe_var (X := X.suite a ((a, oe) :: pn)) hN hv (plain1 hp).1 (plain1 hp).2.1) pa_nil rfl
  refine wpAny_Call_Name_kw (ld_glob (X := X.suite a ((a, oe) :: pn)) I hg hm ?_ hdb)
  refine PySem.W.callWith_K (h₀ := X.base) I.ok.mod.kin hk (thn (ha.run q3 pins s σ H (fun vs H1 => vs = [.ref a] ∧ H1 = H) I ⟨.ref a, h1, rfl, rfl⟩) fun us s1 ⟨vs, H1, I1, r, e1, e2⟩ => ⟨I1.kIn, ?_⟩) rfl rfl
  subst e1 e2
  have hl : us.length = ps.length := by rw [← r.length]; exact F.len [.ref a] H1 Q (fun _ _ _ => False) ⟨rfl, by rw [hz.2.1, h2], c, F0, by rw [hz.1, h4], h5, h6⟩
  have b := hb s1 us I1.kIn (by rw [List.append_nil]; exact hl)
  rw [List.append_nil] at b
  have P1 := I1.pin (a, oe) (List.mem_append_left _ List.mem_cons_self)
  have hpin : PinOk X.stack H1 s1 (a, oe) := ⟨P1.1, P1.2.1, fun hm => (List.mem_cons.mp (I1.stkSub a hm)).elim P1.2.2.1 P1.2.2.2.1, P1.2.2.2.2⟩
  have hot : Hot1 (X.suite a ((a, oe) :: pn)).A (a, oe) := by
    obtain ⟨vs, hvs⟩ := hf
    exact ⟨rfl, vs, hvs, hz.2.2 vs hvs⟩
  have rm : RoomH k (X.suite a ((a, oe) :: pn)).A := ⟨hr.dp, hr.un⟩
  refine wpAny_call (codeAny_mono (F.run (X.suite a ((a, oe) :: pn)).A X.stack s1 H1 ⟨us, []⟩ us [.ref a] Q (fun _ _ _ => False) rm hot hpin I1.env0 b r ⟨rfl, by rw [hz.2.1, h2], c, F0, by rw [hz.1, h4], h5, h6⟩) fun r s' hq => ?_)
  cases r with
  | error e =>
    obtain ⟨_, _, _, _, _, _, _, _, _, _, _, _, z⟩ := hq
    exact z.elim
  | ok fl =>
    cases fl with
    | ret u => exact I1.after hq
    | next => exact False.elim hq
    | brk => exact False.elim hq
    | cont => exact False.elim hq
end Ev

/-! All defs of a text together. -/
namespace Ev
open PySem PySem.Spec L2 PyProof.Rows RZ L2H

structure Df where
  x : Str
  st : Stmt
  N : List Str
  ps : List Str
  ow : List Str
structure Lw where
  dfs : List Df
  rfd : Df
  gs : List (Str × D)
  cs : List Str
def Lw.tb (L : Lw) : Tb := ⟨L.gs.map (·.1), L.dfs.map fun d => (d.x, d.ps.length), L.cs⟩
def refd : List Nat := [114, 101, 102, 117, 115, 101, 100]
def Lw.body (L : Lw) (d : Df) : Option (List S) := compSs (compS L.tb d.N (defScope d.st) d.ow 40) (defBody d.st)
def Lw.glob (L : Lw) (g : Nat) : R D := match L.gs[g]? with
  | some p => .ok p.2
  | none => .no
def Lw.refu (L : Lw) (c : Nat) : R D := if c < L.cs.length then .ok (.tup [.str refd, .int c]) else .no
def Lw.fd (L : Lw) (f : Nat) : Option Fd := (L.dfs[f]?).bind fun d => (L.body d).map fun b => ⟨d.ps.length, d.N.length, b⟩
def Lw.pr (L : Lw) : Pr := ⟨L.glob, L.fd, L.refu⟩
/-- isinstance of a held exception of the class c -/
def Lw.cl (L : Lw) (c : Nat) (x : Str) : Option Bool := if x = "ValueError" then some true else (posOf x L.cs).map fun j => decide (j = c)

def excCB (K : PySem.W.Frag) (A : Addr) : Bool :=
  He.eqO (PySem.W.findIn K (.ref A) "__getattribute__") (some (some (.builtin "BaseException.__getattribute__"))) && (He.eqO (PySem.W.findIn K (.ref A) "__getattr__") (some none) && (decide (PySem.W.subIn K (.ref A) (.type "BaseException") = some true) && (PySem.W.hasDictIn K A &&
    (He.eqO (PySem.W.findIn K (.ref A) "__class__") (some (some (.builtin "object.__class__"))) && (He.eqO (PySem.W.specialIn K (.builtin "object.__class__") "__get__") (some (some (.builtin "getset_descriptor.__get__"))) && (decide (PySem.W.takesIn K (.builtin "object.__class__") = some true) && decide (PySem.W.mroIn K A (.type "object") = some true)))))))
theorem excCB_ok {K : PySem.W.Frag} {A : Addr} (h : excCB K A = true) : ExcC K A := by
  unfold excCB at h
  simp only [Bool.and_eq_true, decide_eq_true_eq] at h
  obtain ⟨h1, h2, h3, h4, h5, h6, h7, h8⟩ := h
  exact ⟨He.eqO_ok h1, He.eqO_ok h2, h3, h4, He.eqO_ok h5, He.eqO_ok h6, h7, h8⟩
def gloB (K : PySem.W.Frag) (x : Str) : Bool := He.Fa.ok K (.glo x)
def clsB (K : PySem.W.Frag) (cs : List Str) (x : Str) : Bool :=
  gloB K x && (He.Fa.ok K (.exc x) && (excCB K (He.ga K x) && (He.Fa.ok K (.exm x "AskError" true) && ((cs.all fun y => decide (PySem.W.kitOne K (.ref (He.ga K x)) (.ref (He.ga K y)) = some (decide (y = x)))) && decide (PySem.W.kitOne K (.ref (He.ga K x)) (.type "ValueError") = some true)))))
def conG (K : PySem.W.Frag) (x : Str) (d : D) : Bool :=
  match d with
  | .gdc ks ds => gloB K x && (valsG K (He.ga K x) ks ds && onlyG K (He.ga K x) ks)
  | d => (match PySem.W.nsIn K mainGlobals x with
    | some (some u) => repB K d u
    | _ => false)
def freeB (K : PySem.W.Frag) (x : Str) : Bool := He.Fa.ok K (.free x)
def Lw.okK (L : Lw) (K : PySem.W.Frag) : Bool :=
  (L.dfs.all fun d => gloB K d.x) && (gloB K L.rfd.x && ((bnames.all fun b => freeB K b) && (freeB K "ValueError" && ((L.cs.all fun x => clsB K L.cs x) && (gloB K "AskError" && L.gs.all fun p => conG K p.1 p.2)))))

/-- what the head gives -/
structure Lw.At (L : Lw) (w : World) (K : PySem.W.Frag) (mg : Str → Option Value) : Prop where
  ok : L.okK K = true
  mgf : ∀ x v, PySem.W.nsIn K mainGlobals x = some (some v) → mg x = some v
  mgn : ∀ x, PySem.W.nsIn K mainGlobals x = some none → mg x = none
  dict : ∀ p ∈ L.gs, ∀ ks ds, p.2 = .gdc ks ds → ∃ es n, KDict K w (He.ga K p.1) es n
  fun_ : ∀ d, d ∈ L.dfs ∨ d = L.rfd → ∃ fd, FunD K d.x d.x (defArgs d.st) (defBody d.st) (defScope d.st) [] [] (He.ga K d.x) fd
/-- what the text itself shows -/
structure Lw.Ok (L : Lw) : Prop where
  sc : ∀ d ∈ L.dfs, C8.scC d.N d.ps (defScope d.st) = true
  scR : C8.scC L.rfd.N L.rfd.ps (defScope L.rfd.st) = true
  lenR : L.rfd.ps.length = 1
  lenN : L.rfd.N.length = 2
  rx : L.rfd.x = "_law_refused"
  nd : L.cs.Nodup
  binds : ∀ d, d ∈ L.dfs ∨ d = L.rfd → ∀ (kV doc pm : Value) (an : Option Addr) (cdv ct : Value) (us : List Value), us.length = d.ps.length →
    bindArgs (PySem.W.fnOf d.x d.x (defArgs d.st) (defBody d.st) (defScope d.st) .none kV doc pm an cdv ct) ⟨us, []⟩ = pure (d.ps.zip us)
  hR : ∀ a c, c < L.cs.length → ∃ ss, compSs (compHS L.rfd.N (defScope L.rfd.st) 0 a (L.cl c) 10) (defBody L.rfd.st) = some ss ∧ exSs (fun _ => .no) (fun _ _ => .no) (fun _ => .no) ss [.sh (.adr a), .no] = .rt (.tup [.str refd, .int c])

def Lw.ct (L : Lw) (K : PySem.W.Frag) (w : World) (m : Nat) (W : WX) : Ct := ⟨K, w, L.glob, callF L.pr m, fun c => He.ga K (L.cs.getD c Str.empty), W⟩
section
variable {L : Lw} {P : Program} {w : World} {K : PySem.W.Frag} {mg : Str → Option Value} {base : Heap}
theorem getD_at {l : List Str} {c : Nat} {x : Str} (h : l[c]? = some x) : l.getD c Str.empty = x := by
  rw [List.getD_eq_getElem?_getD, h]; rfl
theorem Lw.At.parts (T : L.At w K mg) : (∀ d ∈ L.dfs, gloB K d.x = true) ∧ gloB K L.rfd.x = true ∧ (∀ b ∈ bnames, freeB K b = true) ∧ freeB K "ValueError" = true ∧ (∀ x ∈ L.cs, clsB K L.cs x = true) ∧ gloB K "AskError" = true ∧ ∀ p ∈ L.gs, conG K p.1 p.2 = true := by
  have h := T.ok
  unfold Lw.okK at h
  simp only [Bool.and_eq_true, List.all_eq_true] at h
  exact ⟨h.1, h.2.1, h.2.2.1, h.2.2.2.1, h.2.2.2.2.1, h.2.2.2.2.2.1, h.2.2.2.2.2.2⟩
theorem Lw.At.glo (T : L.At w K mg) {x : Str} (h : gloB K x = true) : mg x = some (.ref (He.ga K x)) := T.mgf _ _ (He.eqO_ok h)
theorem Lw.At.free (T : L.At w K mg) {x : Str} (h : freeB K x = true) : mg x = none := T.mgn _ (He.eqO_ok h)
theorem Lw.At.con (T : L.At w K mg) {p : Str × D} (hp : p ∈ L.gs) : ∃ u v, mg p.1 = some u ∧ RelV v u ∧ ∀ F, Rep K w F p.2 v := by
  obtain ⟨x, d⟩ := p
  have h := T.parts.2.2.2.2.2.2 _ hp
  have plain : (match PySem.W.nsIn K mainGlobals x with
    | some (some u) => repB K d u
    | _ => false) = true → ∃ u v, mg x = some u ∧ RelV v u ∧ ∀ F, Rep K w F d v := fun h => by
    split at h
    · rename_i u hu
      obtain ⟨v, r1, r2⟩ := repB_ok (w := w) d u h
      exact ⟨u, v, T.mgf _ _ hu, r1, r2⟩
    · cases h
  cases d with
  | gdc ks ds =>
    have h' : (gloB K x && (valsG K (He.ga K x) ks ds && onlyG K (He.ga K x) ks)) = true := h
    rw [Bool.and_eq_true, Bool.and_eq_true] at h'
    obtain ⟨es, n, hd⟩ := T.dict _ hp ks ds rfl
    obtain ⟨vs, v1, v2, v3⟩ := valsG_ok (w := w) h'.2.1
    exact ⟨_, .ref (He.ga K x), T.glo h'.1, rfl, fun F => ⟨_, es, n, vs, rfl, hd, v2 F, v1, onlyG_ok h'.2.2, v3⟩⟩
  | _ => exact plain h
/-- the refusing def keeps its promise -/
theorem Lw.refs (O : L.Ok) (T : L.At w K mg) {m : Nat} {W : WX} {k : Nat} {fd : FuncData} (F : FunD K L.rfd.x L.rfd.x (defArgs L.rfd.st) (defBody L.rfd.st) (defScope L.rfd.st) [] [] (He.ga K L.rfd.x) fd) (p : Addr × Obj) (hfl : ∃ vs, p.2.data = .fields vs) :
    FnP P w K mg base (L2N.CX P w) (k + 1) (He.ga K L.rfd.x) fd L.rfd.ps p (spRf (L.ct K w m W) L.refu p) := by
  have S := C8.fnScope_by O.scR
  refine fn_ofP F S (fun vs H Q E ⟨h, _⟩ => by rw [h, O.lenR]; rfl) fun cdv A outer s H vs Q E hot hr h => ?_
  obtain ⟨h1, h2, c, F0, h3, h4, h5⟩ := h
  have hc : c < L.cs.length := by
    cases Nat.lt_or_ge c L.cs.length with
    | inl h => exact h
    | inr h =>
      exfalso
      unfold Lw.refu at h5
      rw [if_neg (by omega)] at h5
      exact h5
  obtain ⟨ss, e1, e2⟩ := O.hR p.1 c hc
  have hx : L.cs[c]? = some L.cs[c] := List.getElem?_eq_getElem hc
  have hm : L.cs[c] ∈ L.cs := List.getElem_mem hc
  have hcls := T.parts.2.2.2.2.1 _ hm
  unfold clsB at hcls
  simp only [Bool.and_eq_true, List.all_eq_true, decide_eq_true_eq] at hcls
  obtain ⟨k1, k2, k3, k4, k5, k6⟩ := hcls
  have hga : (L.ct K w m W).ca c = He.ga K L.cs[c] := by
    show He.ga K (L.cs.getD c Str.empty) = _
    rw [getD_at hx]
  rw [hga] at h3
  let C : Ct := { L.ct K w m W with glob := fun _ => .no, fn := fun _ _ => .no, W := fun _ _ _ _ => False }
  have G : Gh (cxH (L2N.CX P w) P w K mg base L.rfd.N L.rfd.x (defScope L.rfd.st) (He.ga K L.rfd.x) cdv A outer s H E p) C 0 p.1 (L.cl c) := by
    refine ⟨⟨rfl, rfl, S.nd, by have := hr.un; show (A.deeper (envOfC L.rfd.x (defScope L.rfd.st) s.heap.objs.size (He.ga K L.rfd.x) cdv)).units + 65 < cLine; omega⟩, fun _ => rfl, fun x y b p1 p2 p3 pos hb hN hv hp hg hgy hpy => ?_⟩
    have fin : ∀ (cV : V) (cv : Value), PE (cxH (L2N.CX P w) P w K mg base L.rfd.N L.rfd.x (defScope L.rfd.st) (He.ga K L.rfd.x) cdv A outer s H E p) (.Name y p3) (tC cV) → (∀ u, RelV cV u → u = cv) → PySem.W.kitOne K (.ref (He.ga K L.cs[c])) cv = some b →
        PE (cxH (L2N.CX P w) P w K mg base L.rfd.N L.rfd.x (defScope L.rfd.st) (He.ga K L.rfd.x) cdv A outer s H E p) (.Call (.Name "isinstance" p1) [.Name x p2, .Name y p3] [] pos) (C.rd (.isx 0 p.1 b)) := fun cV cv hc1 hc2 hc3 =>
      s_isx (oe := p.2) (List.mem_singleton.mpr rfl) (excCB_ok k3) ⟨h3, h2⟩ hfl hN hv hp hg (T.free (T.parts.2.2.1 _ (by decide +kernel))) hc1 hc2 hc3
    unfold Lw.cl at hb
    split at hb
    · rename_i ey
      cases hb
      subst ey
      exact fin (.ty "ValueError") (.type "ValueError") (pe_bltn hgy (T.free T.parts.2.2.2.1) (by decide +kernel) rfl (by decide) (by decide)) (fun u r => r) k6
    · obtain ⟨j, hj, rfl⟩ := Option.map_eq_some_iff.mp hb
      have hyj := posOf_at hj
      have hjl : j < L.cs.length := (List.getElem?_eq_some_iff.mp hyj).1
      have hym : y ∈ L.cs := List.mem_of_getElem? hyj
      have hgy2 := T.parts.2.2.2.2.1 _ hym
      unfold clsB at hgy2
      rw [Bool.and_eq_true] at hgy2
      refine fin (.ref (He.ga K y)) (.ref (He.ga K y)) (pe_glob hgy (T.glo hgy2.1) rfl (plain1 hpy).1) (fun u r => r) ?_
      rw [k5 y hym]
      congr 1
      have e3 : L.cs[j] = y := by
        rw [List.getElem?_eq_getElem hjl] at hyj
        exact Option.some.inj hyj
      rw [← e3]
      by_cases ejc : j = c
      · subst ejc; simp
      · have : ¬ L.cs[j] = L.cs[c] := fun z => ejc ((List.getElem_inj O.nd).mp z)
        rw [decide_eq_false this, decide_eq_false ejc]
  refine ⟨C.rss (fun _ => .no) ss, compSs_ok (fun st s h => compHS_ok G 10 st s h) e1, F0, H, F0, [.sh (.adr p.1), .no], ?_, ?_⟩
  · subst h1
    refine ⟨?_, Ext.refl h4, fun i d hi => ?_, fun i d hi => ?_, fun i j d e a hi => ?_⟩
    · show (L2.start L.rfd.N [V.ref p.1]).length = 2
      unfold L2.start
      rw [List.length_append, List.length_map, List.length_replicate, O.lenN]; rfl
    · match i, hi with
      | 0, hi =>
        cases hi
        exact ⟨.ref p.1, rfl, rfl⟩
      | 1, hi => cases hi
    · match i, hi with
      | 0, hi => cases hi
      | 1, hi => cases hi
    · match i, hi with
      | 0, hi => cases hi
      | 1, hi => cases hi
  · show Cont C F0 H _ (exSs (fun _ => .no) (fun _ _ => .no) (fun _ => .no) ss [.sh (.adr p.1), .no])
    rw [e2]
    have e5 : L.refu c = .ok (.tup [.str refd, .int c]) := if_pos hc
    rw [e5] at h5
    exact fun v F' H' x r => h5 v F' H' x r
/-- each def keeps what the evaluator says, m calls deep -/
theorem Lw.fns (O : L.Ok) (T : L.At w K mg) : ∀ (m f : Nat) (d : Df), L.dfs[f]? = some d → ∃ fd, FnOk P w K mg base (L2N.CX P w) (m + 1) (He.ga K d.x) fd d.ps ((L.ct K w m fun _ _ _ _ => False).sp f d.ps.length) ∧ PySem.W.keepIn K (.ref (He.ga K d.x)) = true ∧ Binds K fd d.ps [] ∧ FunD K d.x d.x (defArgs d.st) (defBody d.st) (defScope d.st) [] [] (He.ga K d.x) fd := by
  intro m
  induction m with
  | zero =>
    intro f d hd
    obtain ⟨fd, F⟩ := T.fun_ d (.inl (List.mem_of_getElem? hd))
    refine ⟨fd, ⟨fun vs H Q E h => h.1, fun A outer s H args us vs Q E _ _ _ _ h => ?_⟩, F.kp, F.bindsN (O.binds d (.inl (List.mem_of_getElem? hd))), F⟩
    obtain ⟨_, F0, ds, _, _, q⟩ := h
    exact False.elim q
  | succ m ih =>
    intro f d hd
    have hmem := List.mem_of_getElem? hd
    obtain ⟨fd, F⟩ := T.fun_ d (.inl hmem)
    obtain ⟨fdR, FR⟩ := T.fun_ L.rfd (.inr rfl)
    have S := C8.fnScope_by (O.sc d hmem)
    refine ⟨fd, F.ok S (fun vs H Q E h => h.1) fun cdv A outer s H vs Q E hr h => ?_, F.kp, F.bindsN (O.binds d (.inl hmem)), F⟩
    obtain ⟨hlen, F0, ds, hs, hrep, q⟩ := h
    have hlds : ds.length = vs.length := hrep.length
    let C : Ct := L.ct K w m fun cls dd _ H' => E cls dd H'
    have q1 : fin K w (match L.fd f with
      | some fd => if ds.length = fd.ps then ended (exSs L.glob (callF L.pr m) L.refu fd.body (start fd ds)) else .no
      | none => .no) F0 H Q fun c H' => E (.ref (C.ca c)) none H' := q
    have efd : L.fd f = (L.body d).map fun b => ⟨d.ps.length, d.N.length, b⟩ := by
      unfold Lw.fd; rw [hd]; rfl
    rw [efd] at q1
    cases eb : L.body d with
    | none => rw [eb] at q1; exact False.elim q1
    | some b =>
      rw [eb] at q1
      have q2 : fin K w (if ds.length = d.ps.length then ended (exSs L.glob (callF L.pr m) L.refu b (start ⟨d.ps.length, d.N.length, b⟩ ds)) else .no) F0 H Q fun c H' => E (.ref (C.ca c)) none H' := q1
      rw [if_pos (by rw [hlds, hlen])] at q2
      have T' := T.parts
      have G : Gs L.tb (cxOf (L2N.CX P w) P w K mg base d.N d.x (defScope d.st) (He.ga K d.x) cdv A outer s H E) C L.refu := by
        refine { hK := rfl, hw := rfl, nd := S.nd, hu := by have := hr.un; show (A.deeper (envOfC d.x (defScope d.st) s.heap.objs.size (He.ga K d.x) cdv)).units + 65 < cLine; omega, calm := rfl, takes := L2N.takes_of rfl rfl rfl rfl, blt := fun b hb => T.free (T'.2.2.1 b hb), glo := ?_, gno := ?_, fns := ?_, hp := passes_of rfl, hk := S.kind, hst := rfl, hfr := rfl, hfn := fun _ => rfl, exc := ?_, ask := ?_, hot := ?_, rne := ?_ }
        · intro g x dd hg hgl
          have hg' : (L.gs.map (·.1))[g]? = some x := hg
          rw [List.getElem?_map] at hg'
          obtain ⟨p, hp, rfl⟩ := Option.map_eq_some_iff.mp hg'
          have hgl' : L.glob g = .ok dd := hgl
          unfold Lw.glob at hgl'
          rw [hp] at hgl'
          cases hgl'
          exact T.con (List.mem_of_getElem? hp)
        · intro g c
          show L.glob g ≠ _
          unfold Lw.glob
          split <;> (intro z; cases z)
        · intro f' x n hf'
          have hf2 : (L.dfs.map fun d => (d.x, d.ps.length))[f']? = some (x, n) := hf'
          rw [List.getElem?_map] at hf2
          obtain ⟨d', hd', e'⟩ := Option.map_eq_some_iff.mp hf2
          cases e'
          obtain ⟨fd', i1, i2, i3, _⟩ := ih f' d' hd'
          exact ⟨_, fd', d'.ps, m + 1, i1, hr, T.glo (T'.1 d' (List.mem_of_getElem? hd')), i2, i3⟩
        · intro c x hc
          have hc' : L.cs[c]? = some x := hc
          have hcls := T'.2.2.2.2.1 x (List.mem_of_getElem? hc')
          unfold clsB at hcls
          simp only [Bool.and_eq_true] at hcls
          obtain ⟨k1, k2, k3, k4, k5, k6⟩ := hcls
          obtain ⟨j1, j2, j3, j4⟩ := He.exc_ok k2
          have hga : C.ca c = He.ga K x := by
            show He.ga K (L.cs.getD c Str.empty) = _
            rw [getD_at hc']
          rw [hga]
          exact ⟨T.glo k1, j1, j2, raises_own j3 j4⟩
        · refine ⟨_, T.glo T'.2.2.2.2.2.1, fun c dd hc => ?_⟩
          have hlt : c < L.cs.length := by
            cases Nat.lt_or_ge c L.cs.length with
            | inl h => exact h
            | inr h => unfold Lw.refu at hc; rw [if_neg (by omega)] at hc; cases hc
          have hcls := T'.2.2.2.2.1 _ (List.getElem_mem hlt)
          unfold clsB at hcls
          simp only [Bool.and_eq_true] at hcls
          have hga : C.ca c = He.ga K L.cs[c] := by
            show He.ga K (L.cs.getD c Str.empty) = _
            rw [getD_at (List.getElem?_eq_getElem hlt)]
          rw [hga]
          exact He.exm_ok hcls.2.2.2.1
        · intro i n q1 q2 q3 hN hv hp hg a oe cls dd pn hz hfl
          have rx := O.rx
          have hF := Lw.refs (P := P) (base := base) O T (m := m) (W := fun cls dd _ H' => E cls dd H') (k := m) FR (a, oe) hfl
          exact hot_call hF hr hN hv hp hg (by decide) (by rw [← rx]; exact T.glo T'.2.1) FR.kp (FR.bindsN (O.binds L.rfd (.inr rfl))) hz hfl
        · intro c k
          show L.refu c ≠ _
          unfold Lw.refu
          split <;> (intro z; cases z)
      refine ⟨C.rss L.refu b, compSs_ok (fun st s h => compS_ok G 40 st s h) eb, F0, H, F0, start ⟨d.ps.length, d.N.length, b⟩ ds, ?_, ?_⟩
      · have lenN : d.ps.length ≤ d.N.length := by have := congrArg List.length S.pre; rw [List.length_take] at this; omega
        have at1 : ∀ (i : Nat) (x : Sl), (start ⟨d.ps.length, d.N.length, b⟩ ds)[i]? = some x → x = .no ∨ ∃ y, ds[i]? = some y ∧ x = .sh y := fun i x hx => by
          unfold start at hx
          by_cases hi : i < ds.length
          · rw [List.getElem?_append_left (by simpa using hi), List.getElem?_map] at hx
            obtain ⟨y, h1, rfl⟩ := Option.map_eq_some_iff.mp hx
            exact .inr ⟨y, h1, rfl⟩
          · rw [List.getElem?_append_right (by simpa using hi), List.getElem?_replicate] at hx
            split at hx
            · cases hx; exact .inl rfl
            · cases hx
        refine ⟨?_, Ext.refl hs, fun i x hx => ?_, fun i x hx => ?_, fun i j x y a hx => ?_⟩
        · show (L2.start d.N vs).length = (start _ ds).length
          unfold L2.start start
          simp only [List.length_append, List.length_map, List.length_replicate]
          omega
        · rcases at1 i _ hx with z | ⟨y, h1, h2⟩
          · cases z
          · cases h2
            obtain ⟨v, g1, g2⟩ := hrep.get h1
            refine ⟨v, ?_, g2⟩
            have hi : i < vs.length := (List.getElem?_eq_some_iff.mp g1).1
            show (L2.start d.N vs)[i]? = _
            unfold L2.start
            rw [List.getElem?_append_left (by simpa using hi), List.getElem?_map, g1]; rfl
        · rcases at1 i _ hx with z | ⟨y, h1, h2⟩
          · cases z
          · cases h2
        · rcases at1 i _ hx with z | ⟨y, h1, h2⟩
          · cases z
          · cases h2
      · have q3 : fin K w (ended (exSs C.glob C.fn L.refu b (start ⟨d.ps.length, d.N.length, b⟩ ds))) F0 H Q fun c H' => E (.ref (C.ca c)) none H' := q2
        cases eo : exSs C.glob C.fn L.refu b (start ⟨d.ps.length, d.N.length, b⟩ ds) with
        | nx env => rw [eo] at q3; exact fun F' σ H' st => q3 .non F' H' st.ext rfl
        | rt dd => rw [eo] at q3; exact fun v F' H' x r => q3 v F' H' x r
        | ex c => rw [eo] at q3; exact fun σ H' s => q3 H' s
        | no => rw [eo] at q3; exact q3
end
end Ev

/-! The refusing def's own text; from the head to the end. -/
namespace Ev
open PySem PySem.Spec L2 PyProof.Rows RZ L2H

def refS (a : Nat) (f : Nat → Bool) : List S :=
  [.asg (.one 1) (.lst [.isx 0 a (f 0), .isx 0 a (f 1), .isx 0 a (f 2), .isx 0 a (f 3)]) false [],
   .asg (.one 1) (.bin .add (.var 1) (.lst [.isx 0 a (f 4), .isx 0 a (f 5), .isx 0 a (f 6)])) false [],
   .asg (.one 1) (.bin .add (.var 1) (.lst [.isx 0 a (f 7)])) false [],
   .asg (.one 1) (.bin .add (.var 1) (.lst [.isx 0 a (f 8), .isx 0 a (f 9)])) false [],
   .ite (.or_ (.cmp .ne (.mt1 .count (.var 1) (.lit (.bl true))) (.lit (.int 1))) (.not_ (.isx 0 a true))) [.ret (.tup [.lit (.str refd), .neg (.lit (.int 1))])] [],
   .ret (.tup [.lit (.str refd), .mt1 .index (.var 1) (.lit (.bl true))])]
/-- the same with the tests' answers put in -/
def refT (f : Nat → Bool) : List S :=
  [.asg (.one 1) (.lst [.lit (.bl (f 0)), .lit (.bl (f 1)), .lit (.bl (f 2)), .lit (.bl (f 3))]) false [],
   .asg (.one 1) (.bin .add (.var 1) (.lst [.lit (.bl (f 4)), .lit (.bl (f 5)), .lit (.bl (f 6))])) false [],
   .asg (.one 1) (.bin .add (.var 1) (.lst [.lit (.bl (f 7))])) false [],
   .asg (.one 1) (.bin .add (.var 1) (.lst [.lit (.bl (f 8)), .lit (.bl (f 9))])) false [],
   .ite (.or_ (.cmp .ne (.mt1 .count (.var 1) (.lit (.bl true))) (.lit (.int 1))) (.not_ (.lit (.bl true)))) [.ret (.tup [.lit (.str refd), .neg (.lit (.int 1))])] [],
   .ret (.tup [.lit (.str refd), .mt1 .index (.var 1) (.lit (.bl true))])]
section
variable (a : Nat)
theorem isx0 (b : Bool) (s : Sl) : ev (fun _ => .no) (fun _ _ => .no) (.isx 0 a b) [.sh (.adr a), s] = .ok (.bl b) := if_pos rfl
theorem r_cons (s : S) (ss : List S) (env env' : Env) (o : Out) (h : exS (fun _ => .no) (fun _ _ => .no) (fun _ => .no) s env = .nx env') (g : exSs (fun _ => .no) (fun _ _ => .no) (fun _ => .no) ss env' = o) : exSs (fun _ => .no) (fun _ _ => .no) (fun _ => .no) (s :: ss) env = o := by
  show (match exS (fun _ => .no) (fun _ _ => .no) (fun _ => .no) s env with
    | .nx env' => exSs (fun _ => .no) (fun _ _ => .no) (fun _ => .no) ss env'
    | .rt d => .rt d
    | .ex c => .ex c
    | .no => .no) = o
  rw [h]; exact g
theorem r_ret (e : E) (ss : List S) (env : Env) (d : D) (h : ev (fun _ => .no) (fun _ _ => .no) e (open_ env) = .ok d) : exSs (fun _ => .no) (fun _ _ => .no) (fun _ => .no) (.ret e :: ss) env = .rt d := by
  show (match R.out (ev (fun _ => .no) (fun _ _ => .no) e (open_ env)) Out.rt with
    | .nx env' => exSs (fun _ => .no) (fun _ _ => .no) (fun _ => .no) ss env'
    | .rt d => .rt d
    | .ex c => .ex c
    | .no => .no) = _
  rw [h]; rfl
theorem r_asg (e : E) (s : Sl) (xs : List D) (hs : mask [] [.sh (.adr a), s] = [.sh (.adr a), s] ∧ demote [] [.sh (.adr a), s] = [.sh (.adr a), s]) (h : ev (fun _ => .no) (fun _ _ => .no) e [.sh (.adr a), s] = .ok (.lst xs)) :
    exS (fun _ => .no) (fun _ _ => .no) (fun _ => .no) (.asg (.one 1) e false []) [.sh (.adr a), s] = .nx [.sh (.adr a), .sh (.lst xs)] := by
  show R.out (ev (fun _ => .no) (fun _ _ => .no) e (mask [] [.sh (.adr a), s])) _ = _
  rw [hs.1, h]
  show R.out (bind (.one 1) (.lst xs) (demote [] [.sh (.adr a), s])) Out.nx = _
  rw [hs.2]; rfl
theorem isxs : ∀ (bs : List Bool) (s : Sl), evs (fun _ => .no) (fun _ _ => .no) (bs.map fun b => E.isx 0 a b) [.sh (.adr a), s] = .ok (bs.map D.bl)
  | [], _ => rfl
  | b :: bs, s => by
    show R.bind (ev _ _ (E.isx 0 a b) _) _ = _
    rw [isx0]
    show R.bind (evs _ _ (bs.map fun b => E.isx 0 a b) _) _ = _
    rw [isxs bs s]; rfl
theorem lsts (bs : List Bool) (s : Sl) (hb : bs.length ≤ lim) : ev (fun _ => .no) (fun _ _ => .no) (.lst (bs.map fun b => E.isx 0 a b)) [.sh (.adr a), s] = .ok (.lst (bs.map D.bl)) := by
  show R.bind (evs _ _ (bs.map fun b => E.isx 0 a b) _) _ = _
  rw [isxs]
  show fit _ _ = _
  unfold fit
  rw [if_pos (by rw [List.length_map]; exact hb)]
theorem adds (xs : List D) (bs : List Bool) (hb : bs.length ≤ 10) (hx : xs.length ≤ 10) : ev (fun _ => .no) (fun _ _ => .no) (.bin .add (.var 1) (.lst (bs.map fun b => E.isx 0 a b))) [.sh (.adr a), .sh (.lst xs)] = .ok (.lst (xs ++ bs.map D.bl)) := by
  show R.bind (R.ok (D.lst xs)) (fun x => R.bind (ev _ _ (.lst (bs.map fun b => E.isx 0 a b)) _) _) = _
  rw [R.bind_ok, lsts a bs _ (Nat.le_trans hb (by decide))]
  show fit _ _ = _
  unfold fit
  rw [if_pos (by rw [List.length_map]; exact Nat.le_trans (Nat.add_le_add hx hb) (by decide))]
end
theorem refS_ok (a c : Nat) (hc : c < 10) : exSs (fun _ => .no) (fun _ _ => .no) (fun _ => .no) (refS a fun j => decide (j = c)) [.sh (.adr a), .no] = .rt (.tup [.str refd, .int c]) := by
  unfold refS
  refine r_cons _ _ _ _ _ (r_asg a _ _ _ ⟨rfl, rfl⟩ (lsts a [decide (0 = c), decide (1 = c), decide (2 = c), decide (3 = c)] _ (by simp [lim]))) ?_
  refine r_cons _ _ _ _ _ (r_asg a _ _ _ ⟨rfl, rfl⟩ (adds a _ [decide (4 = c), decide (5 = c), decide (6 = c)] (by simp) (by simp))) ?_
  refine r_cons _ _ _ _ _ (r_asg a _ _ _ ⟨rfl, rfl⟩ (adds a _ [decide (7 = c)] (by simp) (by simp))) ?_
  refine r_cons _ _ _ _ _ (r_asg a _ _ _ ⟨rfl, rfl⟩ (adds a _ [decide (8 = c), decide (9 = c)] (by simp) (by simp))) ?_
  have key : ∀ xs : List D, mCount (.lst xs) (.bl true) = .ok (.int 1) → mIndex (.lst xs) (.bl true) = .ok (.int c) →
      exSs (fun _ => .no) (fun _ _ => .no) (fun _ => .no) [.ite (.or_ (.cmp .ne (.mt1 .count (.var 1) (.lit (.bl true))) (.lit (.int 1))) (.not_ (.isx 0 a true))) [.ret (.tup [.lit (.str refd), .neg (.lit (.int 1))])] [],
        .ret (.tup [.lit (.str refd), .mt1 .index (.var 1) (.lit (.bl true))])] [.sh (.adr a), .sh (.lst xs)] = .rt (.tup [.str refd, .int c]) := fun xs h1 h2 => by
    refine r_cons _ _ _ [.sh (.adr a), .sh (.lst xs)] _ ?_ ?_
    · have e1 : ev (fun _ => .no) (fun _ _ => .no) (.mt1 .count (.var 1) (.lit (.bl true))) [.sh (.adr a), .sh (.lst xs)] = .ok (.int 1) := h1
      have e2 : ev (fun _ => .no) (fun _ _ => .no) (.cmp .ne (.mt1 .count (.var 1) (.lit (.bl true))) (.lit (.int 1))) [.sh (.adr a), .sh (.lst xs)] = .ok (.bl false) := by
        show R.bind (ev _ _ (.mt1 .count (.var 1) (.lit (.bl true))) _) _ = _
        rw [e1]; rfl
      have e3 : ev (fun _ => .no) (fun _ _ => .no) (.or_ (.cmp .ne (.mt1 .count (.var 1) (.lit (.bl true))) (.lit (.int 1))) (.not_ (.isx 0 a true))) [.sh (.adr a), .sh (.lst xs)] = .ok (.bl false) := by
        show R.bind (ev _ _ (.cmp .ne (.mt1 .count (.var 1) (.lit (.bl true))) (.lit (.int 1))) _) _ = _
        rw [e2]
        show R.bind (ev _ _ (.isx 0 a true) _) _ = _
        rw [isx0]; rfl
      show R.out (R.bind (ev _ _ (.or_ (.cmp .ne (.mt1 .count (.var 1) (.lit (.bl true))) (.lit (.int 1))) (.not_ (.isx 0 a true))) [.sh (.adr a), .sh (.lst xs)]) asBool) _ = _
      rw [e3]; rfl
    · have e1 : ev (fun _ => .no) (fun _ _ => .no) (.mt1 .index (.var 1) (.lit (.bl true))) [.sh (.adr a), .sh (.lst xs)] = .ok (.int c) := h2
      have e2 : ev (fun _ => .no) (fun _ _ => .no) (.tup [.lit (.str refd), .mt1 .index (.var 1) (.lit (.bl true))]) [.sh (.adr a), .sh (.lst xs)] = .ok (.tup [.str refd, .int c]) := by
        show R.bind (R.bind (ev _ _ (.mt1 .index (.var 1) (.lit (.bl true))) _) _ |>.bind _) _ = _
        rw [e1]; rfl
      refine r_ret _ _ _ _ ?_
      exact e2
  refine key _ ?_ ?_
  · match c, hc with
    | 0, _ => rfl
    | 1, _ => rfl
    | 2, _ => rfl
    | 3, _ => rfl
    | 4, _ => rfl
    | 5, _ => rfl
    | 6, _ => rfl
    | 7, _ => rfl
    | 8, _ => rfl
    | 9, _ => rfl
  · match c, hc with
    | 0, _ => rfl
    | 1, _ => rfl
    | 2, _ => rfl
    | 3, _ => rfl
    | 4, _ => rfl
    | 5, _ => rfl
    | 6, _ => rfl
    | 7, _ => rfl
    | 8, _ => rfl
    | 9, _ => rfl

/-- no exception leaves it -/
theorem fn_calm {P : Program} {w : World} {K : PySem.W.Frag} {mg : Str → Option Value} {base : Heap} {k : Nat} {f : Addr} {fd : FuncData} {ps : List Str} {sp : Sp} (F : FnOk P w K mg base (L2N.CX P w) k f fd ps sp) : FnOk P w K mg base CX0 k f fd ps (fun vs H Q _ => sp vs H Q fun _ _ _ => False) :=
  ⟨fun vs H Q _ h => F.len vs H Q _ h, fun A outer s H args us vs Q E hr he hb hv hs => codeAny_mono (F.run A outer s H args us vs Q (fun _ _ _ => False) hr he hb hv hs) fun r s' hq => by
    cases r with
    | error e =>
      obtain ⟨_, _, _, _, _, _, _, _, _, _, _, _, z⟩ := hq
      exact z.elim
    | ok fl => cases fl <;> exact hq⟩
def dfD (d : Df) : He.DefD := ⟨(d.x, none), d.x, d.x, defArgs d.st, defBody d.st, defScope d.st, [], []⟩
theorem Lw.at_of {L : Lw} {w : World} {K : PySem.W.Frag} {h : Heap} {mg : Str → Option Value} {ts : List He.Tab} (X : K.In h) (G : h.Ns mainGlobals mg) (c : He.SaysX [] ((L.dfs ++ [L.rfd]).map dfD) ts [] L.okK w h K)
    (hd : ∀ p ∈ L.gs, ∀ ks ds, p.2 = .gdc ks ds → ∃ (i : Nat) (t : He.Tab), ts[i]? = some t ∧ t.1 K = He.ga K p.1) : L.At w K mg where
  ok := c.more
  mgf := fun x v e => PySem.W.mg_of X G e
  mgn := fun x e => PySem.W.mg_none_of X G e
  dict := fun p hp ks ds e => by
    obtain ⟨i, t, h1, h2⟩ := hd p hp ks ds e
    rw [← h2]
    exact c.t.tab i h1
  fun_ := fun d hd => by
    have hm : d ∈ L.dfs ++ [L.rfd] := by
      rcases hd with h | h
      · exact List.mem_append_left _ h
      · exact List.mem_append_right _ (by rw [h]; exact List.mem_singleton.mpr rfl)
    exact He.SaysD.defs c.t.d (List.mem_map.mpr ⟨d, hm, rfl⟩)
/-- the law's end -/
theorem Lw.end_ {L : Lw} {P : Program} {w : World} {K : PySem.W.Frag} {h : Heap} {mg : Str → Option Value} {fa : Addr} (O : L.Ok) (T : L.At w K mg) (X : K.In h) (m j : Nat) (d : Df) (hj : L.dfs[j]? = some d) (hp : d.ps = [("script" : Str)]) (hfa : mg d.x = some (.ref fa))
    (hlaw : ∀ ns : List Int, ns.length ≤ 63 → callF L.pr m j [.scr ns] = .ok (.bl true)) :
    ∃ (K : PySem.W.Frag) (fd : FuncData) (sp : Sp), K.In h ∧ (∀ (s : Shared) (u : Value), BindsTo s fd ⟨[u], []⟩ [("script", u)]) ∧
        (∀ (H : Hp) (a : Addr) (ns : List Int), ns.length ≤ 63 → Only H → SqL K H a (ns.map V.int) → sp [.ref a] H (fun v _ => v = .bl true) fun _ _ _ => False) ∧
        ∀ base : Heap, K.In base → base.Ns mainGlobals mg → FnOk P w K mg base CX0 (m + 1) fa fd ["script"] sp := by
  have hmem := List.mem_of_getElem? hj
  have hg := T.glo (T.parts.1 d hmem)
  rw [hfa] at hg
  cases hg
  obtain ⟨fd, F⟩ := T.fun_ d (.inl hmem)
  have hb := O.binds d (.inl hmem)
  rw [hp] at hb
  refine ⟨K, fd, fun vs H Q _ => (L.ct K w m fun _ _ _ _ => False).sp j 1 vs H Q fun _ _ _ => False, X, fun s u => F.bindsA (ps := ["script"]) hb s [u] rfl, fun H a ns hl _ hS => ?_, fun base _ _ => ?_⟩
  · refine ⟨rfl, H, [.scr ns], Same.refl _, ⟨.ref a, [], rfl, ⟨a, rfl, hS⟩, rfl⟩, ?_⟩
    show fin K w (callF L.pr m j [.scr ns]) H H _ _
    rw [hlaw ns hl]
    exact fun v F' H' _ r => r
  · obtain ⟨fd2, G1, _, _, F2⟩ := Lw.fns (P := P) (base := base) O T m j d hj
    have e : fd2 = fd := by
      obtain ⟨_, _, _, _, _, _, _, _, _, _, _, l1, _⟩ := F.ex
      obtain ⟨_, _, _, _, _, _, _, _, _, _, _, l2, _⟩ := F2.ex
      rw [l1] at l2
      cases l2; rfl
    subst e
    have G2 := fn_calm G1
    rw [hp] at G2
    exact G2
end Ev

/-! Plain reckoning with the evaluator. -/
namespace Ev
def Out.thn (o : Out) (f : Env → Out) : Out := match o with
  | .nx env' => f env'
  | .rt d => .rt d
  | .ex c => .ex c
  | .no => .no
@[simp] theorem thn_nx (e : Env) (f : Env → Out) : (Out.nx e).thn f = f e := rfl
@[simp] theorem thn_rt (d : D) (f : Env → Out) : (Out.rt d).thn f = .rt d := rfl
@[simp] theorem thn_ex (c : Nat) (f : Env → Out) : (Out.ex c).thn f = .ex c := rfl
@[simp] theorem thn_no (f : Env → Out) : Out.no.thn f = .no := rfl
section
variable {glob : Nat → R D} {fn : Nat → List D → R D} {refu : Nat → R D} {env : Env}
@[simp] theorem ev_nul : ev glob fn .nul env = .ok .non := rfl
@[simp] theorem ev_var (i : Nat) : ev glob fn (.var i) env = look env i := rfl
@[simp] theorem ev_lit (d : D) : ev glob fn (.lit d) env = .ok d := rfl
@[simp] theorem ev_glo (g : Nat) : ev glob fn (.glo g) env = glob g := rfl
@[simp] theorem ev_tup (es : List E) : ev glob fn (.tup es) env = (evs glob fn es env).bind fun ds => fit ds.length (.tup ds) := rfl
@[simp] theorem ev_lst (es : List E) : ev glob fn (.lst es) env = (evs glob fn es env).bind fun ds => fit ds.length (.lst ds) := rfl
@[simp] theorem ev_bin (o : B2) (a b : E) : ev glob fn (.bin o a b) env = (ev glob fn a env).bind fun x => (ev glob fn b env).bind fun y => bop o x y := rfl
@[simp] theorem ev_cmp (o : C2) (a b : E) : ev glob fn (.cmp o a b) env = (ev glob fn a env).bind fun x => (ev glob fn b env).bind fun y => (cop o x y).bind fun z => .ok (.bl z) := rfl
@[simp] theorem ev_cmp2 (o p : C2) (a b c : E) : ev glob fn (.cmp2 o p a b c) env = (ev glob fn a env).bind fun x => (ev glob fn b env).bind fun y => (cop o x y).bind fun z =>
      if z then (ev glob fn c env).bind fun w => (cop p y w).bind fun u => .ok (.bl u) else .ok (.bl false) := rfl
@[simp] theorem ev_and (a b : E) : ev glob fn (.and_ a b) env = (ev glob fn a env).bind fun x => (asBool x).bind fun z => if z then ev glob fn b env else .ok (.bl false) := rfl
@[simp] theorem ev_or (a b : E) : ev glob fn (.or_ a b) env = (ev glob fn a env).bind fun x => (asBool x).bind fun z => if z then .ok (.bl true) else ev glob fn b env := rfl
@[simp] theorem ev_not (a : E) : ev glob fn (.not_ a) env = (ev glob fn a env).bind fun x => (asBool x).bind fun z => .ok (.bl (!z)) := rfl
@[simp] theorem ev_ite (c a b : E) : ev glob fn (.ite c a b) env = (ev glob fn c env).bind fun x => (asBool x).bind fun z => if z then ev glob fn a env else ev glob fn b env := rfl
@[simp] theorem ev_idx (a i : E) : ev glob fn (.idx a i) env = (ev glob fn a env).bind fun x => (ev glob fn i env).bind fun y => idx x y := rfl
@[simp] theorem ev_slc (a l u : E) : ev glob fn (.slc a l u) env = (ev glob fn a env).bind fun x => (if l.isNul then .ok none else (ev glob fn l env).bind intOf).bind fun y =>
      (if u.isNul then .ok none else (ev glob fn u env).bind intOf).bind fun z => slc x y z := rfl
@[simp] theorem ev_rev (a : E) : ev glob fn (.rev a) env = (ev glob fn a env).bind fun x => rvs x := rfl
@[simp] theorem ev_call (f : Nat) (es : List E) : ev glob fn (.call f es) env = (evs glob fn es env).bind fun ds => fn f ds := rfl
@[simp] theorem ev_isi (a : E) (t : Ty) : ev glob fn (.isi a t) env = (ev glob fn a env).bind fun x => isTyR t x := rfl
@[simp] theorem ev_bi1 (f : Bi) (a : E) : ev glob fn (.bi1 f a) env = (ev glob fn a env).bind fun x => bi1 f x := rfl
@[simp] theorem ev_bi2 (f : Bi) (a b : E) : ev glob fn (.bi2 f a b) env = (ev glob fn a env).bind fun x => (ev glob fn b env).bind fun y => bi2 f x y := rfl
@[simp] theorem ev_neg (a : E) : ev glob fn (.neg a) env = (ev glob fn a env).bind fun x => match x with
    | .int i => .ok (.int (-i))
    | _ => .no := rfl
@[simp] theorem evs_nil : evs glob fn [] env = .ok [] := rfl
@[simp] theorem evs_cons (e : E) (es : List E) : evs glob fn (e :: es) env = (ev glob fn e env).bind fun d => (evs glob fn es env).bind fun ds => .ok (d :: ds) := rfl
@[simp] theorem exSs_nil : exSs glob fn refu [] env = .nx env := rfl
@[simp] theorem exSs_cons (s : S) (ss : List S) : exSs glob fn refu (s :: ss) env = (exS glob fn refu s env).thn (exSs glob fn refu ss) := rfl
@[simp] theorem exS_ret (e : E) : exS glob fn refu (.ret e) env = (ev glob fn e (open_ env)).out .rt := rfl
@[simp] theorem exS_exp (e : E) : exS glob fn refu (.exp e) env = (ev glob fn e (open_ env)).out fun _ => .nx env := rfl
@[simp] theorem exS_ite (c : E) (a b : List S) : exS glob fn refu (.ite c a b) env = ((ev glob fn c (open_ env)).bind asBool).out fun z => if z then exSs glob fn refu a env else exSs glob fn refu b env := rfl
@[simp] theorem exS_raise (c : Nat) (e : E) : exS glob fn refu (.raise c e) env = (ev glob fn e (open_ env)).out fun _ => .ex c := rfl
@[simp] theorem exS_asg (t : T) (e : E) (uses : List Nat) : exS glob fn refu (.asg t e false uses) env = (ev glob fn e (mask uses env)).out fun d => (bind t d (after d uses env)).out .nx := rfl
@[simp] theorem look_zero (s : Sl) (r : Env) : look (s :: r) 0 = s.val := rfl
@[simp] theorem look_succ (s : Sl) (r : Env) (i : Nat) : look (s :: r) (i + 1) = look r i := rfl
@[simp] theorem val_sh (d : D) : (Sl.sh d).val = .ok d := rfl
@[simp] theorem val_ow (d : D) : (Sl.ow d).val = .ok d := rfl
@[simp] theorem val_no : Sl.no.val = .no := rfl
@[simp] theorem asBool_bl (b : Bool) : asBool (.bl b) = .ok b := rfl
@[simp] theorem bind_one (i : Nat) (d : D) (e : Env) : bind (.one i) d e = if i < e.length then .ok (e.set i (.sh d)) else .no := rfl
@[simp] theorem bind_many (ts : List T) (xs : List D) (e : Env) : bind (.many ts) (.tup xs) e = binds ts xs e := rfl
@[simp] theorem binds_nil (e : Env) : binds [] [] e = .ok e := rfl
@[simp] theorem binds_cons (t : T) (ts : List T) (x : D) (xs : List D) (e : Env) : binds (t :: ts) (x :: xs) e = (bind t x e).bind fun e' => binds ts xs e' := rfl
@[simp] theorem intOf_int (i : Int) : intOf (.int i) = .ok (some i) := rfl
@[simp] theorem bop_add (a b : Int) : bop .add (.int a) (.int b) = .ok (.int (a + b)) := rfl
end
/-- no slot of one's own -/
def plain : Env → Bool
  | [] => true
  | .ow _ :: _ => false
  | .sh _ :: r => plain r
  | .no :: r => plain r
@[simp] theorem plain_nil : plain [] = true := rfl
@[simp] theorem plain_sh (d : D) (r : Env) : plain (.sh d :: r) = plain r := rfl
@[simp] theorem plain_no (r : Env) : plain (.no :: r) = plain r := rfl
theorem seen_of (b : Bool) : ∀ (s : Sl), (∀ d, s ≠ .ow d) → s.seen b = s ∧ s.free b = s
  | .no, _ => ⟨rfl, rfl⟩
  | .sh _, _ => ⟨rfl, rfl⟩
  | .ow d, h => absurd rfl (h d)
theorem plain_at : ∀ {env : Env} {i : Nat} {s : Sl}, plain env = true → env[i]? = some s → ∀ d, s ≠ .ow d
  | [], i, s, _, e => by simp at e
  | .ow _ :: _, _, _, h, _ => by cases h
  | .sh x :: r, 0, s, h, e => by cases e; exact fun d z => by cases z
  | .sh x :: r, i + 1, s, h, e => plain_at (env := r) (i := i) h e
  | .no :: r, 0, s, h, e => by cases e; exact fun d z => by cases z
  | .no :: r, i + 1, s, h, e => plain_at (env := r) (i := i) h e
theorem mask_plain {env : Env} {uses : List Nat} (h : plain env = true) : mask uses env = env := by
  unfold mask
  refine List.ext_getElem? fun i => ?_
  rw [List.getElem?_mapIdx]
  cases e : env[i]? with
  | none => rfl
  | some s => rw [Option.map_some, (seen_of _ s (plain_at h e)).1]
theorem open_plain {env : Env} (h : plain env = true) : open_ env = env := by
  unfold open_
  refine List.ext_getElem? fun i => ?_
  rw [List.getElem?_map]
  cases e : env[i]? with
  | none => rfl
  | some s => rw [Option.map_some, (seen_of _ s (plain_at h e)).1]
theorem demote_plain {env : Env} {uses : List Nat} (h : plain env = true) : demote uses env = env := by
  unfold demote
  refine List.ext_getElem? fun i => ?_
  rw [List.getElem?_mapIdx]
  cases e : env[i]? with
  | none => rfl
  | some s => rw [Option.map_some, (seen_of _ s (plain_at h e)).2]
theorem after_plain {env : Env} {uses : List Nat} {d : D} (h : plain env = true) : after d uses env = env := by
  unfold after
  rw [demote_plain h]; split <;> rfl
@[simp] theorem open_nil : open_ [] = [] := rfl
@[simp] theorem open_sh (d : D) (r : Env) : open_ (.sh d :: r) = .sh d :: open_ r := rfl
@[simp] theorem open_no (r : Env) : open_ (.no :: r) = .no :: open_ r := rfl
@[simp] theorem open_ow (d : D) (r : Env) : open_ (.ow d :: r) = .sh d :: open_ r := rfl
def maskK (k : Nat) (uses : List Nat) : Env → Env
  | [] => []
  | s :: r => s.seen (decide (k ∈ uses)) :: maskK (k + 1) uses r
def demK (k : Nat) (uses : List Nat) : Env → Env
  | [] => []
  | s :: r => s.free (decide (k ∈ uses)) :: demK (k + 1) uses r
theorem maskK_eq (uses : List Nat) : ∀ (env : Env) (k : Nat), (env.mapIdx fun i s => s.seen (decide (i + k ∈ uses))) = maskK k uses env
  | [], _ => rfl
  | s :: r, k => by
    rw [List.mapIdx_cons, maskK, ← maskK_eq uses r (k + 1), Nat.zero_add]
    congr 2
    funext i s
    rw [show i + 1 + k = i + (k + 1) by omega]
theorem demK_eq (uses : List Nat) : ∀ (env : Env) (k : Nat), (env.mapIdx fun i s => s.free (decide (i + k ∈ uses))) = demK k uses env
  | [], _ => rfl
  | s :: r, k => by
    rw [List.mapIdx_cons, demK, ← demK_eq uses r (k + 1), Nat.zero_add]
    congr 2
    funext i s
    rw [show i + 1 + k = i + (k + 1) by omega]
@[simp] theorem mask_K (uses : List Nat) (env : Env) : mask uses env = maskK 0 uses env := maskK_eq uses env 0
@[simp] theorem demote_K (uses : List Nat) (env : Env) : demote uses env = demK 0 uses env := demK_eq uses env 0
@[simp] theorem maskK_nil (k : Nat) (uses : List Nat) : maskK k uses [] = [] := rfl
@[simp] theorem maskK_sh (k : Nat) (uses : List Nat) (d : D) (r : Env) : maskK k uses (.sh d :: r) = .sh d :: maskK (k + 1) uses r := rfl
@[simp] theorem maskK_no (k : Nat) (uses : List Nat) (r : Env) : maskK k uses (.no :: r) = .no :: maskK (k + 1) uses r := rfl
@[simp] theorem maskK_ow (k : Nat) (uses : List Nat) (d : D) (r : Env) : maskK k uses (.ow d :: r) = (if decide (k ∈ uses) then .sh d else .no) :: maskK (k + 1) uses r := rfl
@[simp] theorem demK_nil (k : Nat) (uses : List Nat) : demK k uses [] = [] := rfl
@[simp] theorem demK_sh (k : Nat) (uses : List Nat) (d : D) (r : Env) : demK k uses (.sh d :: r) = .sh d :: demK (k + 1) uses r := rfl
@[simp] theorem demK_no (k : Nat) (uses : List Nat) (r : Env) : demK k uses (.no :: r) = .no :: demK (k + 1) uses r := rfl
@[simp] theorem demK_ow (k : Nat) (uses : List Nat) (d : D) (r : Env) : demK k uses (.ow d :: r) = (if decide (k ∈ uses) then .sh d else .ow d) :: demK (k + 1) uses r := rfl
@[simp] theorem after_K (d : D) (uses : List Nat) (env : Env) : after d uses env = if flat d then env else demK 0 uses env := by unfold after; rw [demote_K]
theorem call_eq {P : Pr} {f : Nat} {fd : Fd} {ds : List D} (n : Nat) (h : P.fd f = some fd) (hl : ds.length = fd.ps) : callF P (n + 1) f ds = ended (exSs P.glob (callF P n) P.refu fd.body (start fd ds)) := by
  show (match P.fd f with
    | some fd => if ds.length = fd.ps then ended (exSs P.glob (callF P n) P.refu fd.body (start fd ds)) else .no
    | none => .no) = _
  rw [h]
  show (if ds.length = fd.ps then _ else _) = _
  rw [if_pos hl]

theorem exSs_while {glob : Nat → R D} {fn : Nat → List D → R D} {refu : Nat → R D} {c : E} {body ss : List S} {env : Env} {o : Out} (h : whileGo (fun env' => (ev glob fn c (open_ env')).bind asBool) (fun env' => exSs glob fn refu body env') turns env = o) :
    exSs glob fn refu (.while_ c body :: ss) env = o.thn (exSs glob fn refu ss) := by
  rw [exSs_cons, ← h]; rfl

/-! ### texts -/
theorem dLen_str {l : List Nat} (h : l.length ≤ 1000) : dLen (.str l) = .ok (.int l.length) := by
  show (if l.length ≤ lim then R.ok (D.int l.length) else .no) = _
  rw [if_pos (Nat.le_trans h (by decide))]
@[simp] theorem bi1_len (d : D) : bi1 .len d = dLen d := rfl
@[simp] theorem bi1_int (d : D) : bi1 .int_ d = dInt d := rfl
@[simp] theorem dInt_bl (b : Bool) : dInt (.bl b) = .ok (.int (if b then 1 else 0)) := rfl
theorem idx_str {l : List Nat} {s : Nat} {c : Nat} (h : l.length ≤ 1000) (hc : l[s]? = some c) : idx (.str l) (.int s) = .ok (.str [c]) := by
  have hs : s < l.length := (List.getElem?_eq_some_iff.mp hc).1
  have hp : place l.length (s : Int) = some s := by
    unfold place
    rw [if_pos (by omega), if_pos (by omega)]; simp
  show (if l.length ≤ lim then (match (place l.length s).bind (l[·]?) with
    | some c => R.ok (D.str [c])
    | none => .no) else .no) = _
  rw [if_pos (Nat.le_trans h (by decide)), hp]
  show (match l[s]? with
    | some c => R.ok (D.str [c])
    | none => .no) = _
  rw [hc]
theorem sIx_nat (n d a : Nat) : sIx n d (some (a : Int)) = min a n := by
  show (if (a : Int) < 0 then ((a : Int) + (n : Int)).toNat else min (a : Int).toNat n) = _
  rw [if_neg (by omega), Int.toNat_natCast]
theorem slc_str {l : List Nat} {a b : Nat} (h : l.length ≤ 1000) : slc (.str l) (some (a : Int)) (some (b : Int)) = .ok (.str ((l.drop a).take (b - a))) := by
  show (if l.length ≤ lim then R.ok (D.str (cut l (some (a : Int)) (some (b : Int)))) else .no) = _
  rw [if_pos (Nat.le_trans h (by decide))]
  have e : cut l (some (a : Int)) (some (b : Int)) = (l.drop a).take (b - a) := by
    unfold cut
    rw [sIx_nat, sIx_nat]
    by_cases ha : a ≤ l.length
    · rw [Nat.min_eq_left ha]
      by_cases hb : b ≤ l.length
      · rw [Nat.min_eq_left hb]
      · rw [Nat.min_eq_right (by omega), List.take_of_length_le (by rw [List.length_drop]; omega), List.take_of_length_le (by rw [List.length_drop]; omega)]
    · rw [List.drop_eq_nil_of_le (i := min a l.length) (by omega), List.drop_eq_nil_of_le (i := a) (by omega)]
      simp
  rw [e]
theorem add_str {a b : List Nat} (h : a.length + b.length ≤ 4000) : bop .add (.str a) (.str b) = .ok (.str (a ++ b)) := by
  show fit _ _ = _
  unfold fit
  rw [if_pos (Nat.le_trans h (by decide))]
@[simp] theorem deqR_str (a b : List Nat) : deqR (.str a) (.str b) = .ok (a == b) := rfl
@[simp] theorem cop_eq (a b : D) : cop .eq a b = deqR a b := rfl
@[simp] theorem cop_neq (a b : D) : cop .ne a b = (deqR a b).bind fun z => .ok (!z) := rfl
@[simp] theorem cop_lt (a b : Int) : cop .lt (.int a) (.int b) = .ok (decide (a < b)) := rfl
@[simp] theorem cop_gt (a b : Int) : cop .gt (.int a) (.int b) = .ok (decide (b < a)) := rfl
@[simp] theorem cop_in (a b : D) : cop .isin a b = isIn a b := rfl
@[simp] theorem cop_notin (a b : D) : cop .notin a b = (isIn a b).bind fun z => .ok (!z) := rfl
@[simp] theorem isIn_sign (c : Nat) (l : List Nat) : isIn (.str [c]) (.str l) = .ok (decide (c ∈ l)) := rfl
/-- texts among texts -/
theorem okds_strs : ∀ (n : Nat) (ws : List (List Nat)), okds n (ws.map D.str) = true
  | _, [] => rfl
  | 0, w :: ws => by show (okd 0 (.str w) && okds 0 (ws.map D.str)) = true; rw [okds_strs]; rfl
  | n + 1, w :: ws => by show (okd (n + 1) (.str w) && okds (n + 1) (ws.map D.str)) = true; rw [okds_strs]; rfl
theorem any_strs (x : List Nat) : ∀ (ws : List (List Nat)), ((ws.map D.str).any fun z => deq z (.str x)) = decide (x ∈ ws)
  | [] => by simp
  | w :: ws => by
    show (deq (.str w) (.str x) || (ws.map D.str).any fun z => deq z (.str x)) = _
    rw [any_strs x ws]
    show ((w == x) || decide (x ∈ ws)) = _
    by_cases h : w = x
    · subst h; simp
    · have h2 : ¬ x = w := fun e => h e.symm
      simp [h, h2]
theorem anyR_strs (x : List Nat) (ws : List (List Nat)) : anyR (.str x) (ws.map D.str) = .ok (decide (x ∈ ws)) := by
  unfold anyR
  have e1 : okd deep (.str x) = true := rfl
  rw [e1, okds_strs, any_strs]; rfl
theorem isIn_tupS (x : List Nat) (ws : List (List Nat)) : isIn (.str x) (.tup (ws.map D.str)) = .ok (decide (x ∈ ws)) := anyR_strs x ws
@[simp] theorem isIn_tup2 (x a b : List Nat) : isIn (.str x) (.tup [.str a, .str b]) = .ok (decide (x = a) || decide (x = b)) := by
  have := isIn_tupS x [a, b]
  simpa using this
theorem fit_ok {n : Nat} {d : D} (h : n ≤ 4000) : fit n d = .ok d := by unfold fit; rw [if_pos (Nat.le_trans h (by decide))]
theorem isIn_lstS (x : List Nat) (ws : List (List Nat)) : isIn (.str x) (.lst (ws.map D.str)) = .ok (decide (x ∈ ws)) := anyR_strs x ws
end Ev

/-! law_k32_words: what its defs compute. -/
namespace Ev
namespace K32
/-- need_tongue -/
def b0 : List S :=
   [(.ite (.or_ (.not_ (.isi (.var 0) .str)) (.cmp .notin (.var 0) (.glo 0))) [(.raise 5 (.lit .non))] [])]
/-- quoted_to -/
def b1 : List S :=
   [(.asg (.one 4) (.lit (.str [])) false []),
    (.asg (.one 5) (.var 1) false [1]),
    (.while_ (.cmp .lt (.var 5) (.bi1 .len (.var 0))) [(.asg (.one 6) (.idx (.var 0) (.var 5)) false [0, 5]),
    (.ite (.and_ (.var 3) (.and_ (.cmp .eq (.var 6) (.lit (.str [92]))) (.cmp .isin (.slc (.var 0) (.bin .add (.var 5) (.lit (.int (1)))) (.bin .add (.var 5) (.lit (.int (2))))) (.tup [(.lit (.str [92])), (.var 2)])))) [(.asg (.one 4) (.bin .add (.var 4) (.idx (.var 0) (.bin .add (.var 5) (.lit (.int (1)))))) false [4, 0, 5]),
    (.asg (.one 5) (.bin .add (.var 5) (.lit (.int (2)))) false [5])] [(.ite (.cmp .ne (.var 6) (.var 2)) [(.asg (.one 4) (.bin .add (.var 4) (.var 6)) false [4, 6]),
    (.asg (.one 5) (.bin .add (.var 5) (.lit (.int (1)))) false [5])] [(.ite (.and_ (.not_ (.var 3)) (.cmp .eq (.slc (.var 0) (.bin .add (.var 5) (.lit (.int (1)))) (.bin .add (.var 5) (.lit (.int (2))))) (.var 2))) [(.asg (.one 4) (.bin .add (.var 4) (.var 2)) false [4, 2]),
    (.asg (.one 5) (.bin .add (.var 5) (.lit (.int (2)))) false [5])] [(.ret (.tup [(.var 4), (.bin .add (.var 5) (.lit (.int (1))))]))])])])]),
    (.raise 6 (.lit .non))]
/-- run_to -/
def b2 : List S :=
   [(.while_ (.and_ (.cmp .lt (.var 1) (.bi1 .len (.var 0))) (.cmp .isin (.idx (.var 0) (.var 1)) (.var 2))) [(.asg (.one 1) (.bin .add (.var 1) (.lit (.int (1)))) false [1])]),
    (.ret (.var 1))]
/-- words_in -/
def b3 : List S :=
   [(.exp (.call 0 [(.var 0)])),
    (.ite (.not_ (.isi (.var 1) .str)) [(.raise 6 (.lit .non))] []),
    (.asg (.one 2) (.lst []) true []),
    (.asg (.one 3) (.call 2 [(.var 1), (.lit (.int (0))), (.lit (.str [32]))]) false [1]),
    (.while_ (.cmp .lt (.var 3) (.bi1 .len (.var 1))) [(.asg (.many [(.one 4), (.one 5), (.one 3)]) (.call 4 [(.var 0), (.var 1), (.var 3)]) false [0, 1, 3]),
    (.app 2 (.tup [(.var 4), (.var 5)]) [4, 5]),
    (.asg (.one 3) (.call 2 [(.var 1), (.var 3), (.lit (.str [32]))]) false [1, 3])]),
    (.ret (.var 2))]
/-- word_at -/
def b4 : List S :=
   [(.asg (.one 3) (.idx (.var 1) (.var 2)) false [1, 2]),
    (.ite (.cmp .eq (.var 3) (.idx (.idx (.glo 1) (.var 0)) (.lit (.int (0))))) [(.asg (.many [(.one 5), (.one 4)]) (.call 1 [(.var 1), (.bin .add (.var 2) (.lit (.int (1)))), (.idx (.idx (.glo 1) (.var 0)) (.lit (.int (1)))), (.lit (.bl false))]) false [1, 2, 0]),
    (.ret (.tup [(.lit (.str [110, 97, 109, 101])), (.var 5), (.var 4)]))] []),
    (.ite (.cmp .eq (.var 3) (.lit (.str [39]))) [(.asg (.many [(.one 6), (.one 4)]) (.call 1 [(.var 1), (.bin .add (.var 2) (.lit (.int (1)))), (.lit (.str [39])), (.cmp .eq (.var 0) (.lit (.str [116, 105, 99, 107])))]) false [1, 2, 0]),
    (.ret (.tup [(.lit (.str [116, 101, 120, 116])), (.var 6), (.var 4)]))] []),
    (.ite (.cmp .isin (.var 3) (.glo 2)) [(.ret (.tup [(.lit (.str [115, 105, 103, 110])), (.var 3), (.bin .add (.var 2) (.lit (.int (1))))]))] []),
    (.asg (.one 4) (.call 2 [(.var 1), (.bin .add (.var 2) (.bi1 .int_ (.cmp .eq (.var 3) (.lit (.str [45]))))), (.glo 5)]) false [1, 2, 3]),
    (.ite (.cmp .gt (.var 4) (.bin .add (.var 2) (.bi1 .int_ (.cmp .eq (.var 3) (.lit (.str [45])))))) [(.ret (.tup [(.lit (.str [110, 117, 109, 98, 101, 114])), (.bi1 .int_ (.slc (.var 1) (.var 2) (.var 4))), (.var 4)]))] []),
    (.asg (.one 4) (.call 2 [(.var 1), (.var 2), (.glo 4)]) false [1, 2]),
    (.ite (.cmp .notin (.slc (.var 1) (.var 2) (.var 4)) (.glo 3)) [(.raise 6 (.lit .non))] []),
    (.ret (.tup [(.lit (.str [119, 111, 114, 100])), (.slc (.var 1) (.var 2) (.var 4)), (.var 4)]))]
/-- _law_cell -/
def b5 : List S :=
   [(.ite (.cmp .eq (.var 0) (.lst [])) [(.ret (.bin .mul (.lit (.int (7))) (.var 1)))] []),
    (.ret (.bin .add (.idx (.var 0) (.bin .mod (.var 1) (.bi1 .len (.var 0)))) (.bin .mul (.lit (.int (6553))) (.bin .fdiv (.var 1) (.bi1 .len (.var 0))))))]
/-- _law_drawn -/
def b6 : List S :=
   [(.asg (.one 3) (.bin .mod (.bin .add (.bin .mul (.bin .mod (.call 5 [(.var 0), (.var 1)]) (.lit (.int (2147483563)))) (.lit (.int (69069)))) (.bin .mul (.lit (.int (104723))) (.bin .add (.var 1) (.lit (.int (1)))))) (.lit (.int (2147483563)))) false [0, 1, 1]),
    (.asg (.one 3) (.bin .mod (.bin .add (.bin .mul (.var 3) (.var 3)) (.bin .fdiv (.var 3) (.lit (.int (3))))) (.lit (.int (2147483399)))) false [3, 3, 3]),
    (.ret (.bin .mod (.bin .fdiv (.bin .mod (.bin .add (.bin .mul (.var 3) (.var 3)) (.bin .fdiv (.var 3) (.lit (.int (7))))) (.lit (.int (2147483647)))) (.lit (.int (11)))) (.var 2)))]
/-- _law_told -/
def b7 : List S :=
   [(.tryR (.call 3 [(.var 0), (.var 1)]) 2)]
/-- _law_quote -/
def b8 : List S :=
   [(.asg (.one 5) (.lit (.str [])) false []),
    (.while_ (.cmp .lt (.var 1) (.bi1 .len (.var 0))) [(.ite (.and_ (.var 4) (.cmp .isin (.slc (.var 0) (.var 1) (.bin .add (.var 1) (.lit (.int (2))))) (.tup [(.bin .add (.lit (.str [92])) (.var 2)), (.lit (.str [92, 92]))]))) [(.asg (.one 5) (.bin .add (.var 5) (.idx (.var 0) (.bin .add (.var 1) (.lit (.int (1)))))) false [5, 0, 1]),
    (.asg (.one 1) (.bin .add (.var 1) (.lit (.int (2)))) false [1])] [(.ite (.and_ (.var 3) (.cmp .eq (.slc (.var 0) (.var 1) (.bin .add (.var 1) (.lit (.int (2))))) (.bin .add (.var 2) (.var 2)))) [(.asg (.one 5) (.bin .add (.var 5) (.var 2)) false [5, 2]),
    (.asg (.one 1) (.bin .add (.var 1) (.lit (.int (2)))) false [1])] [(.ite (.cmp .eq (.idx (.var 0) (.var 1)) (.var 2)) [(.ret (.tup [(.var 5), (.bin .add (.var 1) (.lit (.int (1))))]))] [(.asg (.one 5) (.bin .add (.var 5) (.idx (.var 0) (.var 1))) false [5, 0, 1]),
    (.asg (.one 1) (.bin .add (.var 1) (.lit (.int (1)))) false [1])])])])]),
    (.ret (.lit .non))]
/-- _law_next -/
def b9 : List S :=
   [(.asg (.one 3) (.idx (.var 1) (.var 2)) false [1, 2]),
    (.asg (.many [(.one 7), (.one 8)]) (.idx (.dct [(.s [100, 111, 117, 98, 108, 101]), (.s [98, 114, 97, 99, 107, 101, 116]), (.s [116, 105, 99, 107])] [(.tup [(.lit (.str [34])), (.lit (.str [34]))]), (.tup [(.lit (.str [91])), (.lit (.str [93]))]), (.tup [(.lit (.str [96])), (.lit (.str [96]))])]) (.var 0)) false [0]),
    (.ite (.cmp .isin (.var 3) (.tup [(.var 7), (.lit (.str [39]))])) [(.asg (.one 9) (.cmp .eq (.var 3) (.var 7)) false [3, 7]),
    (.asg (.one 10) (.and_ (.not_ (.var 9)) (.cmp .eq (.var 0) (.lit (.str [116, 105, 99, 107])))) false [9, 0]),
    (.asg (.one 11) (.call 8 [(.var 1), (.bin .add (.var 2) (.lit (.int (1)))), (.ite (.var 9) (.var 8) (.lit (.str [39]))), (.not_ (.var 10)), (.var 10)]) false [1, 2, 9, 8, 10, 10]),
    (.asg (.one 12) (.ite (.var 9) (.lit (.str [110, 97, 109, 101])) (.lit (.str [116, 101, 120, 116]))) false [9]),
    (.ret (.ite (.cmp .is_ (.var 11) (.lit .non)) (.lit .non) (.tup [(.tup [(.var 12), (.idx (.var 11) (.lit (.int (0))))]), (.idx (.var 11) (.lit (.int (1))))])))] []),
    (.ite (.cmp .isin (.var 3) (.lit (.str [40, 41, 44, 46, 61, 60, 43, 38, 63]))) [(.ret (.tup [(.tup [(.lit (.str [115, 105, 103, 110])), (.var 3)]), (.bin .add (.var 2) (.lit (.int (1))))]))] []),
    (.asg (.one 4) (.bin .add (.var 2) (.bi1 .int_ (.cmp .eq (.var 3) (.lit (.str [45]))))) false [2, 3]),
    (.asg (.one 5) (.lit (.str [])) false []),
    (.while_ (.and_ (.cmp .lt (.var 4) (.bi1 .len (.var 1))) (.cmp .isin (.idx (.var 1) (.var 4)) (.lit (.str [48, 49, 50, 51, 52, 53, 54, 55, 56, 57])))) [(.asg (.one 5) (.bin .add (.var 5) (.idx (.var 1) (.var 4))) false [5, 1, 4]),
    (.asg (.one 4) (.bin .add (.var 4) (.lit (.int (1)))) false [4])]),
    (.ite (.cmp .ne (.var 5) (.lit (.str []))) [(.ret (.tup [(.tup [(.lit (.str [110, 117, 109, 98, 101, 114])), (.bin .mul (.bi1 .int_ (.var 5)) (.ite (.cmp .eq (.var 3) (.lit (.str [45]))) (.neg (.lit (.int (1)))) (.lit (.int (1)))))]), (.var 4)]))] []),
    (.asg (.one 4) (.var 2) false [2]),
    (.while_ (.and_ (.cmp .lt (.var 4) (.bi1 .len (.var 1))) (.cmp2 .le .le (.lit (.str [97])) (.idx (.var 1) (.var 4)) (.lit (.str [122])))) [(.asg (.one 4) (.bin .add (.var 4) (.lit (.int (1)))) false [4])]),
    (.asg (.one 6) (.lst [(.lit (.str [97, 115, 107])), (.lit (.str [97, 115])), (.lit (.str [102, 114, 111, 109])), (.lit (.str [119, 104, 101, 114, 101])), (.lit (.str [98, 121])), (.lit (.str [102, 105, 114, 115, 116])), (.lit (.str [117, 112])), (.lit (.str [100, 111, 119, 110])), (.lit (.str [97, 110, 100])), (.lit (.str [111, 114])), (.lit (.str [110, 111, 116])), (.lit (.str [105, 110]))]) false []),
    (.ret (.ite (.cmp .isin (.slc (.var 1) (.var 2) (.var 4)) (.var 6)) (.tup [(.tup [(.lit (.str [119, 111, 114, 100])), (.slc (.var 1) (.var 2) (.var 4))]), (.var 4)]) (.lit .non)))]
/-- _law_due -/
def b10 : List S :=
   [(.asg (.one 2) (.lst []) true []),
    (.asg (.one 3) (.lit (.int (0))) false []),
    (.while_ (.cmp .lt (.var 3) (.bi1 .len (.var 1))) [(.ite (.cmp .eq (.idx (.var 1) (.var 3)) (.lit (.str [32]))) [(.asg (.one 3) (.bin .add (.var 3) (.lit (.int (1)))) false [3])] [(.asg (.one 4) (.call 9 [(.var 0), (.var 1), (.var 3)]) false [0, 1, 3]),
    (.ite (.cmp .is_ (.var 4) (.lit .non)) [(.ret (.tup [(.lit (.str [114, 101, 102, 117, 115, 101, 100])), (.lit (.int (6)))]))] []),
    (.app 2 (.idx (.var 4) (.lit (.int (0)))) [4]),
    (.asg (.one 3) (.idx (.var 4) (.lit (.int (1)))) false [4])])]),
    (.ret (.var 2))]
/-- law -/
def b11 : List S :=
   [(.asg (.one 1) (.lst [(.lit (.str [39])), (.lit (.str [39, 39])), (.lit (.str [92, 39])), (.lit (.str [92, 92])), (.lit (.str [34])), (.lit (.str [34, 34])), (.lit (.str [91])), (.lit (.str [93])), (.lit (.str [93, 93])), (.lit (.str [96])), (.lit (.str [96, 96])), (.lit (.str [32])), (.lit (.str [97, 115, 107])), (.lit (.str [97, 115]))]) false []),
    (.asg (.one 1) (.bin .add (.var 1) (.lst [(.lit (.str [105, 110])), (.lit (.str [102, 105, 114, 115, 116])), (.lit (.str [97])), (.lit (.str [97, 115, 107, 105, 110])), (.lit (.str [49, 50])), (.lit (.str [45])), (.lit (.str [45, 55]))])) false [1]),
    (.asg (.one 1) (.bin .add (.var 1) (.lst [(.lit (.str [48])), (.lit (.str [48, 48, 55])), (.lit (.str [40])), (.lit (.str [41])), (.lit (.str [44])), (.lit (.str [46])), (.lit (.str [61])), (.lit (.str [60])), (.lit (.str [43])), (.lit (.str [38])), (.lit (.str [63])), (.lit (.str [39, 97, 39])), (.lit (.str [34, 98, 34])), (.lit (.str [91, 99, 93]))])) false [1]),
    (.asg (.one 1) (.bin .add (.var 1) (.lst [(.lit (.str [96, 100, 96])), (.lit (.str [120])), (.lit (.str [10])), (.lit (.str [117, 112, 32, 100, 111, 119, 110])), (.lit (.str [49, 97, 115, 107])), (.lit (.str [45, 45, 49]))])) false [1]),
    (.asg (.one 2) (.lst []) true []),
    (.for_ (.one 3) .range [(.lit (.int (4)))] [] [(.asg (.one 6) (.lit (.str [])) false []),
    (.for_ (.one 7) .range [(.bin .add (.lit (.int (1))) (.call 6 [(.var 0), (.bin .mul (.lit (.int (20))) (.var 3)), (.lit (.int (6)))]))] [0, 3] [(.asg (.one 6) (.bin .add (.var 6) (.idx (.var 1) (.call 6 [(.var 0), (.bin .add (.bin .add (.bin .mul (.lit (.int (20))) (.var 3)) (.lit (.int (1)))) (.var 7)), (.bi1 .len (.var 1))]))) false [6, 1, 0, 3, 7, 1])]),
    (.app 2 (.var 6) [6])]),
    (.asg (.one 4) (.lst [(.lit (.str [])), (.lit (.str [32, 32])), (.lit (.str [39, 97, 39, 39, 98, 39])), (.lit (.str [39, 97, 39, 32, 39, 98, 39])), (.lit (.str [39, 92, 39])), (.lit (.str [39, 92, 97, 39])), (.lit (.str [39, 92, 92, 39])), (.lit (.str [34, 97, 34, 34, 98, 34])), (.lit (.str [91, 97, 93, 93, 98, 93]))]) false []),
    (.asg (.one 4) (.bin .add (.var 4) (.lst [(.lit (.str [96, 96])), (.lit (.str [96, 97, 96, 96, 98, 96])), (.lit (.str [49, 32, 50])), (.lit (.str [49, 45, 50])), (.lit (.str [97, 115, 107, 49])), (.lit (.str [97, 115, 102, 114, 111, 109]))])) false [4]),
    (.for_ (.one 5) .val [(.tup [(.lit (.str [100, 111, 117, 98, 108, 101])), (.lit (.str [98, 114, 97, 99, 107, 101, 116])), (.lit (.str [116, 105, 99, 107]))])] [] [(.for_ (.one 6) .val [(.bin .add (.bin .add (.var 2) (.var 4)) (.var 1))] [2, 4, 1] [(.ite (.cmp .ne (.call 7 [(.var 5), (.var 6)]) (.call 10 [(.var 5), (.var 6)])) [(.ret (.lit (.bl false)))] [])]),
    (.ite (.cmp .ne (.lc (.call 7 [(.var 5), (.var 8)]) (.one 8) .val [(.tup [(.lit .non), (.lit (.int (5))), (.tup [(.lit (.str [97, 115, 107]))]), (.lst [(.lit (.str [97]))])])] [] [8]) (.bin .mul (.lst [(.tup [(.lit (.str [114, 101, 102, 117, 115, 101, 100])), (.lit (.int (6)))])]) (.lit (.int (4))))) [(.ret (.lit (.bl false)))] [])]),
    (.ret (.cmp .eq (.lc (.call 7 [(.var 8), (.lit (.str [36]))]) (.one 8) .val [(.tup [(.lit (.str [])), (.lit (.str [84, 105, 99, 107])), (.lit .non), (.lit (.int (1)))])] [] [8]) (.bin .mul (.lst [(.tup [(.lit (.str [114, 101, 102, 117, 115, 101, 100])), (.lit (.int (5)))])]) (.lit (.int (4))))))]

def refd : List Nat := [114, 101, 102, 117, 115, 101, 100]
def tgs : List (List Nat) := [[100, 111, 117, 98, 108, 101], [98, 114, 97, 99, 107, 101, 116], [116, 105, 99, 107]]
def sgs : List Nat := [40, 41, 44, 46, 61, 60, 43, 38, 63]
def wds : List (List Nat) := [[97, 115, 107], [97, 115], [102, 114, 111, 109], [119, 104, 101, 114, 101], [98, 121], [102, 105, 114, 115, 116], [117, 112], [100, 111, 119, 110], [97, 110, 100], [111, 114], [110, 111, 116], [105, 110]]
def lts : List Nat := [97, 98, 99, 100, 101, 102, 103, 104, 105, 106, 107, 108, 109, 110, 111, 112, 113, 114, 115, 116, 117, 118, 119, 120, 121, 122]
def fgs : List Nat := [48, 49, 50, 51, 52, 53, 54, 55, 56, 57]
def gl : Nat → R D
  | 0 => .ok (.tup (tgs.map D.str))
  | 1 => .ok (.gdc tgs [.tup [.str [34], .str [34]], .tup [.str [91], .str [93]], .tup [.str [96], .str [96]]])
  | 2 => .ok (.str sgs)
  | 3 => .ok (.tup (wds.map D.str))
  | 4 => .ok (.str lts)
  | 5 => .ok (.str fgs)
  | _ => .no
def fds : Nat → Option Fd
  | 0 => some ⟨1, 1, b0⟩
  | 1 => some ⟨4, 7, b1⟩
  | 2 => some ⟨3, 3, b2⟩
  | 3 => some ⟨2, 6, b3⟩
  | 4 => some ⟨3, 7, b4⟩
  | 5 => some ⟨2, 2, b5⟩
  | 6 => some ⟨3, 4, b6⟩
  | 7 => some ⟨2, 3, b7⟩
  | 8 => some ⟨5, 6, b8⟩
  | 9 => some ⟨3, 13, b9⟩
  | 10 => some ⟨2, 5, b10⟩
  | 11 => some ⟨1, 9, b11⟩
  | _ => none
def rfu (c : Nat) : R D := if c < 10 then .ok (.tup [.str refd, .int c]) else .no
def pr : Pr := ⟨gl, fds, rfu⟩
end K32
end Ev

/-! law_k32_words: runs of signs, quotes. -/
namespace Ev
namespace K32
/-! ### run_to -/
def runL (sg : List Nat) (l : List Nat) : Nat := (l.takeWhile fun c => decide (c ∈ sg)).length
theorem runL_in {sg l : List Nat} {c : Nat} (h : c ∈ sg) : runL sg (c :: l) = 1 + runL sg l := by
  unfold runL
  rw [List.takeWhile_cons, if_pos (by simpa using h), List.length_cons]; omega
theorem runL_out {sg l : List Nat} {c : Nat} (h : c ∉ sg) : runL sg (c :: l) = 0 := by
  unfold runL
  rw [List.takeWhile_cons, if_neg (by simpa using h)]; rfl
theorem runL_le (sg : List Nat) : ∀ l : List Nat, runL sg l ≤ l.length
  | [] => Nat.le_refl _
  | c :: l => by
    by_cases h : c ∈ sg
    · rw [runL_in h, List.length_cons]; have := runL_le sg l; omega
    · rw [runL_out h]; omega
section
variable {fn : Nat → List D → R D}
theorem run_while {l sg : List Nat} (hl : l.length ≤ 1000) : ∀ (fuel s : Nat), s ≤ l.length → l.length - s < fuel →
    whileGo (fun env' => (ev gl fn (.and_ (.cmp .lt (.var 1) (.bi1 .len (.var 0))) (.cmp .isin (.idx (.var 0) (.var 1)) (.var 2))) (open_ env')).bind asBool) (fun env' => exSs gl fn rfu [(.asg (.one 1) (.bin .add (.var 1) (.lit (.int (1)))) false [1])] env') fuel
      [.sh (.str l), .sh (.int s), .sh (.str sg)] = .nx [.sh (.str l), .sh (.int ((s + runL sg (l.drop s) : Nat) : Int)), .sh (.str sg)]
  | 0, s, _, h => by omega
  | fuel + 1, s, hs, h => by
    unfold whileGo
    by_cases hlt : s < l.length
    · have hc : l[s]? = some l[s] := List.getElem?_eq_getElem hlt
      have hd : l.drop s = l[s] :: l.drop (s + 1) := List.drop_eq_getElem_cons hlt
      have hlt' : (s : Int) < (l.length : Int) := by omega
      by_cases hin : l[s] ∈ sg
      · have ht : (ev gl fn (.and_ (.cmp .lt (.var 1) (.bi1 .len (.var 0))) (.cmp .isin (.idx (.var 0) (.var 1)) (.var 2))) (open_ [.sh (.str l), .sh (.int s), .sh (.str sg)])).bind asBool = .ok true := by
          simp [dLen_str hl, hlt, idx_str hl hc, hin]
        rw [ht]
        have hb : exSs gl fn rfu [(.asg (.one 1) (.bin .add (.var 1) (.lit (.int (1)))) false [1])] [.sh (.str l), .sh (.int s), .sh (.str sg)] = .nx [.sh (.str l), .sh (.int ((s + 1 : Nat) : Int)), .sh (.str sg)] := by
          simp
        simp only [R.out_ok, hb, if_true]
        rw [run_while hl fuel (s + 1) hlt (by omega), hd, runL_in hin, Nat.add_assoc]
      · have ht : (ev gl fn (.and_ (.cmp .lt (.var 1) (.bi1 .len (.var 0))) (.cmp .isin (.idx (.var 0) (.var 1)) (.var 2))) (open_ [.sh (.str l), .sh (.int s), .sh (.str sg)])).bind asBool = .ok false := by
          simp [dLen_str hl, hlt, idx_str hl hc, hin]
        rw [ht, hd, runL_out hin]; rfl
    · have ht : (ev gl fn (.and_ (.cmp .lt (.var 1) (.bi1 .len (.var 0))) (.cmp .isin (.idx (.var 0) (.var 1)) (.var 2))) (open_ [.sh (.str l), .sh (.int s), .sh (.str sg)])).bind asBool = .ok false := by
        simp [dLen_str hl, hlt]
      rw [ht, List.drop_eq_nil_of_le (by omega)]; rfl
end
theorem run_to (n : Nat) {l sg : List Nat} {s : Nat} (hl : l.length ≤ 1000) (hs : s ≤ l.length) : callF pr (n + 1) 2 [.str l, .int s, .str sg] = .ok (.int ((s + runL sg (l.drop s) : Nat) : Int)) := by
  rw [call_eq n (fd := ⟨3, 3, b2⟩) rfl rfl]
  have h := run_while (fn := callF pr n) (sg := sg) hl turns s hs (by have : turns = 100000 := rfl; omega)
  show ended (exSs gl (callF pr n) rfu b2 [.sh (.str l), .sh (.int s), .sh (.str sg)]) = _
  unfold b2
  rw [exSs_while h]
  rfl

/-! ### quotes -/
/-- what is quoted, and how far it goes; e the sign that ends it -/
def quoteL (e : Nat) (slash : Bool) : List Nat → Option (List Nat × Nat)
  | [] => none
  | c :: r => match r with
    | [] => if c = e then some ([], 1) else none
    | d :: r2 => if slash = true ∧ c = 92 ∧ (d = 92 ∨ d = e) then (quoteL e slash r2).map fun p => (d :: p.1, p.2 + 2)
      else if c ≠ e then (quoteL e slash (d :: r2)).map fun p => (c :: p.1, p.2 + 1)
      else if slash = false ∧ d = e then (quoteL e slash r2).map fun p => (e :: p.1, p.2 + 2)
      else some ([], 1)
theorem quoteL_two (e : Nat) (slash : Bool) (c d : Nat) (r2 : List Nat) : quoteL e slash (c :: d :: r2) = if slash = true ∧ c = 92 ∧ (d = 92 ∨ d = e) then (quoteL e slash r2).map fun p => (d :: p.1, p.2 + 2)
      else if c ≠ e then (quoteL e slash (d :: r2)).map fun p => (c :: p.1, p.2 + 1)
      else if slash = false ∧ d = e then (quoteL e slash r2).map fun p => (e :: p.1, p.2 + 2)
      else some ([], 1) := by
  conv => lhs; unfold quoteL
/-- from the place at on, found so far -/
def QuoteOk (l : List Nat) (e : Nat) (slash : Bool) (at_ : Nat) (found : List Nat) (o : Out) : Prop :=
  match quoteL e slash (l.drop at_) with
  | some p => o = .rt (.tup [.str (found ++ p.1), .int ((at_ + p.2 : Nat) : Int)])
  | none => ∃ env, o = .nx env
section
variable {fn : Nat → List D → R D}
abbrev qT (fn : Nat → List D → R D) : Env → R Bool := fun env' => (ev gl fn (.cmp .lt (.var 5) (.bi1 .len (.var 0))) (open_ env')).bind asBool
abbrev qB (fn : Nat → List D → R D) : Env → Out := fun env' => exSs gl fn rfu [(.asg (.one 6) (.idx (.var 0) (.var 5)) false [0, 5]),
    (.ite (.and_ (.var 3) (.and_ (.cmp .eq (.var 6) (.lit (.str [92]))) (.cmp .isin (.slc (.var 0) (.bin .add (.var 5) (.lit (.int (1)))) (.bin .add (.var 5) (.lit (.int (2))))) (.tup [(.lit (.str [92])), (.var 2)])))) [(.asg (.one 4) (.bin .add (.var 4) (.idx (.var 0) (.bin .add (.var 5) (.lit (.int (1)))))) false [4, 0, 5]),
    (.asg (.one 5) (.bin .add (.var 5) (.lit (.int (2)))) false [5])] [(.ite (.cmp .ne (.var 6) (.var 2)) [(.asg (.one 4) (.bin .add (.var 4) (.var 6)) false [4, 6]),
    (.asg (.one 5) (.bin .add (.var 5) (.lit (.int (1)))) false [5])] [(.ite (.and_ (.not_ (.var 3)) (.cmp .eq (.slc (.var 0) (.bin .add (.var 5) (.lit (.int (1)))) (.bin .add (.var 5) (.lit (.int (2))))) (.var 2))) [(.asg (.one 4) (.bin .add (.var 4) (.var 2)) false [4, 2]),
    (.asg (.one 5) (.bin .add (.var 5) (.lit (.int (2)))) false [5])] [(.ret (.tup [(.var 4), (.bin .add (.var 5) (.lit (.int (1))))]))])])])] env'
theorem slc1 {l : List Nat} {a : Nat} (h : l.length ≤ 1000) : slc (.str l) (some ((a : Int) + 1)) (some ((a : Int) + 2)) = .ok (.str ((l.drop (a + 1)).take 1)) := by
  have := slc_str (l := l) (a := a + 1) (b := a + 2) h
  have e : a + 2 - (a + 1) = 1 := by omega
  rw [e] at this
  exact this
theorem slc2 {l : List Nat} {a : Nat} (h : l.length ≤ 1000) : slc (.str l) (some (a : Int)) (some ((a : Int) + 2)) = .ok (.str ((l.drop a).take 2)) := by
  have := slc_str (l := l) (a := a) (b := a + 2) h
  have e : a + 2 - a = 2 := by omega
  rw [e] at this
  exact this
theorem idx1 {l : List Nat} {a c : Nat} (h : l.length ≤ 1000) (hc : l[a + 1]? = some c) : idx (.str l) (.int ((a : Int) + 1)) = .ok (.str [c]) := idx_str (s := a + 1) h hc
theorem q_while {l : List Nat} {e : Nat} {slash : Bool} (hl : l.length ≤ 1000) (d1 : D) : ∀ (fuel at_ : Nat) (found : List Nat) (s6 : Sl), (∀ d, s6 ≠ .ow d) → at_ ≤ l.length → l.length - at_ < fuel → found.length ≤ at_ + 1000 →
    QuoteOk l e slash at_ found (whileGo (qT fn) (qB fn) fuel [.sh (.str l), .sh d1, .sh (.str [e]), .sh (.bl slash), .sh (.str found), .sh (.int at_), s6])
  | 0, at_, _, _, _, _, h, _ => by omega
  | fuel + 1, at_, found, s6, h6, hs, h, hf => by
    have hp : plain [.sh (.str l), .sh d1, .sh (.str [e]), .sh (.bl slash), .sh (.str found), .sh (.int at_), s6] = true := by
      cases s6 with
      | ow d => exact absurd rfl (h6 d)
      | _ => rfl
    unfold whileGo
    by_cases hlt : at_ < l.length
    · have hc : l[at_]? = some l[at_] := List.getElem?_eq_getElem hlt
      have hd : l.drop at_ = l[at_] :: l.drop (at_ + 1) := List.drop_eq_getElem_cons hlt
      generalize l[at_] = c at hc hd
      have ht : qT fn [.sh (.str l), .sh d1, .sh (.str [e]), .sh (.bl slash), .sh (.str found), .sh (.int at_), s6] = .ok true := by
        rw [show qT fn _ = (ev gl fn _ (open_ _)).bind asBool from rfl, open_plain hp]; simp [dLen_str hl, hlt]
      rw [ht]
      have step : ∀ (found2 : List Nat) (at2 : Nat), at_ < at2 → at2 ≤ l.length → found2.length ≤ at2 + 1000 → qB fn [.sh (.str l), .sh d1, .sh (.str [e]), .sh (.bl slash), .sh (.str found), .sh (.int at_), s6] = .nx [.sh (.str l), .sh d1, .sh (.str [e]), .sh (.bl slash), .sh (.str found2), .sh (.int at2), .sh (.str [c])] →
          (∀ p, quoteL e slash (l.drop at2) = some p → ∃ k f, quoteL e slash (l.drop at_) = some (f, k) ∧ found2 ++ p.1 = found ++ f ∧ at2 + p.2 = at_ + k) → (quoteL e slash (l.drop at2) = none → quoteL e slash (l.drop at_) = none) →
          QuoteOk l e slash at_ found (R.out (.ok true) fun b => if b then (match qB fn [.sh (.str l), .sh d1, .sh (.str [e]), .sh (.bl slash), .sh (.str found), .sh (.int at_), s6] with
            | .nx env2 => whileGo (qT fn) (qB fn) fuel env2
            | .rt d => .rt d
            | .ex c => .ex c
            | .no => .no) else .nx [.sh (.str l), .sh d1, .sh (.str [e]), .sh (.bl slash), .sh (.str found), .sh (.int at_), s6]) := fun found2 at2 g1 g2 g3 g4 g5 g6 => by
        have ih := q_while (slash := slash) (e := e) hl d1 fuel at2 found2 (.sh (.str [c])) (fun d z => by cases z) g2 (by omega) g3
        simp only [R.out_ok, g4, if_true]
        unfold QuoteOk at ih ⊢
        cases q2 : quoteL e slash (l.drop at2) with
        | none =>
          rw [q2] at ih
          rw [g6 q2]; exact ih
        | some p =>
          rw [q2] at ih
          obtain ⟨k, f, e1, e2, e3⟩ := g5 p q2
          rw [e1]
          simp only at ih ⊢
          rw [ih, e2, e3]
      have hsix : ∀ (x : List Nat), (maskK 0 x [.sh (.str l), .sh d1, .sh (.str [e]), .sh (.bl slash), .sh (.str found), .sh (.int at_), s6]) = [.sh (.str l), .sh d1, .sh (.str [e]), .sh (.bl slash), .sh (.str found), .sh (.int at_), s6] := fun x => by
        rw [← mask_K]; exact mask_plain hp
      have hfirst : exS gl fn rfu (.asg (.one 6) (.idx (.var 0) (.var 5)) false [0, 5]) [.sh (.str l), .sh d1, .sh (.str [e]), .sh (.bl slash), .sh (.str found), .sh (.int at_), s6] = .nx [.sh (.str l), .sh d1, .sh (.str [e]), .sh (.bl slash), .sh (.str found), .sh (.int at_), .sh (.str [c])] := by
        simp [hsix, idx_str hl hc, flat]
      have hbody : ∀ o, exSs gl fn rfu [(.ite (.and_ (.var 3) (.and_ (.cmp .eq (.var 6) (.lit (.str [92]))) (.cmp .isin (.slc (.var 0) (.bin .add (.var 5) (.lit (.int (1)))) (.bin .add (.var 5) (.lit (.int (2))))) (.tup [(.lit (.str [92])), (.var 2)])))) [(.asg (.one 4) (.bin .add (.var 4) (.idx (.var 0) (.bin .add (.var 5) (.lit (.int (1)))))) false [4, 0, 5]),
          (.asg (.one 5) (.bin .add (.var 5) (.lit (.int (2)))) false [5])] [(.ite (.cmp .ne (.var 6) (.var 2)) [(.asg (.one 4) (.bin .add (.var 4) (.var 6)) false [4, 6]),
          (.asg (.one 5) (.bin .add (.var 5) (.lit (.int (1)))) false [5])] [(.ite (.and_ (.not_ (.var 3)) (.cmp .eq (.slc (.var 0) (.bin .add (.var 5) (.lit (.int (1)))) (.bin .add (.var 5) (.lit (.int (2))))) (.var 2))) [(.asg (.one 4) (.bin .add (.var 4) (.var 2)) false [4, 2]),
          (.asg (.one 5) (.bin .add (.var 5) (.lit (.int (2)))) false [5])] [(.ret (.tup [(.var 4), (.bin .add (.var 5) (.lit (.int (1))))]))])])])] [.sh (.str l), .sh d1, .sh (.str [e]), .sh (.bl slash), .sh (.str found), .sh (.int at_), .sh (.str [c])] = o →
          qB fn [.sh (.str l), .sh d1, .sh (.str [e]), .sh (.bl slash), .sh (.str found), .sh (.int at_), s6] = o := fun o ho => by
        show exSs gl fn rfu (_ :: _) _ = o
        rw [exSs_cons, hfirst, thn_nx]
        exact ho
      have hfl : ∀ x : Nat, bop .add (.str found) (.str [x]) = .ok (.str (found ++ [x])) := fun x => add_str (by rw [List.length_singleton]; omega)
      have done : c = e → (∀ d r2, l.drop (at_ + 1) = d :: r2 → ¬ (slash = true ∧ c = 92 ∧ (d = 92 ∨ d = e)) ∧ ¬ (slash = false ∧ d = e)) → quoteL e slash (l.drop at_) = some ([], 1) := fun h1 h2 => by
        rw [hd]
        cases hr : l.drop (at_ + 1) with
        | nil => simp [quoteL, h1]
        | cons d r2 =>
          obtain ⟨g1, g2⟩ := h2 d r2 hr
          rw [quoteL_two, if_neg g1, if_neg (fun z => z h1), if_neg g2]
      have ends : quoteL e slash (l.drop at_) = some ([], 1) → qB fn [.sh (.str l), .sh d1, .sh (.str [e]), .sh (.bl slash), .sh (.str found), .sh (.int at_), s6] = .rt (.tup [.str found, .int ((at_ : Int) + 1)]) →
          QuoteOk l e slash at_ found (R.out (.ok true) fun b => if b then (match qB fn [.sh (.str l), .sh d1, .sh (.str [e]), .sh (.bl slash), .sh (.str found), .sh (.int at_), s6] with
            | .nx env2 => whileGo (qT fn) (qB fn) fuel env2
            | .rt d => .rt d
            | .ex c => .ex c
            | .no => .no) else .nx [.sh (.str l), .sh d1, .sh (.str [e]), .sh (.bl slash), .sh (.str found), .sh (.int at_), s6]) := fun h1 h2 => by
        unfold QuoteOk
        rw [h1]
        simp only [R.out_ok, h2, if_true]
        simp
      cases hr : l.drop (at_ + 1) with
      | nil =>
        by_cases hce : c = e
        · refine ends (done hce fun d r2 z => by rw [hr] at z; cases z) (hbody _ ?_)
          cases slash <;> simp [slc1 hl, hr, hce, E.isNul, fit_ok]
        · refine step (found ++ [c]) (at_ + 1) (by omega) hlt (by rw [List.length_append, List.length_singleton]; omega) (hbody _ ?_) ?_ ?_
          · have hce' : ¬ [c] = [e] := fun z => hce (by simpa using z)
            cases slash <;> simp [slc1 hl, hr, hce, E.isNul, fit_ok, hfl, flat]
          · intro p hp2
            rw [hr] at hp2; cases hp2
          · intro _
            rw [hd, hr]
            simp [quoteL, hce]
      | cons d r2 =>
        have hlt2 : at_ + 1 < l.length := by
          have := congrArg List.length hr
          rw [List.length_drop, List.length_cons] at this
          omega
        have hd2 : l.drop (at_ + 1) = l[at_ + 1] :: l.drop (at_ + 2) := List.drop_eq_getElem_cons hlt2
        have hcd : l[at_ + 1]? = some d := by
          rw [hr] at hd2
          rw [List.getElem?_eq_getElem hlt2]
          injection hd2 with z1 z2
          rw [z1]
        have hr2 : l.drop (at_ + 2) = r2 := by
          rw [hr] at hd2
          injection hd2 with z1 z2
          exact z2.symm
        by_cases hS : slash = true ∧ c = 92 ∧ (d = 92 ∨ d = e)
        · refine step (found ++ [d]) (at_ + 2) (by omega) (by omega) (by rw [List.length_append, List.length_singleton]; omega) (hbody _ ?_) ?_ ?_
          · obtain ⟨rfl, rfl, h3⟩ := hS
            simp [slc1 hl, hr, E.isNul, fit_ok, h3, idx1 hl hcd, hfl, flat]
          · intro p hp2
            rw [hr2] at hp2
            refine ⟨p.2 + 2, d :: p.1, ?_, by simp, by omega⟩
            rw [hd, hr]
            rw [quoteL_two, if_pos hS, hp2]; rfl
          · intro hn
            rw [hr2] at hn
            rw [hd, hr]
            rw [quoteL_two, if_pos hS, hn]; rfl
        · by_cases hce : c = e
          · by_cases hT : slash = false ∧ d = e
            · refine step (found ++ [e]) (at_ + 2) (by omega) (by omega) (by rw [List.length_append, List.length_singleton]; omega) (hbody _ ?_) ?_ ?_
              · obtain ⟨rfl, rfl⟩ := hT
                simp [slc1 hl, hr, E.isNul, fit_ok, hce, hfl, flat]
              · intro p hp2
                rw [hr2] at hp2
                refine ⟨p.2 + 2, e :: p.1, ?_, by simp, by omega⟩
                rw [hd, hr]
                rw [quoteL_two, if_neg hS, if_neg (fun z => z hce), if_pos hT, hp2]; rfl
              · intro hn
                rw [hr2] at hn
                rw [hd, hr]
                rw [quoteL_two, if_neg hS, if_neg (fun z => z hce), if_pos hT, hn]; rfl
            · refine ends (done hce fun d' r2' z => by rw [hr] at z; cases z; exact ⟨hS, hT⟩) (hbody _ ?_)
              cases slash with
              | true =>
                have hS' : ¬ (c = 92 ∧ (d = 92 ∨ d = e)) := fun z => hS ⟨rfl, z⟩
                simp only [hce] at hS'
                by_cases h9 : e = 92
                · have hd9 : ¬ (d = 92 ∨ d = e) := fun z => hS' ⟨h9, z⟩
                  rw [not_or] at hd9
                  subst h9
                  simp [slc1 hl, hr, E.isNul, fit_ok, hce, hd9.1]
                · simp [slc1 hl, hr, E.isNul, fit_ok, hce, h9]
              | false =>
                have hd' : ¬ d = e := fun z => hT ⟨rfl, z⟩
                simp [slc1 hl, hr, E.isNul, fit_ok, hce, hd']
          · refine step (found ++ [c]) (at_ + 1) (by omega) hlt (by rw [List.length_append, List.length_singleton]; omega) (hbody _ ?_) ?_ ?_
            · cases slash with
              | true =>
                have hS' : ¬ (c = 92 ∧ (d = 92 ∨ d = e)) := fun z => hS ⟨rfl, z⟩
                by_cases h9 : c = 92
                · have hd9 : ¬ (d = 92 ∨ d = e) := fun z => hS' ⟨h9, z⟩
                  rw [not_or] at hd9
                  subst h9
                  simp [slc1 hl, hr, E.isNul, fit_ok, hce, hd9.1, hd9.2, hfl, flat]
                · simp [slc1 hl, hr, E.isNul, fit_ok, hce, h9, hfl, flat]
              | false =>
                simp [slc1 hl, hr, E.isNul, fit_ok, hce, hfl, flat]
            · intro p hp2
              refine ⟨p.2 + 1, c :: p.1, ?_, by simp, by omega⟩
              rw [hd]
              rw [hr] at hp2 ⊢
              rw [quoteL_two, if_neg hS, if_pos hce, hp2]; rfl
            · intro hn
              rw [hd]
              rw [hr] at hn ⊢
              rw [quoteL_two, if_neg hS, if_pos hce, hn]; rfl
    · have ht : qT fn [.sh (.str l), .sh d1, .sh (.str [e]), .sh (.bl slash), .sh (.str found), .sh (.int at_), s6] = .ok false := by
        rw [show qT fn _ = (ev gl fn _ (open_ _)).bind asBool from rfl, open_plain hp]; simp [dLen_str hl, hlt]
      rw [ht]
      unfold QuoteOk
      rw [List.drop_eq_nil_of_le (by omega)]
      exact ⟨_, rfl⟩
end
end K32
end Ev

/-! law_k32_words: the defs of quotes. -/
namespace Ev
namespace K32
theorem quoted_to (n : Nat) {l : List Nat} {e s : Nat} {slash : Bool} (hl : l.length ≤ 1000) (hs : s ≤ l.length) : callF pr (n + 1) 1 [.str l, .int s, .str [e], .bl slash] = match quoteL e slash (l.drop s) with
    | some p => .ok (.tup [.str p.1, .int ((s + p.2 : Nat) : Int)])
    | none => .ex 6 := by
  rw [call_eq n (fd := ⟨4, 7, b1⟩) rfl rfl]
  have h := q_while (fn := callF pr n) (e := e) (slash := slash) hl (.int s) turns s [] .no (fun d z => by cases z) hs (by have : turns = 100000 := rfl; omega) (by simp)
  have e1 : exSs gl (callF pr n) rfu b1 [.sh (.str l), .sh (.int s), .sh (.str [e]), .sh (.bl slash), .no, .no, .no] =
      (whileGo (qT (callF pr n)) (qB (callF pr n)) turns [.sh (.str l), .sh (.int s), .sh (.str [e]), .sh (.bl slash), .sh (.str []), .sh (.int s), .no]).thn (exSs gl (callF pr n) rfu [.raise 6 (.lit .non)]) := rfl
  show ended (exSs gl (callF pr n) rfu b1 [.sh (.str l), .sh (.int s), .sh (.str [e]), .sh (.bl slash), .no, .no, .no]) = _
  rw [e1]
  unfold QuoteOk at h
  cases q : quoteL e slash (l.drop s) with
  | none =>
    rw [q] at h
    obtain ⟨env, h⟩ := h
    rw [h]; rfl
  | some p =>
    rw [q] at h
    simp only at h
    rw [h]; rfl
section
variable {fn : Nat → List D → R D}
abbrev uT (fn : Nat → List D → R D) : Env → R Bool := fun env' => (ev gl fn (.cmp .lt (.var 1) (.bi1 .len (.var 0))) (open_ env')).bind asBool
abbrev uB (fn : Nat → List D → R D) : Env → Out := fun env' => exSs gl fn rfu [(.ite (.and_ (.var 4) (.cmp .isin (.slc (.var 0) (.var 1) (.bin .add (.var 1) (.lit (.int (2))))) (.tup [(.bin .add (.lit (.str [92])) (.var 2)), (.lit (.str [92, 92]))]))) [(.asg (.one 5) (.bin .add (.var 5) (.idx (.var 0) (.bin .add (.var 1) (.lit (.int (1)))))) false [5, 0, 1]),
    (.asg (.one 1) (.bin .add (.var 1) (.lit (.int (2)))) false [1])] [(.ite (.and_ (.var 3) (.cmp .eq (.slc (.var 0) (.var 1) (.bin .add (.var 1) (.lit (.int (2))))) (.bin .add (.var 2) (.var 2)))) [(.asg (.one 5) (.bin .add (.var 5) (.var 2)) false [5, 2]),
    (.asg (.one 1) (.bin .add (.var 1) (.lit (.int (2)))) false [1])] [(.ite (.cmp .eq (.idx (.var 0) (.var 1)) (.var 2)) [(.ret (.tup [(.var 5), (.bin .add (.var 1) (.lit (.int (1))))]))] [(.asg (.one 5) (.bin .add (.var 5) (.idx (.var 0) (.var 1))) false [5, 0, 1]),
    (.asg (.one 1) (.bin .add (.var 1) (.lit (.int (1)))) false [1])])])])] env'
theorem u_while {l : List Nat} {e : Nat} {slash : Bool} (hl : l.length ≤ 1000) : ∀ (fuel at_ : Nat) (found : List Nat), at_ ≤ l.length → l.length - at_ < fuel → found.length ≤ at_ + 1000 →
    QuoteOk l e slash at_ found (whileGo (uT fn) (uB fn) fuel [.sh (.str l), .sh (.int at_), .sh (.str [e]), .sh (.bl (!slash)), .sh (.bl slash), .sh (.str found)])
  | 0, at_, _, _, h, _ => by omega
  | fuel + 1, at_, found, hs, h, hf => by
    unfold whileGo
    by_cases hlt : at_ < l.length
    · have hc : l[at_]? = some l[at_] := List.getElem?_eq_getElem hlt
      have hd : l.drop at_ = l[at_] :: l.drop (at_ + 1) := List.drop_eq_getElem_cons hlt
      generalize l[at_] = c at hc hd
      have ht : uT fn [.sh (.str l), .sh (.int at_), .sh (.str [e]), .sh (.bl (!slash)), .sh (.bl slash), .sh (.str found)] = .ok true := by
        simp [uT, dLen_str hl, hlt]
      rw [ht]
      have step : ∀ (found2 : List Nat) (at2 : Nat), at_ < at2 → at2 ≤ l.length → found2.length ≤ at2 + 1000 → uB fn [.sh (.str l), .sh (.int at_), .sh (.str [e]), .sh (.bl (!slash)), .sh (.bl slash), .sh (.str found)] = .nx [.sh (.str l), .sh (.int at2), .sh (.str [e]), .sh (.bl (!slash)), .sh (.bl slash), .sh (.str found2)] →
          (∀ p, quoteL e slash (l.drop at2) = some p → ∃ k f, quoteL e slash (l.drop at_) = some (f, k) ∧ found2 ++ p.1 = found ++ f ∧ at2 + p.2 = at_ + k) → (quoteL e slash (l.drop at2) = none → quoteL e slash (l.drop at_) = none) →
          QuoteOk l e slash at_ found (R.out (.ok true) fun b => if b then (match uB fn [.sh (.str l), .sh (.int at_), .sh (.str [e]), .sh (.bl (!slash)), .sh (.bl slash), .sh (.str found)] with
            | .nx env2 => whileGo (uT fn) (uB fn) fuel env2
            | .rt d => .rt d
            | .ex c => .ex c
            | .no => .no) else .nx [.sh (.str l), .sh (.int at_), .sh (.str [e]), .sh (.bl (!slash)), .sh (.bl slash), .sh (.str found)]) := fun found2 at2 g1 g2 g3 g4 g5 g6 => by
        have ih := u_while (slash := slash) (e := e) hl fuel at2 found2 g2 (by omega) g3
        simp only [R.out_ok, g4, if_true]
        unfold QuoteOk at ih ⊢
        cases q2 : quoteL e slash (l.drop at2) with
        | none =>
          rw [q2] at ih
          rw [g6 q2]; exact ih
        | some p =>
          rw [q2] at ih
          obtain ⟨k, f, e1, e2, e3⟩ := g5 p q2
          rw [e1]
          simp only at ih ⊢
          rw [ih, e2, e3]
      have hfl : ∀ x : Nat, bop .add (.str found) (.str [x]) = .ok (.str (found ++ [x])) := fun x => add_str (by rw [List.length_singleton]; omega)
      have h9e : bop .add (.str [92]) (.str [e]) = .ok (.str [92, e]) := add_str (by simp)
      have hee : bop .add (.str [e]) (.str [e]) = .ok (.str [e, e]) := add_str (by simp)
      have done : c = e → (∀ d r2, l.drop (at_ + 1) = d :: r2 → ¬ (slash = true ∧ c = 92 ∧ (d = 92 ∨ d = e)) ∧ ¬ (slash = false ∧ d = e)) → quoteL e slash (l.drop at_) = some ([], 1) := fun h1 h2 => by
        rw [hd]
        cases hr : l.drop (at_ + 1) with
        | nil => simp [quoteL, h1]
        | cons d r2 =>
          obtain ⟨g1, g2⟩ := h2 d r2 hr
          rw [quoteL_two, if_neg g1, if_neg (fun z => z h1), if_neg g2]
      have ends : quoteL e slash (l.drop at_) = some ([], 1) → uB fn [.sh (.str l), .sh (.int at_), .sh (.str [e]), .sh (.bl (!slash)), .sh (.bl slash), .sh (.str found)] = .rt (.tup [.str found, .int ((at_ : Int) + 1)]) →
          QuoteOk l e slash at_ found (R.out (.ok true) fun b => if b then (match uB fn [.sh (.str l), .sh (.int at_), .sh (.str [e]), .sh (.bl (!slash)), .sh (.bl slash), .sh (.str found)] with
            | .nx env2 => whileGo (uT fn) (uB fn) fuel env2
            | .rt d => .rt d
            | .ex c => .ex c
            | .no => .no) else .nx [.sh (.str l), .sh (.int at_), .sh (.str [e]), .sh (.bl (!slash)), .sh (.bl slash), .sh (.str found)]) := fun h1 h2 => by
        unfold QuoteOk
        rw [h1]
        simp only [R.out_ok, h2, if_true]
        simp
      cases hr : l.drop (at_ + 1) with
      | nil =>
        have ht2 : (l.drop at_).take 2 = [c] := by rw [hd, hr]; rfl
        by_cases hce : c = e
        · refine ends (done hce fun d r2 z => by rw [hr] at z; cases z) ?_
          cases slash <;> simp [uB, slc2 hl, ht2, h9e, hee, hce, E.isNul, fit_ok, idx_str hl hc]
        · refine step (found ++ [c]) (at_ + 1) (by omega) hlt (by rw [List.length_append, List.length_singleton]; omega) ?_ ?_ ?_
          · cases slash <;> simp [uB, slc2 hl, ht2, h9e, hee, hce, E.isNul, fit_ok, idx_str hl hc, hfl, flat]
          · intro p hp2
            rw [hr] at hp2; cases hp2
          · intro _
            rw [hd, hr]
            simp [quoteL, hce]
      | cons d r2 =>
        have ht2 : (l.drop at_).take 2 = [c, d] := by rw [hd, hr]; rfl
        have hlt2 : at_ + 1 < l.length := by
          have := congrArg List.length hr
          rw [List.length_drop, List.length_cons] at this
          omega
        have hd2 : l.drop (at_ + 1) = l[at_ + 1] :: l.drop (at_ + 2) := List.drop_eq_getElem_cons hlt2
        have hcd : l[at_ + 1]? = some d := by
          rw [hr] at hd2
          rw [List.getElem?_eq_getElem hlt2]
          injection hd2 with z1 z2
          rw [z1]
        have hr2 : l.drop (at_ + 2) = r2 := by
          rw [hr] at hd2
          injection hd2 with z1 z2
          exact z2.symm
        by_cases hS : slash = true ∧ c = 92 ∧ (d = 92 ∨ d = e)
        · refine step (found ++ [d]) (at_ + 2) (by omega) (by omega) (by rw [List.length_append, List.length_singleton]; omega) ?_ ?_ ?_
          · obtain ⟨rfl, rfl, h3⟩ := hS
            rcases h3 with rfl | rfl <;> simp [uB, slc2 hl, ht2, h9e, hee, E.isNul, fit_ok, idx1 hl hcd, hfl, flat]
          · intro p hp2
            rw [hr2] at hp2
            refine ⟨p.2 + 2, d :: p.1, ?_, by simp, by omega⟩
            rw [hd, hr]
            rw [quoteL_two, if_pos hS, hp2]; rfl
          · intro hn
            rw [hr2] at hn
            rw [hd, hr]
            rw [quoteL_two, if_pos hS, hn]; rfl
        · have hnot : slash = true → ¬ ([c, d] = [92, e]) ∧ ¬ ([c, d] = [92, 92]) := fun hs1 => by
            constructor
            · intro z; simp only [List.cons.injEq, and_true] at z; exact hS ⟨hs1, z.1, .inr z.2⟩
            · intro z; simp only [List.cons.injEq, and_true] at z; exact hS ⟨hs1, z.1, .inl z.2⟩
          by_cases hce : c = e
          · by_cases hT : slash = false ∧ d = e
            · refine step (found ++ [e]) (at_ + 2) (by omega) (by omega) (by rw [List.length_append, List.length_singleton]; omega) ?_ ?_ ?_
              · obtain ⟨rfl, rfl⟩ := hT
                simp [uB, slc2 hl, ht2, h9e, hee, E.isNul, fit_ok, hce, hfl, flat]
              · intro p hp2
                rw [hr2] at hp2
                refine ⟨p.2 + 2, e :: p.1, ?_, by simp, by omega⟩
                rw [hd, hr]
                rw [quoteL_two, if_neg hS, if_neg (fun z => z hce), if_pos hT, hp2]; rfl
              · intro hn
                rw [hr2] at hn
                rw [hd, hr]
                rw [quoteL_two, if_neg hS, if_neg (fun z => z hce), if_pos hT, hn]; rfl
            · refine ends (done hce fun d' r2' z => by rw [hr] at z; cases z; exact ⟨hS, hT⟩) ?_
              cases slash with
              | true =>
                obtain ⟨n1, n2⟩ := hnot rfl
                have n1' : ¬ (c = 92 ∧ d = e) := by simpa using n1
                have n2' : ¬ (c = 92 ∧ d = 92) := by simpa using n2
                simp [uB, slc2 hl, ht2, h9e, hee, E.isNul, fit_ok, n1', n2', idx_str hl hc, hce]
                simp only [hce] at n1' n2'
                simp [n1', n2']
              | false =>
                have hd' : ¬ d = e := fun z => hT ⟨rfl, z⟩
                simp [uB, slc2 hl, ht2, h9e, hee, E.isNul, fit_ok, hce, hd', idx_str hl hc]
          · refine step (found ++ [c]) (at_ + 1) (by omega) hlt (by rw [List.length_append, List.length_singleton]; omega) ?_ ?_ ?_
            · cases slash with
              | true =>
                obtain ⟨n1, n2⟩ := hnot rfl
                have n1' : ¬ (c = 92 ∧ d = e) := by simpa using n1
                have n2' : ¬ (c = 92 ∧ d = 92) := by simpa using n2
                simp [uB, slc2 hl, ht2, h9e, hee, E.isNul, fit_ok, n1', n2', idx_str hl hc, hce, hfl, flat]
              | false =>
                simp [uB, slc2 hl, ht2, h9e, hee, E.isNul, fit_ok, hce, idx_str hl hc, hfl, flat]
            · intro p hp2
              refine ⟨p.2 + 1, c :: p.1, ?_, by simp, by omega⟩
              rw [hd]
              rw [hr] at hp2 ⊢
              rw [quoteL_two, if_neg hS, if_pos hce, hp2]; rfl
            · intro hn
              rw [hd]
              rw [hr] at hn ⊢
              rw [quoteL_two, if_neg hS, if_pos hce, hn]; rfl
    · have ht : uT fn [.sh (.str l), .sh (.int at_), .sh (.str [e]), .sh (.bl (!slash)), .sh (.bl slash), .sh (.str found)] = .ok false := by
        simp [uT, dLen_str hl, hlt]
      rw [ht]
      unfold QuoteOk
      rw [List.drop_eq_nil_of_le (by omega)]
      exact ⟨_, rfl⟩
end
theorem law_quote (n : Nat) {l : List Nat} {e s : Nat} {slash : Bool} (hl : l.length ≤ 1000) (hs : s ≤ l.length) : callF pr (n + 1) 8 [.str l, .int s, .str [e], .bl (!slash), .bl slash] = match quoteL e slash (l.drop s) with
    | some p => .ok (.tup [.str p.1, .int ((s + p.2 : Nat) : Int)])
    | none => .ok .non := by
  rw [call_eq n (fd := ⟨5, 6, b8⟩) rfl rfl]
  have h := u_while (fn := callF pr n) (e := e) (slash := slash) hl turns s [] hs (by have : turns = 100000 := rfl; omega) (by simp)
  have e1 : exSs gl (callF pr n) rfu b8 [.sh (.str l), .sh (.int s), .sh (.str [e]), .sh (.bl (!slash)), .sh (.bl slash), .no] =
      (whileGo (uT (callF pr n)) (uB (callF pr n)) turns [.sh (.str l), .sh (.int s), .sh (.str [e]), .sh (.bl (!slash)), .sh (.bl slash), .sh (.str [])]).thn (exSs gl (callF pr n) rfu [.ret (.lit .non)]) := rfl
  show ended (exSs gl (callF pr n) rfu b8 [.sh (.str l), .sh (.int s), .sh (.str [e]), .sh (.bl (!slash)), .sh (.bl slash), .no]) = _
  rw [e1]
  unfold QuoteOk at h
  cases q : quoteL e slash (l.drop s) with
  | none =>
    rw [q] at h
    obtain ⟨env, h⟩ := h
    rw [h]; rfl
  | some p =>
    rw [q] at h
    simp only at h
    rw [h]; rfl
end K32
end Ev

/-! law_k32_words: one word. -/
namespace Ev
namespace K32
theorem quoteL_le (e : Nat) (slash : Bool) : ∀ (n : Nat) (l : List Nat) (p : List Nat × Nat), l.length ≤ n → quoteL e slash l = some p → 1 ≤ p.2 ∧ p.2 ≤ l.length
  | _, [], p, _, h => by cases h
  | _, [c], p, _, h => by
    have h' : (if c = e then some (([] : List Nat), 1) else none) = some p := h
    split at h'
    · cases h'; simp
    · cases h'
  | 0, _ :: _ :: _, p, hn, h => by simp at hn
  | n + 1, c :: d :: r, p, hn, h => by
    rw [quoteL_two] at h
    simp only [List.length_cons] at hn ⊢
    split at h
    · obtain ⟨q, hq, rfl⟩ := Option.map_eq_some_iff.mp h
      have := quoteL_le e slash n r q (by omega) hq
      simp only
      omega
    · split at h
      · obtain ⟨q, hq, rfl⟩ := Option.map_eq_some_iff.mp h
        have := quoteL_le e slash n (d :: r) q (by simp; omega) hq
        simp only [List.length_cons] at this ⊢
        omega
      · split at h
        · obtain ⟨q, hq, rfl⟩ := Option.map_eq_some_iff.mp h
          have := quoteL_le e slash n r q (by omega) hq
          simp only
          omega
        · cases h; simp
/-! ### figures -/
def numL (l : List Nat) : Int := (((readN l 0).getD 0 : Nat) : Int)
theorem readN_figs : ∀ (l : List Nat) (a : Nat), (∀ c ∈ l, c ∈ fgs) → ∃ n, readN l a = some n
  | [], a, _ => ⟨a, rfl⟩
  | c :: l, a, h => by
    have hc : c ∈ fgs := h c List.mem_cons_self
    have h1 : (48 ≤ c && c ≤ 57) = true := by
      simp only [fgs, List.mem_cons, List.not_mem_nil, or_false] at hc
      rw [Bool.and_eq_true, decide_eq_true_eq, decide_eq_true_eq]
      omega
    unfold readN
    rw [if_pos h1]
    exact readN_figs l _ fun d hd => h d (List.mem_cons_of_mem _ hd)
theorem take_run (sg : List Nat) : ∀ (l : List Nat), ∀ c ∈ l.take (runL sg l), c ∈ sg
  | [], c, h => by simp at h
  | d :: l, c, h => by
    by_cases hd : d ∈ sg
    · rw [runL_in hd, Nat.add_comm, List.take_succ_cons] at h
      rcases List.mem_cons.mp h with rfl | h
      · exact hd
      · exact take_run sg l c h
    · rw [runL_out hd] at h
      simp at h
theorem dInt_figs {l : List Nat} (h : ∀ c ∈ l, c ∈ fgs) (hne : l ≠ []) (hl : l.length ≤ 640) : dInt (.str l) = .ok (.int (numL l)) := by
  obtain ⟨n, hn⟩ := readN_figs l 0 h
  have hr : readI l = some (n : Int) := by
    cases l with
    | nil => exact absurd rfl hne
    | cons c r =>
      have hc : c ≠ 45 := fun e => by
        have := h c List.mem_cons_self
        rw [e] at this
        exact absurd this (by decide)
      unfold readI
      split
      · rename_i z; cases z
      · rename_i z; cases z; exact absurd rfl hc
      · rename_i c' r' _ z
        cases z
        rw [hn]; rfl
  show (if l.length ≤ 640 then (match readI l with
    | some i => R.ok (D.int i)
    | none => .no) else .no) = _
  rw [if_pos hl, hr]
  unfold numL
  rw [hn]; rfl
theorem dInt_neg {l : List Nat} (h : ∀ c ∈ l, c ∈ fgs) (hne : l ≠ []) (hl : l.length ≤ 600) : dInt (.str (45 :: l)) = .ok (.int (-(numL l))) := by
  obtain ⟨n, hn⟩ := readN_figs l 0 h
  have hr : readI (45 :: l) = some (-(n : Int)) := by
    cases l with
    | nil => exact absurd rfl hne
    | cons c r =>
      show (readN (c :: r) 0).map (fun (n : Nat) => -(n : Int)) = _
      rw [hn]; rfl
  show (if (45 :: l).length ≤ 640 then (match readI (45 :: l) with
    | some i => R.ok (D.int i)
    | none => .no) else .no) = _
  rw [if_pos (by rw [List.length_cons]; omega), hr]
  unfold numL
  rw [hn]; rfl
/-! ### a word -/
def kName : List Nat := [110, 97, 109, 101]
def kText : List Nat := [116, 101, 120, 116]
def kSign : List Nat := [115, 105, 103, 110]
def kNum : List Nat := [110, 117, 109, 98, 101, 114]
def kWord : List Nat := [119, 111, 114, 100]
def wordW (s : List Nat) : Option (List Nat × D × Nat) := if s.take (runL lts s) ∈ wds then some (kWord, .str (s.take (runL lts s)), runL lts s) else none
def wordN (m : Nat) (sg : Int) (s r : List Nat) : Option (List Nat × D × Nat) :=
  if 0 < runL fgs r then some (kNum, .int (numL (r.take (runL fgs r)) * sg), m + runL fgs r) else wordW s
def wordL (bg en : Nat) (tick : Bool) (s : List Nat) : Option (List Nat × D × Nat) := match s with
  | [] => none
  | c :: r => if c = bg then (quoteL en false r).map fun p => (kName, .str p.1, p.2 + 1)
    else if c = 39 then (quoteL 39 tick r).map fun p => (kText, .str p.1, p.2 + 1)
    else if c ∈ sgs then some (kSign, .str [c], 1)
    else if c = 45 then wordN 1 (-1) (c :: r) r
    else wordN 0 1 (c :: r) (c :: r)
theorem wordL_cons (bg en : Nat) (tick : Bool) (c : Nat) (r : List Nat) : wordL bg en tick (c :: r) = if c = bg then (quoteL en false r).map fun p => (kName, .str p.1, p.2 + 1)
    else if c = 39 then (quoteL 39 tick r).map fun p => (kText, .str p.1, p.2 + 1)
    else if c ∈ sgs then some (kSign, .str [c], 1)
    else if c = 45 then wordN 1 (-1) (c :: r) r
    else wordN 0 1 (c :: r) (c :: r) := rfl
def G1 : D := .gdc tgs [.tup [.str [34], .str [34]], .tup [.str [91], .str [93]], .tup [.str [96], .str [96]]]
def DC : D := .dic [.s [100, 111, 117, 98, 108, 101], .s [98, 114, 97, 99, 107, 101, 116], .s [116, 105, 99, 107]] [.tup [.str [34], .str [34]], .tup [.str [91], .str [93]], .tup [.str [96], .str [96]]]
@[simp] theorem gl_0 : gl 0 = .ok (.tup (tgs.map D.str)) := rfl
@[simp] theorem gl_1 : gl 1 = .ok G1 := rfl
@[simp] theorem gl_2 : gl 2 = .ok (.str sgs) := rfl
@[simp] theorem gl_3 : gl 3 = .ok (.tup (wds.map D.str)) := rfl
@[simp] theorem gl_4 : gl 4 = .ok (.str lts) := rfl
@[simp] theorem gl_5 : gl 5 = .ok (.str fgs) := rfl
@[simp] theorem ev_DC (fn : Nat → List D → R D) (env : Env) : ev gl fn (.dct [(.s [100, 111, 117, 98, 108, 101]), (.s [98, 114, 97, 99, 107, 101, 116]), (.s [116, 105, 99, 107])] [(.tup [(.lit (.str [34])), (.lit (.str [34]))]), (.tup [(.lit (.str [91])), (.lit (.str [93]))]), (.tup [(.lit (.str [96])), (.lit (.str [96]))])]) env = .ok DC := rfl
/-- a tongue: its name, the signs of its names, whether it is tick -/
structure Tg (t : List Nat) (bg en : Nat) (tick : Bool) : Prop where
  glo : idx G1 (.str t) = .ok (.tup [.str [bg], .str [en]])
  dic : idx DC (.str t) = .ok (.tup [.str [bg], .str [en]])
  isT : (t == [116, 105, 99, 107]) = tick
  ok : t ∈ tgs
theorem tg1 : Tg [100, 111, 117, 98, 108, 101] 34 34 false := ⟨rfl, rfl, rfl, by decide⟩
theorem tg2 : Tg [98, 114, 97, 99, 107, 101, 116] 91 93 false := ⟨rfl, rfl, rfl, by decide⟩
theorem tg3 : Tg [116, 105, 99, 107] 96 96 true := ⟨rfl, rfl, rfl, by decide⟩
@[simp] theorem idx_p0 (a b : D) : idx (.tup [a, b]) (.int 0) = .ok a := rfl
@[simp] theorem idx_p1 (a b : D) : idx (.tup [a, b]) (.int 1) = .ok b := rfl

/-- what the def of a word gives -/
def wordR (a : Nat) : Option (List Nat × D × Nat) → R D
  | some (k, w, m) => .ok (.tup [.str k, w, .int ((a + m : Nat) : Int)])
  | none => .ex 6
theorem word_at (n : Nat) {t l : List Nat} {bg en a : Nat} {tick : Bool} (T : Tg t bg en tick) (hl : l.length ≤ 500) (ha : a < l.length) : callF pr (n + 2) 4 [.str t, .str l, .int a] = wordR a (wordL bg en tick (l.drop a)) := by
  rw [call_eq (n + 1) (fd := ⟨3, 7, b4⟩) rfl rfl]
  have hl' : l.length ≤ 1000 := by omega
  have hc : l[a]? = some l[a] := List.getElem?_eq_getElem ha
  have hd : l.drop a = l[a] :: l.drop (a + 1) := List.drop_eq_getElem_cons ha
  generalize l[a] = c at hc hd
  show ended (exSs gl (callF pr (n + 1)) rfu b4 [.sh (.str t), .sh (.str l), .sh (.int a), .no, .no, .no, .no]) = _
  have hq1 : ∀ (e : Nat) (sl : Bool), callF pr (n + 1) 1 [.str l, .int ((a : Int) + 1), .str [e], .bl sl] = match quoteL e sl (l.drop (a + 1)) with
    | some p => .ok (.tup [.str p.1, .int ((a + 1 + p.2 : Nat) : Int)])
    | none => .ex 6 := fun e sl => quoted_to n (s := a + 1) hl' ha
  unfold b4
  rw [exSs_cons]
  have h1 : exS gl (callF pr (n + 1)) rfu (.asg (.one 3) (.idx (.var 1) (.var 2)) false [1, 2]) [.sh (.str t), .sh (.str l), .sh (.int a), .no, .no, .no, .no] = .nx [.sh (.str t), .sh (.str l), .sh (.int a), .sh (.str [c]), .no, .no, .no] := by
    simp [idx_str hl' hc, flat]
  rw [h1, thn_nx, exSs_cons, hd]
  rw [wordL_cons]
  by_cases hb : c = bg
  · rw [if_pos hb]
    cases q : quoteL en false (l.drop (a + 1)) with
    | none =>
      have e1 := hq1 en false
      rw [q] at e1
      simp [T.glo, hb, e1, fit_ok, ended, wordR]
    | some p =>
      have e1 := hq1 en false
      rw [q] at e1
      simp [T.glo, hb, e1, fit_ok, ended, wordR, flat, kName]
      omega
  rw [if_neg hb]
  have s2 : exS gl (callF pr (n + 1)) rfu (.ite (.cmp .eq (.var 3) (.idx (.idx (.glo 1) (.var 0)) (.lit (.int (0))))) [(.asg (.many [(.one 5), (.one 4)]) (.call 1 [(.var 1), (.bin .add (.var 2) (.lit (.int (1)))), (.idx (.idx (.glo 1) (.var 0)) (.lit (.int (1)))), (.lit (.bl false))]) false [1, 2, 0]),
    (.ret (.tup [(.lit (.str [110, 97, 109, 101])), (.var 5), (.var 4)]))] []) [.sh (.str t), .sh (.str l), .sh (.int a), .sh (.str [c]), .no, .no, .no] = .nx [.sh (.str t), .sh (.str l), .sh (.int a), .sh (.str [c]), .no, .no, .no] := by
    simp [T.glo, hb]
  rw [s2, thn_nx, exSs_cons]
  by_cases h39 : c = 39
  · rw [if_pos h39]
    cases q : quoteL 39 tick (l.drop (a + 1)) with
    | none =>
      have e1 := hq1 39 tick
      rw [q] at e1
      have hT := T.isT
      simp [h39, hT, e1, fit_ok, ended, wordR]
    | some p =>
      have e1 := hq1 39 tick
      rw [q] at e1
      have hT := T.isT
      simp [h39, hT, e1, fit_ok, ended, wordR, flat, kText]
      omega
  rw [if_neg h39]
  have s3 : exS gl (callF pr (n + 1)) rfu (.ite (.cmp .eq (.var 3) (.lit (.str [39]))) [(.asg (.many [(.one 6), (.one 4)]) (.call 1 [(.var 1), (.bin .add (.var 2) (.lit (.int (1)))), (.lit (.str [39])), (.cmp .eq (.var 0) (.lit (.str [116, 105, 99, 107])))]) false [1, 2, 0]),
    (.ret (.tup [(.lit (.str [116, 101, 120, 116])), (.var 6), (.var 4)]))] []) [.sh (.str t), .sh (.str l), .sh (.int a), .sh (.str [c]), .no, .no, .no] = .nx [.sh (.str t), .sh (.str l), .sh (.int a), .sh (.str [c]), .no, .no, .no] := by
    simp [h39]
  rw [s3, thn_nx, exSs_cons]
  by_cases hsg : c ∈ sgs
  · rw [if_pos hsg]
    simp [hsg, fit_ok, ended, wordR, kSign]
  rw [if_neg hsg]
  have s4 : exS gl (callF pr (n + 1)) rfu (.ite (.cmp .isin (.var 3) (.glo 2)) [(.ret (.tup [(.lit (.str [115, 105, 103, 110])), (.var 3), (.bin .add (.var 2) (.lit (.int (1))))]))] []) [.sh (.str t), .sh (.str l), .sh (.int a), .sh (.str [c]), .no, .no, .no] = .nx [.sh (.str t), .sh (.str l), .sh (.int a), .sh (.str [c]), .no, .no, .no] := by
    simp [hsg]
  rw [s4, thn_nx, exSs_cons]
  -- figures
  have wd : ∀ (b : Sl), (∀ d, b ≠ .ow d) → ended (exSs gl (callF pr (n + 1)) rfu [(.asg (.one 4) (.call 2 [(.var 1), (.var 2), (.glo 4)]) false [1, 2]),
    (.ite (.cmp .notin (.slc (.var 1) (.var 2) (.var 4)) (.glo 3)) [(.raise 6 (.lit .non))] []),
    (.ret (.tup [(.lit (.str [119, 111, 114, 100])), (.slc (.var 1) (.var 2) (.var 4)), (.var 4)]))] [.sh (.str t), .sh (.str l), .sh (.int a), .sh (.str [c]), b, .no, .no]) = wordR a (wordW (c :: l.drop (a + 1))) := fun b hbb => by
    have hr := run_to n (sg := lts) (l := l) (s := a) hl' (Nat.le_of_lt ha)
    rw [hd] at hr
    have hsl : slc (.str l) (some (a : Int)) (some (((a + runL lts (c :: l.drop (a + 1)) : Nat)) : Int)) = .ok (.str ((c :: l.drop (a + 1)).take (runL lts (c :: l.drop (a + 1))))) := by
      rw [slc_str hl', Nat.add_sub_cancel_left, hd]
    have hp : plain [.sh (.str t), .sh (.str l), .sh (.int a), .sh (.str [c]), b, .no, .no] = true := by
      cases b with
      | ow d => exact absurd rfl (hbb d)
      | _ => rfl
    have h1 : exS gl (callF pr (n + 1)) rfu (.asg (.one 4) (.call 2 [(.var 1), (.var 2), (.glo 4)]) false [1, 2]) [.sh (.str t), .sh (.str l), .sh (.int a), .sh (.str [c]), b, .no, .no] = .nx [.sh (.str t), .sh (.str l), .sh (.int a), .sh (.str [c]), .sh (.int ((a + runL lts (c :: l.drop (a + 1)) : Nat) : Int)), .no, .no] := by
      rw [exS_asg, mask_plain hp]
      simp [hr, flat]
    rw [exSs_cons, h1, thn_nx]
    unfold wordW
    by_cases hw : (c :: l.drop (a + 1)).take (runL lts (c :: l.drop (a + 1))) ∈ wds
    · rw [if_pos hw]
      have e2 := isIn_tupS ((c :: l.drop (a + 1)).take (runL lts (c :: l.drop (a + 1)))) wds
      rw [decide_eq_true hw] at e2
      simp only [exSs_cons, exS_ite, open_sh, open_no, open_nil, ev_cmp, ev_slc, ev_var, look_zero, look_succ, val_sh, R.bind_ok, E.isNul, Bool.false_eq_true, if_false, intOf_int, hsl, ev_glo, gl_3, cop_notin, e2, Bool.not_true, asBool_bl, R.out_ok, exSs_nil, thn_nx, exS_ret, ev_tup, evs_cons, ev_lit, evs_nil, List.length_cons, List.length_nil]
      simp [fit_ok, ended, wordR, kWord]
    · rw [if_neg hw]
      have e2 := isIn_tupS ((c :: l.drop (a + 1)).take (runL lts (c :: l.drop (a + 1)))) wds
      rw [decide_eq_false hw] at e2
      simp only [exSs_cons, exS_ite, open_sh, open_no, open_nil, ev_cmp, ev_slc, ev_var, look_zero, look_succ, val_sh, R.bind_ok, E.isNul, Bool.false_eq_true, if_false, intOf_int, hsl, ev_glo, gl_3, cop_notin, e2, Bool.not_false, asBool_bl, R.out_ok, if_true, exS_raise, ev_lit, thn_ex, ended, wordR]
  by_cases h45 : c = 45
  · rw [if_pos h45]
    have hr := run_to n (sg := fgs) (l := l) (s := a + 1) hl' ha
    have hr' : callF pr (n + 1) 2 [.str l, .int ((a : Int) + 1), .str fgs] = .ok (.int ((a + 1 + runL fgs (l.drop (a + 1)) : Nat) : Int)) := hr
    have h5 : exS gl (callF pr (n + 1)) rfu (.asg (.one 4) (.call 2 [(.var 1), (.bin .add (.var 2) (.bi1 .int_ (.cmp .eq (.var 3) (.lit (.str [45]))))), (.glo 5)]) false [1, 2, 3]) [.sh (.str t), .sh (.str l), .sh (.int a), .sh (.str [c]), .no, .no, .no] = .nx [.sh (.str t), .sh (.str l), .sh (.int a), .sh (.str [c]), .sh (.int ((a + 1 + runL fgs (l.drop (a + 1)) : Nat) : Int)), .no, .no] := by
      simp [h45, hr', flat]
    rw [h5, thn_nx, exSs_cons]
    unfold wordN
    by_cases hk : 0 < runL fgs (l.drop (a + 1))
    · rw [if_pos hk]
      have hle := runL_le fgs (l.drop (a + 1))
      have hsl : slc (.str l) (some (a : Int)) (some ((a + 1 + runL fgs (l.drop (a + 1)) : Nat) : Int)) = .ok (.str (45 :: (l.drop (a + 1)).take (runL fgs (l.drop (a + 1))))) := by
        rw [slc_str hl', hd, h45, show a + 1 + runL fgs (l.drop (a + 1)) - a = runL fgs (l.drop (a + 1)) + 1 by omega, List.take_succ_cons]
      have hn := dInt_neg (take_run fgs (l.drop (a + 1))) (fun z => by
        have := congrArg List.length z
        rw [List.length_take, List.length_nil] at this
        omega) (by rw [List.length_take]; rw [List.length_drop] at hle ⊢; omega)
      have hlt : (a : Int) + 1 < ((a + 1 + runL fgs (l.drop (a + 1)) : Nat) : Int) := by omega
      have h6 : exS gl (callF pr (n + 1)) rfu (.ite (.cmp .gt (.var 4) (.bin .add (.var 2) (.bi1 .int_ (.cmp .eq (.var 3) (.lit (.str [45])))))) [(.ret (.tup [(.lit (.str [110, 117, 109, 98, 101, 114])), (.bi1 .int_ (.slc (.var 1) (.var 2) (.var 4))), (.var 4)]))] []) [.sh (.str t), .sh (.str l), .sh (.int a), .sh (.str [c]), .sh (.int ((a + 1 + runL fgs (l.drop (a + 1)) : Nat) : Int)), .no, .no] = .rt (.tup [.str kNum, .int (-(numL ((l.drop (a + 1)).take (runL fgs (l.drop (a + 1)))))), .int ((a + 1 + runL fgs (l.drop (a + 1)) : Nat) : Int)]) := by
        generalize ((a + 1 + runL fgs (l.drop (a + 1)) : Nat) : Int) = z at hlt hsl ⊢
        simp [h45, hlt, hsl, hn, E.isNul, fit_ok, kNum]
      rw [h6]
      simp [ended, wordR]
      omega
    · rw [if_neg hk]
      have hz : runL fgs (l.drop (a + 1)) = 0 := by omega
      have h6 : exS gl (callF pr (n + 1)) rfu (.ite (.cmp .gt (.var 4) (.bin .add (.var 2) (.bi1 .int_ (.cmp .eq (.var 3) (.lit (.str [45])))))) [(.ret (.tup [(.lit (.str [110, 117, 109, 98, 101, 114])), (.bi1 .int_ (.slc (.var 1) (.var 2) (.var 4))), (.var 4)]))] []) [.sh (.str t), .sh (.str l), .sh (.int a), .sh (.str [c]), .sh (.int ((a + 1 + runL fgs (l.drop (a + 1)) : Nat) : Int)), .no, .no] = .nx [.sh (.str t), .sh (.str l), .sh (.int a), .sh (.str [c]), .sh (.int ((a + 1 + runL fgs (l.drop (a + 1)) : Nat) : Int)), .no, .no] := by
        rw [hz]
        simp [h45]
      rw [h6, thn_nx]
      exact wd _ fun d z => by cases z
  · rw [if_neg h45]
    have hr := run_to n (sg := fgs) (l := l) (s := a) hl' (Nat.le_of_lt ha)
    rw [hd] at hr
    have h5 : exS gl (callF pr (n + 1)) rfu (.asg (.one 4) (.call 2 [(.var 1), (.bin .add (.var 2) (.bi1 .int_ (.cmp .eq (.var 3) (.lit (.str [45]))))), (.glo 5)]) false [1, 2, 3]) [.sh (.str t), .sh (.str l), .sh (.int a), .sh (.str [c]), .no, .no, .no] = .nx [.sh (.str t), .sh (.str l), .sh (.int a), .sh (.str [c]), .sh (.int ((a + runL fgs (c :: l.drop (a + 1)) : Nat) : Int)), .no, .no] := by
      simp [h45, hr, flat]
    rw [h5, thn_nx, exSs_cons]
    unfold wordN
    by_cases hk : 0 < runL fgs (c :: l.drop (a + 1))
    · rw [if_pos hk]
      have hle := runL_le fgs (c :: l.drop (a + 1))
      have hlen : (c :: l.drop (a + 1)).length ≤ 500 := by rw [← hd, List.length_drop]; omega
      have hsl : slc (.str l) (some (a : Int)) (some ((a + runL fgs (c :: l.drop (a + 1)) : Nat) : Int)) = .ok (.str ((c :: l.drop (a + 1)).take (runL fgs (c :: l.drop (a + 1))))) := by
        rw [slc_str hl', Nat.add_sub_cancel_left, hd]
      have hn := dInt_figs (take_run fgs (c :: l.drop (a + 1))) (fun z => by
        have := congrArg List.length z
        rw [List.length_take, List.length_nil] at this
        omega) (by rw [List.length_take]; omega)
      have hlt : (a : Int) < ((a + runL fgs (c :: l.drop (a + 1)) : Nat) : Int) := by omega
      have h6 : exS gl (callF pr (n + 1)) rfu (.ite (.cmp .gt (.var 4) (.bin .add (.var 2) (.bi1 .int_ (.cmp .eq (.var 3) (.lit (.str [45])))))) [(.ret (.tup [(.lit (.str [110, 117, 109, 98, 101, 114])), (.bi1 .int_ (.slc (.var 1) (.var 2) (.var 4))), (.var 4)]))] []) [.sh (.str t), .sh (.str l), .sh (.int a), .sh (.str [c]), .sh (.int ((a + runL fgs (c :: l.drop (a + 1)) : Nat) : Int)), .no, .no] = .rt (.tup [.str kNum, .int (numL ((c :: l.drop (a + 1)).take (runL fgs (c :: l.drop (a + 1))))), .int ((a + runL fgs (c :: l.drop (a + 1)) : Nat) : Int)]) := by
        generalize ((a + runL fgs (c :: l.drop (a + 1)) : Nat) : Int) = z at hlt hsl ⊢
        generalize (c :: l.drop (a + 1)).take (runL fgs (c :: l.drop (a + 1))) = y at hsl hn ⊢
        simp [h45, hlt, hsl, hn, E.isNul, fit_ok, kNum]
      rw [h6]
      simp [ended, wordR]
    · rw [if_neg hk]
      have hz : runL fgs (c :: l.drop (a + 1)) = 0 := by omega
      have h6 : exS gl (callF pr (n + 1)) rfu (.ite (.cmp .gt (.var 4) (.bin .add (.var 2) (.bi1 .int_ (.cmp .eq (.var 3) (.lit (.str [45])))))) [(.ret (.tup [(.lit (.str [110, 117, 109, 98, 101, 114])), (.bi1 .int_ (.slc (.var 1) (.var 2) (.var 4))), (.var 4)]))] []) [.sh (.str t), .sh (.str l), .sh (.int a), .sh (.str [c]), .sh (.int ((a + runL fgs (c :: l.drop (a + 1)) : Nat) : Int)), .no, .no] = .nx [.sh (.str t), .sh (.str l), .sh (.int a), .sh (.str [c]), .sh (.int ((a + runL fgs (c :: l.drop (a + 1)) : Nat) : Int)), .no, .no] := by
        rw [hz]
        simp [h45]
      rw [h6, thn_nx]
      exact wd _ fun d z => by cases z
end K32
end Ev

/-! law_k32_words: the law's own next word. -/
namespace Ev
namespace K32
section
variable {fn : Nat → List D → R D}
abbrev eN (t l : List Nat) (a c : Nat) (bg en : Nat) (s4 s5 s6 : Sl) : Env := [.sh (.str t), .sh (.str l), .sh (.int a), .sh (.str [c]), s4, s5, s6, .sh (.str [bg]), .sh (.str [en]), .no, .no, .no, .no]
theorem f_while {t l : List Nat} {a c bg en : Nat} (hl : l.length ≤ 1000) : ∀ (fuel b : Nat) (fg : List Nat), b ≤ l.length → l.length - b < fuel → fg.length ≤ b →
    whileGo (fun env' => (ev gl fn (.and_ (.cmp .lt (.var 4) (.bi1 .len (.var 1))) (.cmp .isin (.idx (.var 1) (.var 4)) (.lit (.str [48, 49, 50, 51, 52, 53, 54, 55, 56, 57])))) (open_ env')).bind asBool) (fun env' => exSs gl fn rfu [(.asg (.one 5) (.bin .add (.var 5) (.idx (.var 1) (.var 4))) false [5, 1, 4]),
    (.asg (.one 4) (.bin .add (.var 4) (.lit (.int (1)))) false [4])] env') fuel
      (eN t l a c bg en (.sh (.int b)) (.sh (.str fg)) .no) = .nx (eN t l a c bg en (.sh (.int ((b + runL fgs (l.drop b) : Nat) : Int))) (.sh (.str (fg ++ (l.drop b).take (runL fgs (l.drop b))))) .no)
  | 0, s, _, _, h, _ => by omega
  | fuel + 1, s, fg, hs, h, hf => by
    unfold whileGo
    by_cases hlt : s < l.length
    · have hc : l[s]? = some l[s] := List.getElem?_eq_getElem hlt
      have hd : l.drop s = l[s] :: l.drop (s + 1) := List.drop_eq_getElem_cons hlt
      generalize l[s] = x at hc hd
      have hadd : bop .add (.str fg) (.str [x]) = .ok (.str (fg ++ [x])) := add_str (by rw [List.length_singleton]; omega)
      by_cases hin : x ∈ [48, 49, 50, 51, 52, 53, 54, 55, 56, 57]
      · have ht : (ev gl fn (.and_ (.cmp .lt (.var 4) (.bi1 .len (.var 1))) (.cmp .isin (.idx (.var 1) (.var 4)) (.lit (.str [48, 49, 50, 51, 52, 53, 54, 55, 56, 57])))) (open_ (eN t l a c bg en (.sh (.int s)) (.sh (.str fg)) .no))).bind asBool = .ok true := by
          simp only [eN, open_sh, open_no, open_nil, ev_and, ev_cmp, ev_var, look_zero, look_succ, val_sh, R.bind_ok, ev_bi1, bi1_len, dLen_str hl, cop_lt, asBool_bl, ev_idx, idx_str hl hc, ev_lit, cop_in, isIn_sign]
          rw [decide_eq_true (show (s : Int) < (l.length : Int) by omega), decide_eq_true hin]; rfl
        rw [ht]
        have hb : exSs gl fn rfu [(.asg (.one 5) (.bin .add (.var 5) (.idx (.var 1) (.var 4))) false [5, 1, 4]), (.asg (.one 4) (.bin .add (.var 4) (.lit (.int (1)))) false [4])] (eN t l a c bg en (.sh (.int s)) (.sh (.str fg)) .no) = .nx (eN t l a c bg en (.sh (.int ((s + 1 : Nat) : Int))) (.sh (.str (fg ++ [x]))) .no) := by
          simp [eN, idx_str hl hc, hadd, flat]
        simp only [R.out_ok, hb, if_true]
        rw [f_while hl fuel (s + 1) (fg ++ [x]) hlt (by omega) (by rw [List.length_append, List.length_singleton]; omega), hd, runL_in (sg := fgs) hin, Nat.add_assoc, Nat.add_comm 1 (runL fgs (l.drop (s + 1))), List.take_succ_cons, List.append_assoc]
        rfl
      · have ht : (ev gl fn (.and_ (.cmp .lt (.var 4) (.bi1 .len (.var 1))) (.cmp .isin (.idx (.var 1) (.var 4)) (.lit (.str [48, 49, 50, 51, 52, 53, 54, 55, 56, 57])))) (open_ (eN t l a c bg en (.sh (.int s)) (.sh (.str fg)) .no))).bind asBool = .ok false := by
          simp only [eN, open_sh, open_no, open_nil, ev_and, ev_cmp, ev_var, look_zero, look_succ, val_sh, R.bind_ok, ev_bi1, bi1_len, dLen_str hl, cop_lt, asBool_bl, ev_idx, idx_str hl hc, ev_lit, cop_in, isIn_sign]
          rw [decide_eq_true (show (s : Int) < (l.length : Int) by omega), decide_eq_false hin]; rfl
        rw [ht, hd, runL_out (sg := fgs) hin, List.take_zero, List.append_nil]; rfl
    · have ht : (ev gl fn (.and_ (.cmp .lt (.var 4) (.bi1 .len (.var 1))) (.cmp .isin (.idx (.var 1) (.var 4)) (.lit (.str [48, 49, 50, 51, 52, 53, 54, 55, 56, 57])))) (open_ (eN t l a c bg en (.sh (.int s)) (.sh (.str fg)) .no))).bind asBool = .ok false := by
        simp [eN, dLen_str hl, hlt]
      rw [ht, List.drop_eq_nil_of_le (by omega)]
      show Out.nx _ = _
      simp [runL]
theorem le_one (x y : Nat) : (([x] : List Nat) < [y]) ↔ x < y := by
  constructor
  · intro h
    cases h with
    | rel h => exact h
    | cons h => cases h
  · intro h
    exact List.Lex.rel h
theorem letter_in (x : Nat) : ((!decide (([x] : List Nat) < [97])) && (!decide (([122] : List Nat) < [x]))) = decide (x ∈ lts) := by
  rw [Bool.eq_iff_iff, Bool.and_eq_true, Bool.not_eq_true', Bool.not_eq_true', decide_eq_false_iff_not, decide_eq_false_iff_not, decide_eq_true_eq, le_one, le_one]
  simp only [lts, List.mem_cons, List.not_mem_nil, or_false]
  omega
theorem l_while {t l : List Nat} {a c bg en : Nat} {s5 : Sl} (h5 : ∀ d, s5 ≠ .ow d) (hl : l.length ≤ 1000) : ∀ (fuel b : Nat), b ≤ l.length → l.length - b < fuel →
    whileGo (fun env' => (ev gl fn (.and_ (.cmp .lt (.var 4) (.bi1 .len (.var 1))) (.cmp2 .le .le (.lit (.str [97])) (.idx (.var 1) (.var 4)) (.lit (.str [122])))) (open_ env')).bind asBool) (fun env' => exSs gl fn rfu [(.asg (.one 4) (.bin .add (.var 4) (.lit (.int (1)))) false [4])] env') fuel
      (eN t l a c bg en (.sh (.int b)) s5 .no) = .nx (eN t l a c bg en (.sh (.int ((b + runL lts (l.drop b) : Nat) : Int))) s5 .no)
  | 0, s, _, h => by omega
  | fuel + 1, s, hs, h => by
    unfold whileGo
    have hp : plain (eN t l a c bg en (.sh (.int s)) s5 .no) = true := by
      cases s5 with
      | ow d => exact absurd rfl (h5 d)
      | _ => rfl
    by_cases hlt : s < l.length
    · have hc : l[s]? = some l[s] := List.getElem?_eq_getElem hlt
      have hd : l.drop s = l[s] :: l.drop (s + 1) := List.drop_eq_getElem_cons hlt
      generalize l[s] = x at hc hd
      have ht : (ev gl fn (.and_ (.cmp .lt (.var 4) (.bi1 .len (.var 1))) (.cmp2 .le .le (.lit (.str [97])) (.idx (.var 1) (.var 4)) (.lit (.str [122])))) (open_ (eN t l a c bg en (.sh (.int s)) s5 .no))).bind asBool = .ok (decide (x ∈ lts)) := by
        rw [open_plain hp, ← letter_in x]
        simp only [eN, ev_and, ev_cmp, ev_var, look_zero, look_succ, val_sh, R.bind_ok, ev_bi1, bi1_len, dLen_str hl, cop_lt, asBool_bl, ev_cmp2, ev_idx, idx_str hl hc, ev_lit]
        rw [decide_eq_true (show (s : Int) < (l.length : Int) by omega)]
        have c1 : cop .le (.str [97]) (.str [x]) = .ok (!decide (([x] : List Nat) < [97])) := rfl
        have c2 : cop .le (.str [x]) (.str [122]) = .ok (!decide (([122] : List Nat) < [x])) := rfl
        simp only [c1, c2, R.bind_ok, if_true]
        cases (!decide (([x] : List Nat) < [97])) <;> rfl
      rw [ht]
      by_cases hin : x ∈ lts
      · rw [decide_eq_true hin]
        have hb : exSs gl fn rfu [(.asg (.one 4) (.bin .add (.var 4) (.lit (.int (1)))) false [4])] (eN t l a c bg en (.sh (.int s)) s5 .no) = .nx (eN t l a c bg en (.sh (.int ((s + 1 : Nat) : Int))) s5 .no) := by
          rw [exSs_cons, exS_asg, mask_plain hp]
          simp [eN, flat]
        simp only [R.out_ok, hb, if_true]
        rw [l_while h5 hl fuel (s + 1) hlt (by omega), hd, runL_in hin, Nat.add_assoc]
      · rw [decide_eq_false hin, hd, runL_out hin]; rfl
    · have ht : (ev gl fn (.and_ (.cmp .lt (.var 4) (.bi1 .len (.var 1))) (.cmp2 .le .le (.lit (.str [97])) (.idx (.var 1) (.var 4)) (.lit (.str [122])))) (open_ (eN t l a c bg en (.sh (.int s)) s5 .no))).bind asBool = .ok false := by
        rw [open_plain hp]
        simp [eN, dLen_str hl, hlt]
      rw [ht, List.drop_eq_nil_of_le (by omega)]; rfl
end
/-- what the law's own def of a word gives -/
def nextR (a : Nat) : Option (List Nat × D × Nat) → R D
  | some (k, w, m) => .ok (.tup [.tup [.str k, w], .int ((a + m : Nat) : Int)])
  | none => .ok .non
theorem law_next (n : Nat) {t l : List Nat} {bg en a : Nat} {tick : Bool} (T : Tg t bg en tick) (hl : l.length ≤ 500) (ha : a < l.length) : callF pr (n + 2) 9 [.str t, .str l, .int a] = nextR a (wordL bg en tick (l.drop a)) := by
  rw [call_eq (n + 1) (fd := ⟨3, 13, b9⟩) rfl rfl]
  have hl' : l.length ≤ 1000 := by omega
  have hc : l[a]? = some l[a] := List.getElem?_eq_getElem ha
  have hd : l.drop a = l[a] :: l.drop (a + 1) := List.drop_eq_getElem_cons ha
  generalize l[a] = c at hc hd
  show ended (exSs gl (callF pr (n + 1)) rfu b9 [.sh (.str t), .sh (.str l), .sh (.int a), .no, .no, .no, .no, .no, .no, .no, .no, .no, .no]) = _
  have hq1 : ∀ (e : Nat) (sl : Bool), callF pr (n + 1) 8 [.str l, .int ((a : Int) + 1), .str [e], .bl (!sl), .bl sl] = match quoteL e sl (l.drop (a + 1)) with
    | some p => .ok (.tup [.str p.1, .int ((a + 1 + p.2 : Nat) : Int)])
    | none => .ok .non := fun e sl => law_quote n (s := a + 1) hl' ha
  have hT := T.isT
  unfold b9
  rw [exSs_cons]
  have h1 : exS gl (callF pr (n + 1)) rfu (.asg (.one 3) (.idx (.var 1) (.var 2)) false [1, 2]) [.sh (.str t), .sh (.str l), .sh (.int a), .no, .no, .no, .no, .no, .no, .no, .no, .no, .no] = .nx [.sh (.str t), .sh (.str l), .sh (.int a), .sh (.str [c]), .no, .no, .no, .no, .no, .no, .no, .no, .no] := by
    simp [idx_str hl' hc, flat]
  rw [h1, thn_nx, exSs_cons]
  have h2 : exS gl (callF pr (n + 1)) rfu (.asg (.many [(.one 7), (.one 8)]) (.idx (.dct [(.s [100, 111, 117, 98, 108, 101]), (.s [98, 114, 97, 99, 107, 101, 116]), (.s [116, 105, 99, 107])] [(.tup [(.lit (.str [34])), (.lit (.str [34]))]), (.tup [(.lit (.str [91])), (.lit (.str [93]))]), (.tup [(.lit (.str [96])), (.lit (.str [96]))])]) (.var 0)) false [0]) [.sh (.str t), .sh (.str l), .sh (.int a), .sh (.str [c]), .no, .no, .no, .no, .no, .no, .no, .no, .no] = .nx (eN t l a c bg en .no .no .no) := by
    simp only [exS_asg, mask_K, maskK_sh, maskK_no, maskK_nil, ev_idx, ev_DC, R.bind_ok, ev_var, look_zero, val_sh, T.dic, R.out_ok]
    simp [flat, eN]
  rw [h2, thn_nx, exSs_cons, hd, wordL_cons]
  by_cases hb : c = bg
  · rw [if_pos hb]
    have e1 := hq1 en false
    cases q : quoteL en false (l.drop (a + 1)) with
    | none =>
      rw [q] at e1
      have e1' : callF pr (n + 1) 8 [.str l, .int ((a : Int) + 1), .str [en], .bl true, .bl false] = .ok .non := e1
      simp [eN, hb, fit_ok, e1', ended, nextR, flat, cop]
    | some p =>
      rw [q] at e1
      have e1' : callF pr (n + 1) 8 [.str l, .int ((a : Int) + 1), .str [en], .bl true, .bl false] = .ok (.tup [.str p.1, .int ((a + 1 + p.2 : Nat) : Int)]) := e1
      simp [eN, hb, fit_ok, e1', ended, nextR, flat, cop, kName]
      omega
  rw [if_neg hb]
  by_cases h39 : c = 39
  · rw [if_pos h39]
    have hb39 : ¬ 39 = bg := fun z => hb (h39.trans z)
    have e1 := hq1 39 tick
    cases q : quoteL 39 tick (l.drop (a + 1)) with
    | none =>
      rw [q] at e1
      simp [eN, h39, hb39, hT, fit_ok, e1, ended, nextR, flat, cop]
    | some p =>
      rw [q] at e1
      simp [eN, h39, hb39, hT, fit_ok, e1, ended, nextR, flat, cop, kText]
      omega
  rw [if_neg h39]
  have s3 : ∀ (p q : List S), exS gl (callF pr (n + 1)) rfu (.ite (.cmp .isin (.var 3) (.tup [(.var 7), (.lit (.str [39]))])) p []) (eN t l a c bg en .no .no .no) = .nx (eN t l a c bg en .no .no .no) := fun p q => by
    simp [eN, hb, h39, fit_ok]
  rw [s3 _ [], thn_nx, exSs_cons]
  by_cases hsg : c ∈ sgs
  · rw [if_pos hsg]
    have hsg' : c ∈ [40, 41, 44, 46, 61, 60, 43, 38, 63] := hsg
    have s4 : exS gl (callF pr (n + 1)) rfu (.ite (.cmp .isin (.var 3) (.lit (.str [40, 41, 44, 46, 61, 60, 43, 38, 63]))) [(.ret (.tup [(.tup [(.lit (.str [115, 105, 103, 110])), (.var 3)]), (.bin .add (.var 2) (.lit (.int (1))))]))] []) (eN t l a c bg en .no .no .no) = .rt (.tup [.tup [.str kSign, .str [c]], .int ((a : Int) + 1)]) := by
      simp only [exS_ite, eN, open_sh, open_no, open_nil, ev_cmp, ev_var, look_zero, look_succ, val_sh, R.bind_ok, ev_lit, cop_in, isIn_sign, decide_eq_true hsg', asBool_bl, R.out_ok, if_true]
      simp [fit_ok, kSign]
    rw [s4]
    simp [ended, nextR]
  rw [if_neg hsg]
  have hsg' : ¬ c ∈ [40, 41, 44, 46, 61, 60, 43, 38, 63] := hsg
  have s4 : ∀ (p : List S), exS gl (callF pr (n + 1)) rfu (.ite (.cmp .isin (.var 3) (.lit (.str [40, 41, 44, 46, 61, 60, 43, 38, 63]))) p []) (eN t l a c bg en .no .no .no) = .nx (eN t l a c bg en .no .no .no) := fun p => by
    simp only [exS_ite, eN, open_sh, open_no, open_nil, ev_cmp, ev_var, look_zero, look_succ, val_sh, R.bind_ok, ev_lit, cop_in, isIn_sign, decide_eq_false hsg', asBool_bl, R.out_ok, Bool.false_eq_true, if_false, exSs_nil]
  rw [s4, thn_nx, exSs_cons]
  -- letters
  have wd : ∀ (b : Int) (fg : List Nat), ended (exSs gl (callF pr (n + 1)) rfu [(.asg (.one 4) (.var 2) false [2]),
    (.while_ (.and_ (.cmp .lt (.var 4) (.bi1 .len (.var 1))) (.cmp2 .le .le (.lit (.str [97])) (.idx (.var 1) (.var 4)) (.lit (.str [122])))) [(.asg (.one 4) (.bin .add (.var 4) (.lit (.int (1)))) false [4])]),
    (.asg (.one 6) (.lst [(.lit (.str [97, 115, 107])), (.lit (.str [97, 115])), (.lit (.str [102, 114, 111, 109])), (.lit (.str [119, 104, 101, 114, 101])), (.lit (.str [98, 121])), (.lit (.str [102, 105, 114, 115, 116])), (.lit (.str [117, 112])), (.lit (.str [100, 111, 119, 110])), (.lit (.str [97, 110, 100])), (.lit (.str [111, 114])), (.lit (.str [110, 111, 116])), (.lit (.str [105, 110]))]) false []),
    (.ret (.ite (.cmp .isin (.slc (.var 1) (.var 2) (.var 4)) (.var 6)) (.tup [(.tup [(.lit (.str [119, 111, 114, 100])), (.slc (.var 1) (.var 2) (.var 4))]), (.var 4)]) (.lit .non)))] (eN t l a c bg en (.sh (.int b)) (.sh (.str fg)) .no)) = nextR a (wordW (c :: l.drop (a + 1))) := fun b fg => by
    have w1 : exS gl (callF pr (n + 1)) rfu (.asg (.one 4) (.var 2) false [2]) (eN t l a c bg en (.sh (.int b)) (.sh (.str fg)) .no) = .nx (eN t l a c bg en (.sh (.int a)) (.sh (.str fg)) .no) := by
      simp [eN, flat]
    have w2 := l_while (fn := callF pr (n + 1)) (t := t) (a := a) (c := c) (bg := bg) (en := en) (s5 := .sh (.str fg)) (fun d z => by cases z) hl' turns a (Nat.le_of_lt ha) (by have : turns = 100000 := rfl; omega)
    have w3 : ∀ z : Int, exS gl (callF pr (n + 1)) rfu (.asg (.one 6) (.lst [(.lit (.str [97, 115, 107])), (.lit (.str [97, 115])), (.lit (.str [102, 114, 111, 109])), (.lit (.str [119, 104, 101, 114, 101])), (.lit (.str [98, 121])), (.lit (.str [102, 105, 114, 115, 116])), (.lit (.str [117, 112])), (.lit (.str [100, 111, 119, 110])), (.lit (.str [97, 110, 100])), (.lit (.str [111, 114])), (.lit (.str [110, 111, 116])), (.lit (.str [105, 110]))]) false []) (eN t l a c bg en (.sh (.int z)) (.sh (.str fg)) .no) = .nx (eN t l a c bg en (.sh (.int z)) (.sh (.str fg)) (.sh (.lst (wds.map D.str)))) := fun z => rfl
    rw [exSs_cons, w1, thn_nx, exSs_while w2, thn_nx, exSs_cons, w3, thn_nx, hd]
    have hsl : slc (.str l) (some (a : Int)) (some (((a + runL lts (c :: l.drop (a + 1)) : Nat)) : Int)) = .ok (.str ((c :: l.drop (a + 1)).take (runL lts (c :: l.drop (a + 1))))) := by
      rw [slc_str hl', Nat.add_sub_cancel_left, hd]
    unfold wordW
    have e2 := isIn_lstS ((c :: l.drop (a + 1)).take (runL lts (c :: l.drop (a + 1)))) wds
    by_cases hw : (c :: l.drop (a + 1)).take (runL lts (c :: l.drop (a + 1))) ∈ wds
    · rw [if_pos hw]
      rw [decide_eq_true hw] at e2
      simp only [exSs_cons, exS_ret, eN, open_sh, open_no, open_nil, ev_ite, ev_cmp, ev_slc, ev_var, look_zero, look_succ, val_sh, R.bind_ok, E.isNul, Bool.false_eq_true, if_false, intOf_int, hsl, cop_in, e2, asBool_bl, if_true, ev_tup, evs_cons, ev_lit, evs_nil, List.length_cons, List.length_nil]
      simp [fit_ok, ended, nextR, kWord]
    · rw [if_neg hw]
      rw [decide_eq_false hw] at e2
      simp only [exSs_cons, exS_ret, eN, open_sh, open_no, open_nil, ev_ite, ev_cmp, ev_slc, ev_var, look_zero, look_succ, val_sh, R.bind_ok, E.isNul, Bool.false_eq_true, if_false, intOf_int, hsl, cop_in, e2, asBool_bl, ev_lit]
      simp [ended, nextR]
  -- figures
  have num : ∀ (m : Nat) (sg : Int) (r : List Nat), l.drop (a + m) = r → a + m ≤ l.length → (if c = 45 then (1 : Int) else 0) = m → (if c = 45 then (-1 : Int) else 1) = sg → ended ((exS gl (callF pr (n + 1)) rfu (.asg (.one 4) (.bin .add (.var 2) (.bi1 .int_ (.cmp .eq (.var 3) (.lit (.str [45]))))) false [2, 3]) (eN t l a c bg en .no .no .no)).thn (exSs gl (callF pr (n + 1)) rfu [(.asg (.one 5) (.lit (.str [])) false []),
    (.while_ (.and_ (.cmp .lt (.var 4) (.bi1 .len (.var 1))) (.cmp .isin (.idx (.var 1) (.var 4)) (.lit (.str [48, 49, 50, 51, 52, 53, 54, 55, 56, 57])))) [(.asg (.one 5) (.bin .add (.var 5) (.idx (.var 1) (.var 4))) false [5, 1, 4]),
    (.asg (.one 4) (.bin .add (.var 4) (.lit (.int (1)))) false [4])]),
    (.ite (.cmp .ne (.var 5) (.lit (.str []))) [(.ret (.tup [(.tup [(.lit (.str [110, 117, 109, 98, 101, 114])), (.bin .mul (.bi1 .int_ (.var 5)) (.ite (.cmp .eq (.var 3) (.lit (.str [45]))) (.neg (.lit (.int (1)))) (.lit (.int (1)))))]), (.var 4)]))] []),
    (.asg (.one 4) (.var 2) false [2]),
    (.while_ (.and_ (.cmp .lt (.var 4) (.bi1 .len (.var 1))) (.cmp2 .le .le (.lit (.str [97])) (.idx (.var 1) (.var 4)) (.lit (.str [122])))) [(.asg (.one 4) (.bin .add (.var 4) (.lit (.int (1)))) false [4])]),
    (.asg (.one 6) (.lst [(.lit (.str [97, 115, 107])), (.lit (.str [97, 115])), (.lit (.str [102, 114, 111, 109])), (.lit (.str [119, 104, 101, 114, 101])), (.lit (.str [98, 121])), (.lit (.str [102, 105, 114, 115, 116])), (.lit (.str [117, 112])), (.lit (.str [100, 111, 119, 110])), (.lit (.str [97, 110, 100])), (.lit (.str [111, 114])), (.lit (.str [110, 111, 116])), (.lit (.str [105, 110]))]) false []),
    (.ret (.ite (.cmp .isin (.slc (.var 1) (.var 2) (.var 4)) (.var 6)) (.tup [(.tup [(.lit (.str [119, 111, 114, 100])), (.slc (.var 1) (.var 2) (.var 4))]), (.var 4)]) (.lit .non)))])) = nextR a (wordN m sg (c :: l.drop (a + 1)) r) := fun m sg r hr hm e1 e2 => by
    have n1 : exS gl (callF pr (n + 1)) rfu (.asg (.one 4) (.bin .add (.var 2) (.bi1 .int_ (.cmp .eq (.var 3) (.lit (.str [45]))))) false [2, 3]) (eN t l a c bg en .no .no .no) = .nx (eN t l a c bg en (.sh (.int ((a + m : Nat) : Int))) .no .no) := by
      by_cases h45 : c = 45
      · rw [if_pos h45] at e1
        have : m = 1 := by omega
        subst this
        simp [eN, h45, flat]
      · rw [if_neg h45] at e1
        have : m = 0 := by omega
        subst this
        simp [eN, h45, flat]
    have n2 : exS gl (callF pr (n + 1)) rfu (.asg (.one 5) (.lit (.str [])) false []) (eN t l a c bg en (.sh (.int ((a + m : Nat) : Int))) .no .no) = .nx (eN t l a c bg en (.sh (.int ((a + m : Nat) : Int))) (.sh (.str [])) .no) := by
      simp [eN, flat]
    have n3 := f_while (fn := callF pr (n + 1)) (t := t) (a := a) (c := c) (bg := bg) (en := en) hl' turns (a + m) [] hm (by have : turns = 100000 := rfl; omega) (by simp)
    rw [n1, thn_nx, exSs_cons, n2, thn_nx, exSs_while n3, thn_nx, List.nil_append, hr, exSs_cons]
    unfold wordN
    by_cases hk : 0 < runL fgs r
    · rw [if_pos hk]
      have hle := runL_le fgs r
      have hrl : r.length ≤ 500 := by rw [← hr, List.length_drop]; omega
      have hne : r.take (runL fgs r) ≠ [] := fun z => by
        have := congrArg List.length z
        rw [List.length_take, List.length_nil] at this
        omega
      have hn := dInt_figs (take_run fgs r) hne (by rw [List.length_take]; omega)
      have n4 : exS gl (callF pr (n + 1)) rfu (.ite (.cmp .ne (.var 5) (.lit (.str []))) [(.ret (.tup [(.tup [(.lit (.str [110, 117, 109, 98, 101, 114])), (.bin .mul (.bi1 .int_ (.var 5)) (.ite (.cmp .eq (.var 3) (.lit (.str [45]))) (.neg (.lit (.int (1)))) (.lit (.int (1)))))]), (.var 4)]))] []) (eN t l a c bg en (.sh (.int ((a + m + runL fgs r : Nat) : Int))) (.sh (.str (r.take (runL fgs r)))) .no) = .rt (.tup [.tup [.str kNum, .int (numL (r.take (runL fgs r)) * sg)], .int ((a + m + runL fgs r : Nat) : Int)]) := by
        generalize ((a + m + runL fgs r : Nat) : Int) = z
        generalize r.take (runL fgs r) = y at hn hne ⊢
        have hy : (y == []) = false := by simpa using hne
        by_cases h45 : c = 45
        · rw [if_pos h45] at e2
          subst e2
          simp [eN, h45, hne, hn, bop, fit_ok, kNum]
        · rw [if_neg h45] at e2
          subst e2
          simp [eN, h45, hne, hn, bop, fit_ok, kNum]
      rw [n4]
      simp [ended, nextR, Nat.add_assoc]
    · rw [if_neg hk]
      have hz : runL fgs r = 0 := by omega
      rw [hz, List.take_zero]
      have n4 : ∀ (p : List S) (z : Int), exS gl (callF pr (n + 1)) rfu (.ite (.cmp .ne (.var 5) (.lit (.str []))) p []) (eN t l a c bg en (.sh (.int z)) (.sh (.str [])) .no) = .nx (eN t l a c bg en (.sh (.int z)) (.sh (.str [])) .no) := fun p z => by
        simp [eN]
      rw [n4, thn_nx]
      exact wd _ _
  by_cases h45 : c = 45
  · rw [if_pos h45]
    exact num 1 (-1) (l.drop (a + 1)) rfl ha (if_pos h45) (if_pos h45)
  · rw [if_neg h45]
    exact num 0 1 (c :: l.drop (a + 1)) hd (Nat.le_of_lt ha) (if_neg h45) (if_neg h45)
end K32
end Ev

/-! law_k32_words: all words. -/
namespace Ev
namespace K32
theorem wordW_le {s : List Nat} {k : List Nat} {w : D} {m : Nat} (h : wordW s = some (k, w, m)) : 1 ≤ m ∧ m ≤ s.length ∧ w = .str (s.take m) := by
  unfold wordW at h
  split at h
  · rename_i hw
    cases h
    refine ⟨?_, runL_le lts s, rfl⟩
    cases hz : runL lts s with
    | zero => rw [hz, List.take_zero] at hw; exact absurd hw (by decide)
    | succ j => omega
  · cases h
theorem wordN_le {j : Nat} {sg : Int} {s r : List Nat} {k : List Nat} {w : D} {m : Nat} (hj : j + r.length = s.length) (h : wordN j sg s r = some (k, w, m)) : 1 ≤ m ∧ m ≤ s.length ∧ (okd 0 w = true) := by
  unfold wordN at h
  split at h
  · cases h
    have := runL_le fgs r
    exact ⟨by omega, by omega, rfl⟩
  · obtain ⟨h1, h2, h3⟩ := wordW_le h
    exact ⟨h1, h2, by rw [h3]; rfl⟩
theorem wordL_le {bg en : Nat} {tick : Bool} {s : List Nat} {k : List Nat} {w : D} {m : Nat} (h : wordL bg en tick s = some (k, w, m)) : 1 ≤ m ∧ m ≤ s.length ∧ okd 0 w = true := by
  cases s with
  | nil => cases h
  | cons c r =>
    rw [wordL_cons] at h
    rw [List.length_cons]
    split at h
    · obtain ⟨p, hp, e⟩ := Option.map_eq_some_iff.mp h
      cases e
      have := quoteL_le en false r.length r p (Nat.le_refl _) hp
      exact ⟨by omega, by omega, rfl⟩
    split at h
    · obtain ⟨p, hp, e⟩ := Option.map_eq_some_iff.mp h
      cases e
      have := quoteL_le 39 tick r.length r p (Nat.le_refl _) hp
      exact ⟨by omega, by omega, rfl⟩
    split at h
    · cases h; exact ⟨Nat.le_refl _, by omega, rfl⟩
    split at h
    · have := wordN_le (by rw [List.length_cons]; omega) h
      rw [List.length_cons] at this
      exact this
    · have := wordN_le (by rw [List.length_cons]; omega) h
      rw [List.length_cons] at this
      exact this
/-- the words of a text -/
def wordsL (bg en : Nat) (tick : Bool) : Nat → List Nat → Option (List D)
  | 0, _ => none
  | _ + 1, [] => some []
  | n + 1, c :: r => if c = 32 then wordsL bg en tick n r else match wordL bg en tick (c :: r) with
    | none => none
    | some (k, w, m) => (wordsL bg en tick n ((c :: r).drop m)).map (D.tup [.str k, w] :: ·)
theorem words_skip (bg en : Nat) (tick : Bool) : ∀ (l : List Nat) (n : Nat), l.length < n → wordsL bg en tick n l = wordsL bg en tick (n - runL [32] l) (l.drop (runL [32] l))
  | [], n, _ => by simp [runL]
  | c :: r, 0, h => by simp at h
  | c :: r, n + 1, h => by
    by_cases hc : c = 32
    · subst hc
      rw [runL_in (by decide)]
      have e1 : wordsL bg en tick (n + 1) (32 :: r) = wordsL bg en tick n r := by
        conv => lhs; unfold wordsL
        rw [if_pos rfl]
      rw [e1, words_skip bg en tick r n (by rw [List.length_cons] at h; omega), Nat.add_comm 1, List.drop_succ_cons, show n + 1 - (runL [32] r + 1) = n - runL [32] r by omega]
    · rw [runL_out (by simpa using hc)]; rfl
theorem run_stop (sg : List Nat) : ∀ (l : List Nat) (c : Nat) (r : List Nat), l.drop (runL sg l) = c :: r → c ∉ sg
  | [], c, r, h => by simp [runL] at h
  | d :: l, c, r, h => by
    by_cases hd : d ∈ sg
    · rw [runL_in hd, Nat.add_comm, List.drop_succ_cons] at h
      exact run_stop sg l c r h
    · rw [runL_out hd, List.drop_zero] at h
      cases h
      exact hd
/-! ### the law's own -/
abbrev eD (t l : List Nat) (acc : List D) (a : Nat) (s4 : Sl) : Env := [.sh (.str t), .sh (.str l), .ow (.lst acc), .sh (.int a), s4]
abbrev dB (fn : Nat → List D → R D) : Env → Out := fun env' => exSs gl fn rfu [(.ite (.cmp .eq (.idx (.var 1) (.var 3)) (.lit (.str [32]))) [(.asg (.one 3) (.bin .add (.var 3) (.lit (.int (1)))) false [3])] [(.asg (.one 4) (.call 9 [(.var 0), (.var 1), (.var 3)]) false [0, 1, 3]),
    (.ite (.cmp .is_ (.var 4) (.lit .non)) [(.ret (.tup [(.lit (.str [114, 101, 102, 117, 115, 101, 100])), (.lit (.int (6)))]))] []),
    (.app 2 (.idx (.var 4) (.lit (.int (0)))) [4]),
    (.asg (.one 3) (.idx (.var 4) (.lit (.int (1)))) false [4])])] env'
theorem exS_app {fn : Nat → List D → R D} {env : Env} (i : Nat) (e : E) (uses : List Nat) : exS gl fn rfu (.app i e uses) env = (ownAt env i).out fun o => match o with
    | .lst xs => (ev gl fn e (mask uses env)).out fun d => (ownAt (after d uses env) i).out fun _ =>
      if xs.length < lim then .nx ((after d uses env).set i (.ow (.lst (xs ++ [d])))) else .no
    | _ => .no := rfl
theorem d_while (n : Nat) {t l : List Nat} {bg en : Nat} {tick : Bool} (T : Tg t bg en tick) (hl : l.length ≤ 500) : ∀ (fuel a w : Nat) (acc : List D) (s4 : Sl), (∀ d, s4 ≠ .ow d) → a ≤ l.length → l.length - a < fuel → l.length - a < w → acc.length ≤ a →
    match wordsL bg en tick w (l.drop a) with
    | some ws => ∃ b s5, whileGo (fun env' => (ev gl (callF pr (n + 2)) (.cmp .lt (.var 3) (.bi1 .len (.var 1))) (open_ env')).bind asBool) (dB (callF pr (n + 2))) fuel (eD t l acc a s4) = .nx (eD t l (acc ++ ws) b s5)
    | none => whileGo (fun env' => (ev gl (callF pr (n + 2)) (.cmp .lt (.var 3) (.bi1 .len (.var 1))) (open_ env')).bind asBool) (dB (callF pr (n + 2))) fuel (eD t l acc a s4) = .rt (.tup [.str refd, .int 6])
  | 0, a, w, acc, s4, _, _, h, _, _ => by omega
  | fuel + 1, a, 0, acc, s4, _, _, _, h, _ => by omega
  | fuel + 1, a, w + 1, acc, s4, h4, ha, hf, hw, hacc => by
    have hl' : l.length ≤ 1000 := by omega
    by_cases hlt : a < l.length
    · have hc : l[a]? = some l[a] := List.getElem?_eq_getElem hlt
      have hd : l.drop a = l[a] :: l.drop (a + 1) := List.drop_eq_getElem_cons hlt
      generalize l[a] = c at hc hd
      have hopen : open_ (eD t l acc a s4) = [.sh (.str t), .sh (.str l), .sh (.lst acc), .sh (.int a), s4] := by
        cases s4 with
        | ow d => exact absurd rfl (h4 d)
        | _ => rfl
      have ht : (ev gl (callF pr (n + 2)) (.cmp .lt (.var 3) (.bi1 .len (.var 1))) (open_ (eD t l acc a s4))).bind asBool = .ok true := by
        rw [hopen]
        simp [dLen_str hl', hlt]
      have hgo : ∀ o, dB (callF pr (n + 2)) (eD t l acc a s4) = o → whileGo (fun env' => (ev gl (callF pr (n + 2)) (.cmp .lt (.var 3) (.bi1 .len (.var 1))) (open_ env')).bind asBool) (dB (callF pr (n + 2))) (fuel + 1) (eD t l acc a s4) = o.thn (whileGo (fun env' => (ev gl (callF pr (n + 2)) (.cmp .lt (.var 3) (.bi1 .len (.var 1))) (open_ env')).bind asBool) (dB (callF pr (n + 2))) fuel) := fun o ho => by
        conv => lhs; unfold whileGo
        rw [ht]
        simp only [R.out_ok, if_true, ho]
        cases o <;> rfl
      by_cases h32 : c = 32
      · have hb : dB (callF pr (n + 2)) (eD t l acc a s4) = .nx (eD t l acc (a + 1) s4) := by
          have h1 : ((ev gl (callF pr (n + 2)) (.cmp .eq (.idx (.var 1) (.var 3)) (.lit (.str [32]))) (open_ (eD t l acc a s4))).bind asBool) = .ok true := by
            rw [hopen]
            simp [idx_str hl' hc, h32]
          have h2 : exS gl (callF pr (n + 2)) rfu (.asg (.one 3) (.bin .add (.var 3) (.lit (.int (1)))) false [3]) (eD t l acc a s4) = .nx (eD t l acc (a + 1) s4) := by
            cases s4 with
            | ow d => exact absurd rfl (h4 d)
            | _ => simp [eD, flat]
          show exSs gl (callF pr (n + 2)) rfu (_ :: _) _ = _
          rw [exSs_cons, exS_ite, h1]
          simp only [R.out_ok, if_true, exSs_cons, h2, thn_nx, exSs_nil]
        have ih := d_while n T hl fuel (a + 1) w acc s4 h4 hlt (by omega) (by omega) (by omega)
        rw [hgo _ hb, thn_nx, hd]
        have e1 : wordsL bg en tick (w + 1) (c :: l.drop (a + 1)) = wordsL bg en tick w (l.drop (a + 1)) := by
          conv => lhs; unfold wordsL
          rw [if_pos h32]
        rw [e1]
        exact ih
      · have hn := law_next n T hl hlt
        rw [hd] at hn
        have h1 : ((ev gl (callF pr (n + 2)) (.cmp .eq (.idx (.var 1) (.var 3)) (.lit (.str [32]))) (open_ (eD t l acc a s4))).bind asBool) = .ok false := by
          rw [hopen]
          simp [idx_str hl' hc, h32]
        have e1 : wordsL bg en tick (w + 1) (c :: l.drop (a + 1)) = match wordL bg en tick (c :: l.drop (a + 1)) with
          | none => none
          | some (k, x, m) => (wordsL bg en tick w ((c :: l.drop (a + 1)).drop m)).map (D.tup [.str k, x] :: ·) := by
          conv => lhs; unfold wordsL
          rw [if_neg h32]
        rw [hd, e1]
        cases hq : wordL bg en tick (c :: l.drop (a + 1)) with
        | none =>
          rw [hq] at hn
          have hb : dB (callF pr (n + 2)) (eD t l acc a s4) = .rt (.tup [.str refd, .int 6]) := by
            have h2 : exS gl (callF pr (n + 2)) rfu (.asg (.one 4) (.call 9 [(.var 0), (.var 1), (.var 3)]) false [0, 1, 3]) (eD t l acc a s4) = .nx (eD t l acc a (.sh .non)) := by
              cases s4 with
              | ow d => exact absurd rfl (h4 d)
              | _ => simp [eD, hn, nextR, flat]
            show exSs gl (callF pr (n + 2)) rfu (_ :: _) _ = _
            rw [exSs_cons, exS_ite, h1]
            simp only [R.out_ok, Bool.false_eq_true, if_false, exSs_cons, h2, thn_nx]
            simp [eD, cop, fit_ok, refd]
          simp only
          rw [hgo _ hb, thn_rt]
        | some q =>
          obtain ⟨k, x, m⟩ := q
          rw [hq] at hn
          obtain ⟨m1, m2, m3⟩ := wordL_le hq
          rw [← hd, List.length_drop] at m2
          have hb : dB (callF pr (n + 2)) (eD t l acc a s4) = .nx (eD t l (acc ++ [.tup [.str k, x]]) (a + m) (.sh (.tup [.tup [.str k, x], .int ((a + m : Nat) : Int)]))) := by
            have h2 : exS gl (callF pr (n + 2)) rfu (.asg (.one 4) (.call 9 [(.var 0), (.var 1), (.var 3)]) false [0, 1, 3]) (eD t l acc a s4) = .nx (eD t l acc a (.sh (.tup [.tup [.str k, x], .int ((a + m : Nat) : Int)]))) := by
              cases s4 with
              | ow d => exact absurd rfl (h4 d)
              | _ => simp [eD, hn, nextR, flat]
            have h3 : exS gl (callF pr (n + 2)) rfu (.ite (.cmp .is_ (.var 4) (.lit .non)) [(.ret (.tup [(.lit (.str [114, 101, 102, 117, 115, 101, 100])), (.lit (.int (6)))]))] []) (eD t l acc a (.sh (.tup [.tup [.str k, x], .int ((a + m : Nat) : Int)]))) = .nx (eD t l acc a (.sh (.tup [.tup [.str k, x], .int ((a + m : Nat) : Int)]))) := by
              simp [eD, cop]
            have h5 : exS gl (callF pr (n + 2)) rfu (.app 2 (.idx (.var 4) (.lit (.int (0)))) [4]) (eD t l acc a (.sh (.tup [.tup [.str k, x], .int ((a + m : Nat) : Int)]))) = .nx (eD t l (acc ++ [.tup [.str k, x]]) a (.sh (.tup [.tup [.str k, x], .int ((a + m : Nat) : Int)]))) := by
              rw [exS_app]
              have hz : acc.length < lim := Nat.lt_of_le_of_lt (Nat.le_trans hacc (Nat.le_trans ha hl)) (by decide)
              simp [eD, ownAt, flat, hz]
            have h6 : exS gl (callF pr (n + 2)) rfu (.asg (.one 3) (.idx (.var 4) (.lit (.int (1)))) false [4]) (eD t l (acc ++ [.tup [.str k, x]]) a (.sh (.tup [.tup [.str k, x], .int ((a + m : Nat) : Int)]))) = .nx (eD t l (acc ++ [.tup [.str k, x]]) (a + m) (.sh (.tup [.tup [.str k, x], .int ((a + m : Nat) : Int)]))) := by
              simp [eD, flat]
            show exSs gl (callF pr (n + 2)) rfu (_ :: _) _ = _
            rw [exSs_cons, exS_ite, h1]
            simp only [R.out_ok, Bool.false_eq_true, if_false, exSs_cons, h2, thn_nx, h3, h5, h6, exSs_nil]
          have ih := d_while n T hl fuel (a + m) w (acc ++ [.tup [.str k, x]]) (.sh (.tup [.tup [.str k, x], .int ((a + m : Nat) : Int)])) (fun d z => by cases z) (by omega) (by omega) (by omega) (by rw [List.length_append, List.length_singleton]; omega)
          rw [hgo _ hb, thn_nx]
          have e2 : (c :: l.drop (a + 1)).drop m = l.drop (a + m) := by rw [← hd, List.drop_drop]
          simp only [e2]
          cases hws : wordsL bg en tick w (l.drop (a + m)) with
          | none => rw [hws] at ih; exact ih
          | some ws =>
            rw [hws] at ih
            obtain ⟨b, s5, ih⟩ := ih
            refine ⟨b, s5, ?_⟩
            rw [ih, List.append_assoc]; rfl
    · have hopen : open_ (eD t l acc a s4) = [.sh (.str t), .sh (.str l), .sh (.lst acc), .sh (.int a), s4] := by
        cases s4 with
        | ow d => exact absurd rfl (h4 d)
        | _ => rfl
      have ht : (ev gl (callF pr (n + 2)) (.cmp .lt (.var 3) (.bi1 .len (.var 1))) (open_ (eD t l acc a s4))).bind asBool = .ok false := by
        rw [hopen]
        simp [dLen_str hl', hlt]
      have e1 : wordsL bg en tick (w + 1) (l.drop a) = some [] := by
        rw [List.drop_eq_nil_of_le (by omega)]; rfl
      rw [e1]
      refine ⟨a, s4, ?_⟩
      conv => lhs; unfold whileGo
      rw [ht, List.append_nil]; rfl
/-- what is told of a text -/
def toldR : Option (List D) → R D
  | some ws => .ok (.lst ws)
  | none => .ok (.tup [.str refd, .int 6])
theorem law_due (n : Nat) {t l : List Nat} {bg en : Nat} {tick : Bool} (T : Tg t bg en tick) (hl : l.length ≤ 500) : callF pr (n + 3) 10 [.str t, .str l] = toldR (wordsL bg en tick (l.length + 1) l) := by
  rw [call_eq (n + 2) (fd := ⟨2, 5, b10⟩) rfl rfl]
  have h := d_while n T hl turns 0 (l.length + 1) [] .no (fun d z => by cases z) (Nat.zero_le _) (by have : turns = 100000 := rfl; omega) (by omega) (by simp)
  have e1 : exSs gl (callF pr (n + 2)) rfu b10 [.sh (.str t), .sh (.str l), .no, .no, .no] = (whileGo (fun env' => (ev gl (callF pr (n + 2)) (.cmp .lt (.var 3) (.bi1 .len (.var 1))) (open_ env')).bind asBool) (dB (callF pr (n + 2))) turns (eD t l [] 0 .no)).thn (exSs gl (callF pr (n + 2)) rfu [.ret (.var 2)]) := rfl
  show ended (exSs gl (callF pr (n + 2)) rfu b10 [.sh (.str t), .sh (.str l), .no, .no, .no]) = _
  rw [e1]
  rw [List.drop_zero] at h
  cases hws : wordsL bg en tick (l.length + 1) l with
  | none =>
    rw [hws] at h
    simp only at h
    rw [h]; rfl
  | some ws =>
    rw [hws] at h
    obtain ⟨b, s5, h⟩ := h
    rw [h]
    simp [eD, ended, toldR]
end K32
end Ev

/-! law_k32_words: the program's words. -/
namespace Ev
namespace K32
abbrev eW (t l : List Nat) (acc : List D) (a : Nat) (s4 s5 : Sl) : Env := [.sh (.str t), .sh (.str l), .ow (.lst acc), .sh (.int a), s4, s5]
abbrev wB (fn : Nat → List D → R D) : Env → Out := fun env' => exSs gl fn rfu [(.asg (.many [(.one 4), (.one 5), (.one 3)]) (.call 4 [(.var 0), (.var 1), (.var 3)]) false [0, 1, 3]),
    (.app 2 (.tup [(.var 4), (.var 5)]) [4, 5]),
    (.asg (.one 3) (.call 2 [(.var 1), (.var 3), (.lit (.str [32]))]) false [1, 3])] env'
theorem w_while (n : Nat) {t l : List Nat} {bg en : Nat} {tick : Bool} (T : Tg t bg en tick) (hl : l.length ≤ 500) : ∀ (fuel a w : Nat) (acc : List D) (s4 s5 : Sl), (∀ d, s4 ≠ .ow d) → (∀ d, s5 ≠ .ow d) → a ≤ l.length → (∀ c r, l.drop a = c :: r → c ≠ 32) → l.length - a < fuel → l.length - a < w → acc.length ≤ a →
    match wordsL bg en tick w (l.drop a) with
    | some ws => ∃ b s6 s7, whileGo (fun env' => (ev gl (callF pr (n + 2)) (.cmp .lt (.var 3) (.bi1 .len (.var 1))) (open_ env')).bind asBool) (wB (callF pr (n + 2))) fuel (eW t l acc a s4 s5) = .nx (eW t l (acc ++ ws) b s6 s7)
    | none => whileGo (fun env' => (ev gl (callF pr (n + 2)) (.cmp .lt (.var 3) (.bi1 .len (.var 1))) (open_ env')).bind asBool) (wB (callF pr (n + 2))) fuel (eW t l acc a s4 s5) = .ex 6
  | 0, a, w, acc, s4, s5, _, _, _, _, h, _, _ => by omega
  | fuel + 1, a, 0, acc, s4, s5, _, _, _, _, _, h, _ => by omega
  | fuel + 1, a, w + 1, acc, s4, s5, h4, h5, ha, hnb, hf, hw, hacc => by
    have hl' : l.length ≤ 1000 := by omega
    have hopen : open_ (eW t l acc a s4 s5) = [.sh (.str t), .sh (.str l), .sh (.lst acc), .sh (.int a), s4, s5] := by
      cases s4 with
      | ow d => exact absurd rfl (h4 d)
      | _ =>
        cases s5 with
        | ow d => exact absurd rfl (h5 d)
        | _ => rfl
    by_cases hlt : a < l.length
    · have hd : l.drop a = l[a] :: l.drop (a + 1) := List.drop_eq_getElem_cons hlt
      generalize l[a] = c at hd
      have h32 : c ≠ 32 := hnb c _ hd
      have ht : (ev gl (callF pr (n + 2)) (.cmp .lt (.var 3) (.bi1 .len (.var 1))) (open_ (eW t l acc a s4 s5))).bind asBool = .ok true := by
        rw [hopen]
        simp [dLen_str hl', hlt]
      have hgo : ∀ o, wB (callF pr (n + 2)) (eW t l acc a s4 s5) = o → whileGo (fun env' => (ev gl (callF pr (n + 2)) (.cmp .lt (.var 3) (.bi1 .len (.var 1))) (open_ env')).bind asBool) (wB (callF pr (n + 2))) (fuel + 1) (eW t l acc a s4 s5) = o.thn (whileGo (fun env' => (ev gl (callF pr (n + 2)) (.cmp .lt (.var 3) (.bi1 .len (.var 1))) (open_ env')).bind asBool) (wB (callF pr (n + 2))) fuel) := fun o ho => by
        conv => lhs; unfold whileGo
        rw [ht]
        simp only [R.out_ok, if_true, ho]
        cases o <;> rfl
      have hn := word_at n T hl hlt
      rw [hd] at hn
      have e1 : wordsL bg en tick (w + 1) (c :: l.drop (a + 1)) = match wordL bg en tick (c :: l.drop (a + 1)) with
        | none => none
        | some (k, x, m) => (wordsL bg en tick w ((c :: l.drop (a + 1)).drop m)).map (D.tup [.str k, x] :: ·) := by
        conv => lhs; unfold wordsL
        exact (if_neg h32).trans rfl
      rw [hd, e1]
      cases hq : wordL bg en tick (c :: l.drop (a + 1)) with
      | none =>
        rw [hq] at hn
        have hb : wB (callF pr (n + 2)) (eW t l acc a s4 s5) = .ex 6 := by
          have h2 : exS gl (callF pr (n + 2)) rfu (.asg (.many [(.one 4), (.one 5), (.one 3)]) (.call 4 [(.var 0), (.var 1), (.var 3)]) false [0, 1, 3]) (eW t l acc a s4 s5) = .ex 6 := by
            cases s4 with
            | ow d => exact absurd rfl (h4 d)
            | _ =>
              cases s5 with
              | ow d => exact absurd rfl (h5 d)
              | _ => simp [eW, hn, wordR]
          show exSs gl (callF pr (n + 2)) rfu (_ :: _) _ = _
          rw [exSs_cons, h2, thn_ex]
        simp only
        rw [hgo _ hb, thn_ex]
      | some q =>
        obtain ⟨k, x, m⟩ := q
        rw [hq] at hn
        obtain ⟨m1, m2, m3⟩ := wordL_le hq
        rw [← hd, List.length_drop] at m2
        have hr := run_to (n + 1) (sg := [32]) (l := l) (s := a + m) hl' (by omega)
        have hj := runL_le [32] (l.drop (a + m))
        rw [List.length_drop] at hj
        have hb : wB (callF pr (n + 2)) (eW t l acc a s4 s5) = .nx (eW t l (acc ++ [.tup [.str k, x]]) (a + m + runL [32] (l.drop (a + m))) (.sh (.str k)) (.sh x)) := by
          have h2 : exS gl (callF pr (n + 2)) rfu (.asg (.many [(.one 4), (.one 5), (.one 3)]) (.call 4 [(.var 0), (.var 1), (.var 3)]) false [0, 1, 3]) (eW t l acc a s4 s5) = .nx (eW t l acc (a + m) (.sh (.str k)) (.sh x)) := by
            cases s4 with
            | ow d => exact absurd rfl (h4 d)
            | _ =>
              cases s5 with
              | ow d => exact absurd rfl (h5 d)
              | _ => simp [eW, hn, wordR, flat]
          have h3 : exS gl (callF pr (n + 2)) rfu (.app 2 (.tup [(.var 4), (.var 5)]) [4, 5]) (eW t l acc (a + m) (.sh (.str k)) (.sh x)) = .nx (eW t l (acc ++ [.tup [.str k, x]]) (a + m) (.sh (.str k)) (.sh x)) := by
            rw [exS_app]
            have hz : acc.length < lim := Nat.lt_of_le_of_lt (Nat.le_trans hacc (Nat.le_trans ha hl)) (by decide)
            simp [eW, ownAt, flat, hz, fit_ok]
          have h6 : exS gl (callF pr (n + 2)) rfu (.asg (.one 3) (.call 2 [(.var 1), (.var 3), (.lit (.str [32]))]) false [1, 3]) (eW t l (acc ++ [.tup [.str k, x]]) (a + m) (.sh (.str k)) (.sh x)) = .nx (eW t l (acc ++ [.tup [.str k, x]]) (a + m + runL [32] (l.drop (a + m))) (.sh (.str k)) (.sh x)) := by
            generalize hz : a + m = z at hr ⊢
            simp [eW, hr, flat]
          show exSs gl (callF pr (n + 2)) rfu (_ :: _) _ = _
          simp only [exSs_cons, h2, thn_nx, h3, h6, exSs_nil]
        have ih := w_while n T hl fuel (a + m + runL [32] (l.drop (a + m))) (w - runL [32] (l.drop (a + m))) (acc ++ [.tup [.str k, x]]) (.sh (.str k)) (.sh x) (fun d z => by cases z) (fun d z => by cases z) (by omega)
          (fun c' r' hc' => by
            rw [← List.drop_drop] at hc'
            have := run_stop [32] _ c' r' hc'
            simpa using this) (by omega) (by omega) (by rw [List.length_append, List.length_singleton]; omega)
        rw [hgo _ hb, thn_nx]
        have e2 : (c :: l.drop (a + 1)).drop m = l.drop (a + m) := by rw [← hd, List.drop_drop]
        have e3 := words_skip bg en tick (l.drop (a + m)) w (by rw [List.length_drop]; omega)
        rw [List.drop_drop] at e3
        simp only [e2]
        rw [e3]
        cases hws : wordsL bg en tick (w - runL [32] (l.drop (a + m))) (l.drop (a + m + runL [32] (l.drop (a + m)))) with
        | none => rw [hws] at ih; exact ih
        | some ws =>
          rw [hws] at ih
          obtain ⟨b, s6, s7, ih⟩ := ih
          refine ⟨b, s6, s7, ?_⟩
          rw [ih, List.append_assoc]; rfl
    · have ht : (ev gl (callF pr (n + 2)) (.cmp .lt (.var 3) (.bi1 .len (.var 1))) (open_ (eW t l acc a s4 s5))).bind asBool = .ok false := by
        rw [hopen]
        simp [dLen_str hl', hlt]
      have e1 : wordsL bg en tick (w + 1) (l.drop a) = some [] := by
        rw [List.drop_eq_nil_of_le (by omega)]; rfl
      rw [e1]
      refine ⟨a, s4, s5, ?_⟩
      conv => lhs; unfold whileGo
      rw [ht, List.append_nil]; rfl
theorem need_tongue (n : Nat) {t : List Nat} (h : t ∈ tgs) : callF pr (n + 1) 0 [.str t] = .ok .non := by
  rw [call_eq n (fd := ⟨1, 1, b0⟩) rfl rfl]
  have e2 := isIn_tupS t tgs
  rw [decide_eq_true h] at e2
  show ended (exSs gl (callF pr n) rfu b0 [.sh (.str t)]) = _
  unfold b0
  simp only [exSs_cons, exS_ite, open_sh, open_nil, ev_or, ev_not, ev_isi, ev_var, look_zero, val_sh, R.bind_ok, isTyR, isTy, asBool_bl, Bool.not_true, Bool.false_eq_true, if_false, ev_cmp, ev_glo, gl_0, cop_notin, e2, R.out_ok, exSs_nil, thn_nx]
  rfl
theorem words_in (n : Nat) {t l : List Nat} {bg en : Nat} {tick : Bool} (T : Tg t bg en tick) (hl : l.length ≤ 500) : callF pr (n + 3) 3 [.str t, .str l] = match wordsL bg en tick (l.length + 1) l with
    | some ws => .ok (.lst ws)
    | none => .ex 6 := by
  rw [call_eq (n + 2) (fd := ⟨2, 6, b3⟩) rfl rfl]
  have hl' : l.length ≤ 1000 := by omega
  have hn := need_tongue (n + 1) T.ok
  have hr := run_to (n + 1) (sg := [32]) (l := l) (s := 0) hl' (Nat.zero_le _)
  rw [List.drop_zero, Nat.zero_add] at hr
  have hr' : callF pr (n + 2) 2 [.str l, .int 0, .str [32]] = .ok (.int ((runL [32] l : Nat) : Int)) := hr
  have hj := runL_le [32] l
  have h := w_while n T hl turns (runL [32] l) (l.length + 1 - runL [32] l) [] .no .no (fun d z => by cases z) (fun d z => by cases z) hj
    (fun c' r' hc' => by
      have := run_stop [32] _ c' r' hc'
      simpa using this) (by have : turns = 100000 := rfl; omega) (by omega) (by simp)
  have e3 := words_skip bg en tick l (l.length + 1) (by omega)
  rw [← e3] at h
  show ended (exSs gl (callF pr (n + 2)) rfu b3 [.sh (.str t), .sh (.str l), .no, .no, .no, .no]) = _
  have e1 : exSs gl (callF pr (n + 2)) rfu b3 [.sh (.str t), .sh (.str l), .no, .no, .no, .no] = (whileGo (fun env' => (ev gl (callF pr (n + 2)) (.cmp .lt (.var 3) (.bi1 .len (.var 1))) (open_ env')).bind asBool) (wB (callF pr (n + 2))) turns (eW t l [] (runL [32] l) .no .no)).thn (exSs gl (callF pr (n + 2)) rfu [.ret (.var 2)]) := by
    unfold b3
    have s1 : exS gl (callF pr (n + 2)) rfu (.exp (.call 0 [(.var 0)])) [.sh (.str t), .sh (.str l), .no, .no, .no, .no] = .nx [.sh (.str t), .sh (.str l), .no, .no, .no, .no] := by
      simp [hn]
    have s2 : exS gl (callF pr (n + 2)) rfu (.ite (.not_ (.isi (.var 1) .str)) [(.raise 6 (.lit .non))] []) [.sh (.str t), .sh (.str l), .no, .no, .no, .no] = .nx [.sh (.str t), .sh (.str l), .no, .no, .no, .no] := rfl
    have s3 : exS gl (callF pr (n + 2)) rfu (.asg (.one 2) (.lst []) true []) [.sh (.str t), .sh (.str l), .no, .no, .no, .no] = .nx [.sh (.str t), .sh (.str l), .ow (.lst []), .no, .no, .no] := rfl
    have s4 : exS gl (callF pr (n + 2)) rfu (.asg (.one 3) (.call 2 [(.var 1), (.lit (.int (0))), (.lit (.str [32]))]) false [1]) [.sh (.str t), .sh (.str l), .ow (.lst []), .no, .no, .no] = .nx (eW t l [] (runL [32] l) .no .no) := by
      simp [eW, hr', flat]
    rw [exSs_cons, s1, thn_nx, exSs_cons, s2, thn_nx, exSs_cons, s3, thn_nx, exSs_cons, s4, thn_nx]
    rfl
  rw [e1]
  cases hws : wordsL bg en tick (l.length + 1) l with
  | none =>
    rw [hws] at h
    simp only at h
    rw [h]; rfl
  | some ws =>
    rw [hws] at h
    obtain ⟨b, s6, s7, h⟩ := h
    rw [h]
    simp [eW, ended]
theorem exS_try {fn : Nat → List D → R D} {env : Env} (e : E) (i : Nat) : exS gl fn rfu (.tryR e i) env = match ev gl fn e (open_ env) with
    | .ok d => .rt d
    | .ex c => (rfu c).out .rt
    | .no => .no := rfl
theorem law_told (n : Nat) {t l : List Nat} {bg en : Nat} {tick : Bool} (T : Tg t bg en tick) (hl : l.length ≤ 500) : callF pr (n + 4) 7 [.str t, .str l] = toldR (wordsL bg en tick (l.length + 1) l) := by
  rw [call_eq (n + 3) (fd := ⟨2, 3, b7⟩) rfl rfl]
  have hw := words_in n T hl
  show ended (exSs gl (callF pr (n + 3)) rfu b7 [.sh (.str t), .sh (.str l), .no]) = _
  unfold b7
  rw [exSs_cons, exS_try]
  simp only [open_sh, open_no, open_nil, ev_call, evs_cons, ev_var, look_zero, look_succ, val_sh, R.bind_ok, evs_nil, hw]
  cases wordsL bg en tick (l.length + 1) l with
  | none => rfl
  | some ws => rfl
end K32
end Ev

/-! law_k32_words: what is told is what is due; what is drawn. -/
namespace Ev
mutual
theorem deq_refl : ∀ (n : Nat) (d : D), okd n d = true → deq d d = true
  | _, .non, _ => rfl
  | _, .bl b, _ => by show (b == b) = true; simp
  | _, .int i, _ => by show (i == i) = true; simp
  | _, .str l, _ => by show (l == l) = true; simp
  | n + 1, .tup xs, h => deqs_refl n xs h
  | n + 1, .lst xs, h => deqs_refl n xs h
  | 0, .tup _, h => by cases h
  | 0, .lst _, h => by cases h
  | 0, .dic _ _, h => by cases h
  | _ + 1, .dic _ _, h => by cases h
  | 0, .scr _, h => by cases h
  | _ + 1, .scr _, h => by cases h
  | 0, .gdc _ _, h => by cases h
  | _ + 1, .gdc _ _, h => by cases h
  | 0, .adr _, h => by cases h
  | _ + 1, .adr _, h => by cases h
theorem deqs_refl : ∀ (n : Nat) (ds : List D), okds n ds = true → deqs ds ds = true
  | _, [], _ => rfl
  | n, d :: ds, h => by
    have h' : okd n d = true ∧ okds n ds = true := by simpa [okds] using h
    show (deq d d && deqs ds ds) = true
    rw [deq_refl n d h'.1, deqs_refl n ds h'.2]; rfl
end
theorem okd0 {w : D} (n : Nat) (h : okd 0 w = true) : okd n w = true := by
  cases w <;> cases n <;> first | rfl | cases h
theorem deqR_self {d : D} (h : okd deep d = true) : deqR d d = .ok true := by
  have key : (if okd deep d && okd deep d then R.ok (deq d d) else R.no) = .ok true := by
    rw [h, deq_refl deep d h]; rfl
  cases d with
  | scr ns => exact absurd (show false = true from h) (by decide)
  | _ => exact key
namespace K32
theorem words_ok {bg en : Nat} {tick : Bool} : ∀ (n : Nat) (l : List Nat) (ws : List D), wordsL bg en tick n l = some ws → okds 59 ws = true
  | 0, _, _, h => by cases h
  | n + 1, [], ws, h => by cases h; rfl
  | n + 1, c :: r, ws, h => by
    unfold wordsL at h
    split at h
    · exact words_ok n r ws h
    · split at h
      · cases h
      · rename_i k w m hq
        obtain ⟨vs, hv, rfl⟩ := Option.map_eq_some_iff.mp h
        have ih := words_ok n _ vs hv
        obtain ⟨_, _, m3⟩ := wordL_le hq
        show (okd 59 (.tup [.str k, w]) && okds 59 vs) = true
        rw [ih]
        show ((okd 58 (.str k) && (okd 58 w && true)) && true) = true
        rw [okd0 58 m3]; rfl
theorem told_ok {bg en : Nat} {tick : Bool} (n : Nat) (l : List Nat) : ∃ d, toldR (wordsL bg en tick n l) = .ok d ∧ okd deep d = true := by
  cases h : wordsL bg en tick n l with
  | none => exact ⟨_, rfl, rfl⟩
  | some ws => exact ⟨_, rfl, words_ok n l ws h⟩
/-! ### what is drawn -/
theorem bop_mod {a b : Int} (h : 0 < b) : bop .mod (.int a) (.int b) = .ok (.int (a % b)) := by
  show (if 0 < b then R.ok (D.int (a % b)) else .no) = _
  rw [if_pos h]
theorem bop_fdiv {a b : Int} (h : 0 < b) (h2 : b < 1073741824) : bop .fdiv (.int a) (.int b) = .ok (.int (a / b)) := by
  show (if (0 < b && b < 1073741824 : Bool) then R.ok (D.int (a / b)) else .no) = _
  rw [if_pos (by simp [h, h2])]
theorem bop_mulL {a b : Int} (h : a.natAbs < 18446744073709551616) : bop .mul (.int a) (.int b) = .ok (.int (a * b)) := by
  show (if (a.natAbs < 18446744073709551616 || b.natAbs < 18446744073709551616 : Bool) then R.ok (D.int (a * b)) else .no) = _
  rw [if_pos (by simp [h])]
theorem bop_mulR {a b : Int} (h : b.natAbs < 18446744073709551616) : bop .mul (.int a) (.int b) = .ok (.int (a * b)) := by
  show (if (a.natAbs < 18446744073709551616 || b.natAbs < 18446744073709551616 : Bool) then R.ok (D.int (a * b)) else .no) = _
  rw [if_pos (by simp [h])]
theorem law_cell (n : Nat) (ns : List Int) (k : Nat) (hn : ns.length ≤ 63) : ∃ v, callF pr (n + 1) 5 [.scr ns, .int k] = .ok (.int v) := by
  rw [call_eq n (fd := ⟨2, 2, b5⟩) rfl rfl]
  show ∃ v, ended (exSs gl (callF pr n) rfu b5 [.sh (.scr ns), .sh (.int k)]) = .ok (.int v)
  unfold b5
  have hf : fit 0 (D.lst []) = .ok (.lst []) := rfl
  have hd : deqR (.scr ns) (.lst []) = .ok ns.isEmpty := rfl
  cases ns with
  | nil =>
    refine ⟨7 * k, ?_⟩
    simp [hf, hd, bop_mulL, ended]
  | cons x xs =>
    have hlen : dLen (.scr (x :: xs)) = .ok (.int ((x :: xs).length : Nat)) := rfl
    have hp : (0 : Int) < ((x :: xs).length : Nat) := by rw [List.length_cons]; omega
    have hs : (((x :: xs).length : Nat) : Int) < 1073741824 := by omega
    have hm0 : 0 ≤ (k : Int) % ((x :: xs).length : Nat) := Int.emod_nonneg _ (by omega)
    have hm1 : (k : Int) % ((x :: xs).length : Nat) < ((x :: xs).length : Nat) := Int.emod_lt_of_pos _ hp
    have hpl : place (x :: xs).length ((k : Int) % ((x :: xs).length : Nat)) = some ((k : Int) % ((x :: xs).length : Nat)).toNat := by
      unfold place
      rw [if_pos hm0, if_pos hm1]
    have hlt : ((k : Int) % ((x :: xs).length : Nat)).toNat < (x :: xs).length := by omega
    have hi : idx (.scr (x :: xs)) (.int ((k : Int) % ((x :: xs).length : Nat))) = .ok (.int ((x :: xs)[((k : Int) % ((x :: xs).length : Nat)).toNat]'hlt)) := by
      show (match (place (x :: xs).length ((k : Int) % ((x :: xs).length : Nat))).bind ((x :: xs)[·]?) with
        | some n => R.ok (D.int n)
        | none => .no) = _
      rw [hpl, Option.bind_some, List.getElem?_eq_getElem hlt]
    obtain ⟨y, hi⟩ : ∃ y, idx (.scr (x :: xs)) (.int ((k : Int) % ((x :: xs).length : Nat))) = .ok (.int y) := ⟨_, hi⟩
    refine ⟨y + 6553 * ((k : Int) / ((x :: xs).length : Nat)), ?_⟩
    generalize hL : (((x :: xs).length : Nat) : Int) = L at hp hs hi hlen
    have e1 : exS gl (callF pr n) rfu (.ite (.cmp .eq (.var 0) (.lst [])) [(.ret (.bin .mul (.lit (.int (7))) (.var 1)))] []) [.sh (.scr (x :: xs)), .sh (.int k)] = .nx [.sh (.scr (x :: xs)), .sh (.int k)] := by
      simp [hf, hd]
    rw [exSs_cons, e1, thn_nx]
    simp only [exSs_cons, exS_ret, open_sh, open_nil, ev_bin, ev_idx, ev_var, look_zero, look_succ, val_sh, R.bind_ok, ev_bi1, bi1_len, hlen, bop_mod hp, hi, ev_lit, bop_fdiv hp hs, bop_mulL (show (6553 : Int).natAbs < 18446744073709551616 by decide), bop_add, R.out_ok, thn_rt, ended]
theorem law_drawn (n : Nat) (ns : List Int) (k : Nat) (m : Int) (hn : ns.length ≤ 63) (hm : 0 < m) : ∃ v : Nat, callF pr (n + 2) 6 [.scr ns, .int k, .int m] = .ok (.int v) ∧ (v : Int) < m := by
  rw [call_eq (n + 1) (fd := ⟨3, 4, b6⟩) rfl rfl]
  obtain ⟨x, hx⟩ := law_cell n ns k hn
  show ∃ v : Nat, ended (exSs gl (callF pr (n + 1)) rfu b6 [.sh (.scr ns), .sh (.int k), .sh (.int m), .no]) = .ok (.int v) ∧ _
  have big : ∀ (y b : Int), 0 < b → b ≤ 2147483648 → (y % b).natAbs < 18446744073709551616 := fun y b h1 h2 => by
    have a1 := Int.emod_nonneg y (show b ≠ 0 by omega)
    have a2 := Int.emod_lt_of_pos y h1
    omega
  have e1 : ∀ (s : Sl), (∀ d, s ≠ .ow d) → ∃ c : Int, c.natAbs < 18446744073709551616 ∧ exS gl (callF pr (n + 1)) rfu (.asg (.one 3) (.bin .mod (.bin .add (.bin .mul (.bin .mod (.call 5 [(.var 0), (.var 1)]) (.lit (.int (2147483563)))) (.lit (.int (69069)))) (.bin .mul (.lit (.int (104723))) (.bin .add (.var 1) (.lit (.int (1)))))) (.lit (.int (2147483563)))) false [0, 1, 1]) [.sh (.scr ns), .sh (.int k), .sh (.int m), .no] = .nx [.sh (.scr ns), .sh (.int k), .sh (.int m), .sh (.int c)] := fun s hs => by
    refine ⟨(x % 2147483563 * 69069 + 104723 * ((k : Int) + 1)) % 2147483563, big _ _ (by decide) (by decide), ?_⟩
    simp only [exS_asg, mask_K, maskK_sh, maskK_no, maskK_nil, ev_bin, ev_call, evs_cons, ev_var, look_zero, look_succ, val_sh, R.bind_ok, evs_nil, hx, ev_lit, bop_mod (show (0 : Int) < 2147483563 by decide), bop_mulR (show (69069 : Int).natAbs < 18446744073709551616 by decide), bop_add, bop_mulL (show (104723 : Int).natAbs < 18446744073709551616 by decide), R.out_ok]
    simp [flat]
  obtain ⟨c, hc, e1⟩ := e1 .no (fun d z => by cases z)
  have e2 : ∃ c2 : Int, c2.natAbs < 18446744073709551616 ∧ exS gl (callF pr (n + 1)) rfu (.asg (.one 3) (.bin .mod (.bin .add (.bin .mul (.var 3) (.var 3)) (.bin .fdiv (.var 3) (.lit (.int (3))))) (.lit (.int (2147483399)))) false [3, 3, 3]) [.sh (.scr ns), .sh (.int k), .sh (.int m), .sh (.int c)] = .nx [.sh (.scr ns), .sh (.int k), .sh (.int m), .sh (.int c2)] := by
    refine ⟨(c * c + c / 3) % 2147483399, big _ _ (by decide) (by decide), ?_⟩
    simp only [exS_asg, mask_K, maskK_sh, maskK_no, maskK_nil, ev_bin, ev_var, look_zero, look_succ, val_sh, R.bind_ok, ev_lit, bop_mod (show (0 : Int) < 2147483399 by decide), bop_mulL hc, bop_add, bop_fdiv (show (0 : Int) < 3 by decide) (show (3 : Int) < 1073741824 by decide), R.out_ok]
    simp [flat]
  obtain ⟨c2, hc2, e2⟩ := e2
  have r0 : 0 ≤ (c2 * c2 + c2 / 7) % 2147483647 / 11 % m := Int.emod_nonneg _ (by omega)
  have r1 := Int.emod_lt_of_pos ((c2 * c2 + c2 / 7) % 2147483647 / 11) hm
  refine ⟨((c2 * c2 + c2 / 7) % 2147483647 / 11 % m).toNat, ?_, by omega⟩
  unfold b6
  rw [exSs_cons, e1, thn_nx, exSs_cons, e2, thn_nx]
  simp only [exSs_cons, exS_ret, open_sh, open_nil, ev_bin, ev_var, look_zero, look_succ, val_sh, R.bind_ok, ev_lit, bop_mod (show (0 : Int) < 2147483647 by decide), bop_mulL hc2, bop_add, bop_fdiv (show (0 : Int) < 7 by decide) (show (7 : Int) < 1073741824 by decide), bop_fdiv (show (0 : Int) < 11 by decide) (show (11 : Int) < 1073741824 by decide), bop_mod hm, R.out_ok, thn_rt, ended]
  rw [Int.toNat_of_nonneg r0]
end K32
end Ev

/-! law_k32_words: the law. -/
namespace Ev
namespace K32
theorem exS_for {fn : Nat → List D → R D} {env : Env} (t : T) (k : Ik) (args : List E) (uses : List Nat) (body : List S) : exS gl fn rfu (.for_ t k args uses body) env = (evs gl fn args (mask uses env)).out fun ds => (walk k ds).out fun xs =>
      forGo (fun x env' => bind t x env') (fun env' => exSs gl fn rfu body env') xs (demote uses env) := rfl
theorem forGo_cons (bnd : D → Env → R Env) (body : Env → Out) (x : D) (xs : List D) (env env' : Env) (h : bnd x env = .ok env') : forGo bnd body (x :: xs) env = (body env').thn (forGo bnd body xs) := by
  show R.out (bnd x env) _ = _
  rw [h]; rfl
abbrev eL (ns : List Int) (s1 s2 s3 s4 s5 s6 s7 s8 : Sl) : Env := [.sh (.scr ns), s1, s2, s3, s4, s5, s6, s7, s8]
def parts : List (List Nat) := [[39], [39, 39], [92, 39], [92, 92], [34], [34, 34], [91], [93], [93, 93], [96], [96, 96], [32], [97, 115, 107], [97, 115], [105, 110], [102, 105, 114, 115, 116], [97], [97, 115, 107, 105, 110], [49, 50], [45], [45, 55],
  [48], [48, 48, 55], [40], [41], [44], [46], [61], [60], [43], [38], [63], [39, 97, 39], [34, 98, 34], [91, 99, 93], [96, 100, 96], [120], [10], [117, 112, 32, 100, 111, 119, 110], [49, 97, 115, 107], [45, 45, 49]]
def PS : D := .lst (parts.map D.str)
def known : List (List Nat) := [[], [32, 32], [39, 97, 39, 39, 98, 39], [39, 97, 39, 32, 39, 98, 39], [39, 92, 39], [39, 92, 97, 39], [39, 92, 92, 39], [34, 97, 34, 34, 98, 34], [91, 97, 93, 93, 98, 93], [96, 96], [96, 97, 96, 96, 98, 96], [49, 32, 50], [49, 45, 50], [97, 115, 107, 49], [97, 115, 102, 114, 111, 109]]
def KN : D := .lst (known.map D.str)
theorem parts_len : ∀ p ∈ parts, p.length ≤ 8 := by decide
theorem idx_parts {v : Nat} (h : v < 41) : ∃ p : List Nat, p.length ≤ 8 ∧ idx PS (.int v) = .ok (.str p) := by
  have hl : parts.length = 41 := rfl
  have hv : v < parts.length := by omega
  refine ⟨parts[v], parts_len _ (List.getElem_mem hv), ?_⟩
  have hp : place (parts.map D.str).length (v : Int) = some v := by
    unfold place
    rw [if_pos (by omega), if_pos (by rw [List.length_map]; omega)]; simp
  show (match (place (parts.map D.str).length (v : Int)).bind ((parts.map D.str)[·]?) with
    | some d => R.ok d
    | none => .no) = _
  rw [hp, Option.bind_some, List.getElem?_map, List.getElem?_eq_getElem hv]; rfl
theorem len_parts : dLen PS = .ok (.int 41) := rfl
abbrev inB1 (fn : Nat → List D → R D) : Env → Out := fun env' => exSs gl fn rfu [(.asg (.one 6) (.bin .add (.var 6) (.idx (.var 1) (.call 6 [(.var 0), (.bin .add (.bin .add (.bin .mul (.lit (.int (20))) (.var 3)) (.lit (.int (1)))) (.var 7)), (.bi1 .len (.var 1))]))) false [6, 1, 0, 3, 7, 1])] env'
theorem in_go (n : Nat) (ns : List Int) (hn : ns.length ≤ 63) (acc : List D) (j : Nat) : ∀ (ks : List Nat) (l : List Nat) (s7 : Sl), (∀ d, s7 ≠ .ow d) → l.length + 8 * ks.length ≤ 400 →
    ∃ l' s7', l'.length ≤ l.length + 8 * ks.length ∧ (∀ d, s7' ≠ .ow d) ∧ forGo (fun x env' => bind (.one 7) x env') (inB1 (callF pr (n + 4))) (ks.map fun (k : Nat) => D.int k) (eL ns (.sh PS) (.ow (.lst acc)) (.sh (.int j)) .no .no (.sh (.str l)) s7 .no) = .nx (eL ns (.sh PS) (.ow (.lst acc)) (.sh (.int j)) .no .no (.sh (.str l')) s7' .no)
  | [], l, s7, h7, _ => ⟨l, s7, by simp, h7, rfl⟩
  | k :: ks, l, s7, h7, hl => by
    rw [List.length_cons] at hl
    obtain ⟨v, hv, hv2⟩ := law_drawn (n + 2) ns (20 * j + 1 + k) 41 hn (by decide)
    obtain ⟨p, hp, hi⟩ := idx_parts (v := v) (by omega)
    have hadd : bop .add (.str l) (.str p) = .ok (.str (l ++ p)) := add_str (by omega)
    have hv' : callF pr (n + 4) 6 [.scr ns, .int (20 * (j : Int) + 1 + (k : Int)), .int 41] = .ok (.int v) := hv
    have hm : bop .mul (.int 20) (.int j) = .ok (.int (20 * (j : Int))) := bop_mulL (by decide)
    have hb : inB1 (callF pr (n + 4)) (eL ns (.sh PS) (.ow (.lst acc)) (.sh (.int j)) .no .no (.sh (.str l)) (.sh (.int k)) .no) = .nx (eL ns (.sh PS) (.ow (.lst acc)) (.sh (.int j)) .no .no (.sh (.str (l ++ p))) (.sh (.int k)) .no) := by
      simp [inB1, eL, len_parts, hm, hv', hi, hadd, flat]
    obtain ⟨l', s7', i1, i2, i3⟩ := in_go n ns hn acc j ks (l ++ p) (.sh (.int k)) (fun d z => by cases z) (by rw [List.length_append]; omega)
    refine ⟨l', s7', by rw [List.length_append] at i1; rw [List.length_cons]; omega, i2, ?_⟩
    rw [List.map_cons, forGo_cons _ _ _ _ _ (eL ns (.sh PS) (.ow (.lst acc)) (.sh (.int j)) .no .no (.sh (.str l)) (.sh (.int k)) .no) rfl, hb, thn_nx]
    exact i3
/-- texts of no great length -/
def Tx (xs : List D) : Prop := ∀ x ∈ xs, ∃ l : List Nat, x = .str l ∧ l.length ≤ 500
abbrev outB (fn : Nat → List D → R D) : Env → Out := fun env' => exSs gl fn rfu [(.asg (.one 6) (.lit (.str [])) false []),
    (.for_ (.one 7) .range [(.bin .add (.lit (.int (1))) (.call 6 [(.var 0), (.bin .mul (.lit (.int (20))) (.var 3)), (.lit (.int (6)))]))] [0, 3] [(.asg (.one 6) (.bin .add (.var 6) (.idx (.var 1) (.call 6 [(.var 0), (.bin .add (.bin .add (.bin .mul (.lit (.int (20))) (.var 3)) (.lit (.int (1)))) (.var 7)), (.bi1 .len (.var 1))]))) false [6, 1, 0, 3, 7, 1])]),
    (.app 2 (.var 6) [6])] env'
theorem out_go (n : Nat) (ns : List Int) (hn : ns.length ≤ 63) : ∀ (js : List Nat) (acc : List D) (s3 s6 s7 : Sl), (∀ d, s3 ≠ .ow d) → (∀ d, s6 ≠ .ow d) → (∀ d, s7 ≠ .ow d) → Tx acc → acc.length + js.length ≤ 100 →
    ∃ acc' s3' s6' s7', Tx acc' ∧ acc'.length ≤ 100 ∧ (∀ d, s3' ≠ .ow d) ∧ (∀ d, s6' ≠ .ow d) ∧ (∀ d, s7' ≠ .ow d) ∧ forGo (fun x env' => bind (.one 3) x env') (outB (callF pr (n + 4))) (js.map fun (k : Nat) => D.int k) (eL ns (.sh PS) (.ow (.lst acc)) s3 .no .no s6 s7 .no) = .nx (eL ns (.sh PS) (.ow (.lst acc')) s3' .no .no s6' s7' .no)
  | [], acc, s3, s6, s7, h3, h6, h7, hT, hl => ⟨acc, s3, s6, s7, hT, by simpa using hl, h3, h6, h7, rfl⟩
  | j :: js, acc, s3, s6, s7, h3, h6, h7, hT, hl => by
    rw [List.length_cons] at hl
    obtain ⟨v, hv, hv2⟩ := law_drawn (n + 2) ns (20 * j) 6 hn (by decide)
    have hv' : callF pr (n + 4) 6 [.scr ns, .int (20 * (j : Int)), .int 6] = .ok (.int v) := hv
    have hm : bop .mul (.int 20) (.int j) = .ok (.int (20 * (j : Int))) := bop_mulL (by decide)
    obtain ⟨l', s7', i1, i2, i3⟩ := in_go n ns hn acc j (List.range (1 + v)) [] s7 h7 (by rw [List.length_range, List.length_nil]; omega)
    rw [List.length_range, List.length_nil] at i1
    have b1 : exS gl (callF pr (n + 4)) rfu (.asg (.one 6) (.lit (.str [])) false []) (eL ns (.sh PS) (.ow (.lst acc)) (.sh (.int j)) .no .no s6 s7 .no) = .nx (eL ns (.sh PS) (.ow (.lst acc)) (.sh (.int j)) .no .no (.sh (.str [])) s7 .no) := rfl
    have b2 : exS gl (callF pr (n + 4)) rfu (.for_ (.one 7) .range [(.bin .add (.lit (.int (1))) (.call 6 [(.var 0), (.bin .mul (.lit (.int (20))) (.var 3)), (.lit (.int (6)))]))] [0, 3] [(.asg (.one 6) (.bin .add (.var 6) (.idx (.var 1) (.call 6 [(.var 0), (.bin .add (.bin .add (.bin .mul (.lit (.int (20))) (.var 3)) (.lit (.int (1)))) (.var 7)), (.bi1 .len (.var 1))]))) false [6, 1, 0, 3, 7, 1])]) (eL ns (.sh PS) (.ow (.lst acc)) (.sh (.int j)) .no .no (.sh (.str [])) s7 .no) = .nx (eL ns (.sh PS) (.ow (.lst acc)) (.sh (.int j)) .no .no (.sh (.str l')) s7' .no) := by
      rw [exS_for]
      have a1 : evs gl (callF pr (n + 4)) [(.bin .add (.lit (.int (1))) (.call 6 [(.var 0), (.bin .mul (.lit (.int (20))) (.var 3)), (.lit (.int (6)))]))] (mask [0, 3] (eL ns (.sh PS) (.ow (.lst acc)) (.sh (.int j)) .no .no (.sh (.str [])) s7 .no)) = .ok [.int (1 + (v : Int))] := by
        cases s7 with
        | ow d => exact absurd rfl (h7 d)
        | _ => simp [eL, hm, hv']
      have a2 : walk .range [.int (1 + (v : Int))] = .ok ((List.range (1 + v)).map fun (k : Nat) => D.int k) := by
        show (if (-1000000 ≤ 1 + (v : Int) && 1 + (v : Int) ≤ 1000000 : Bool) then R.ok ((List.range (1 + (v : Int)).toNat).map fun (k : Nat) => D.int k) else .no) = _
        rw [if_pos (by rw [Bool.and_eq_true, decide_eq_true_eq, decide_eq_true_eq]; omega), show (1 + (v : Int)).toNat = 1 + v by omega]
      have a3 : demote [0, 3] (eL ns (.sh PS) (.ow (.lst acc)) (.sh (.int j)) .no .no (.sh (.str [])) s7 .no) = eL ns (.sh PS) (.ow (.lst acc)) (.sh (.int j)) .no .no (.sh (.str [])) s7 .no := by
        cases s7 with
        | ow d => exact absurd rfl (h7 d)
        | _ => simp [eL]
      rw [a1, R.out_ok, a2, R.out_ok, a3]
      exact i3
    have b3 : exS gl (callF pr (n + 4)) rfu (.app 2 (.var 6) [6]) (eL ns (.sh PS) (.ow (.lst acc)) (.sh (.int j)) .no .no (.sh (.str l')) s7' .no) = .nx (eL ns (.sh PS) (.ow (.lst (acc ++ [.str l']))) (.sh (.int j)) .no .no (.sh (.str l')) s7' .no) := by
      rw [exS_app]
      have hz : acc.length < lim := Nat.lt_of_le_of_lt (show acc.length ≤ 100 by omega) (by decide)
      simp [eL, ownAt, flat, hz]
    have hb : outB (callF pr (n + 4)) (eL ns (.sh PS) (.ow (.lst acc)) (.sh (.int j)) .no .no s6 s7 .no) = .nx (eL ns (.sh PS) (.ow (.lst (acc ++ [.str l']))) (.sh (.int j)) .no .no (.sh (.str l')) s7' .no) := by
      show exSs gl (callF pr (n + 4)) rfu (_ :: _) _ = _
      rw [exSs_cons, b1, thn_nx, exSs_cons, b2, thn_nx, exSs_cons, b3, thn_nx, exSs_nil]
    obtain ⟨acc', s3', s6', s7'', k1, k2, k3, k4, k5, k6⟩ := out_go n ns hn js (acc ++ [.str l']) (.sh (.int j)) (.sh (.str l')) s7' (fun d z => by cases z) (fun d z => by cases z) i2
      (fun x hx => by
        rcases List.mem_append.mp hx with h | h
        · exact hT x h
        · exact ⟨l', List.mem_singleton.mp h, by omega⟩) (by rw [List.length_append, List.length_singleton]; omega)
    refine ⟨acc', s3', s6', s7'', k1, k2, k3, k4, k5, ?_⟩
    rw [List.map_cons, forGo_cons _ _ _ _ _ (eL ns (.sh PS) (.ow (.lst acc)) (.sh (.int j)) .no .no s6 s7 .no) rfl, hb, thn_nx]
    exact k6
end K32
end Ev

/-! law_k32_words: the law's end. -/
namespace Ev
namespace K32
theorem plain_eL {ns : List Int} {s1 s2 s3 s4 s5 s6 s7 s8 : Sl} (h1 : ∀ d, s1 ≠ .ow d) (h2 : ∀ d, s2 ≠ .ow d) (h3 : ∀ d, s3 ≠ .ow d) (h4 : ∀ d, s4 ≠ .ow d) (h5 : ∀ d, s5 ≠ .ow d) (h6 : ∀ d, s6 ≠ .ow d) (h7 : ∀ d, s7 ≠ .ow d) (h8 : ∀ d, s8 ≠ .ow d) : plain (eL ns s1 s2 s3 s4 s5 s6 s7 s8) = true := by
  have key : ∀ (s : Sl) (r : Env), (∀ d, s ≠ .ow d) → plain (s :: r) = plain r := fun s r h => by
    cases s with
    | ow d => exact absurd rfl (h d)
    | _ => rfl
  show plain (s1 :: _) = true
  rw [key _ _ h1, key _ _ h2, key _ _ h3, key _ _ h4, key _ _ h5, key _ _ h6, key _ _ h7, key _ _ h8]; rfl
theorem sh_ne {x : D} : ∀ d, Sl.sh x ≠ .ow d := fun d z => by cases z
theorem no_ne : ∀ d, Sl.no ≠ .ow d := fun d z => by cases z
abbrev cB (fn : Nat → List D → R D) : Env → Out := fun env' => exSs gl fn rfu [(.ite (.cmp .ne (.call 7 [(.var 5), (.var 6)]) (.call 10 [(.var 5), (.var 6)])) [(.ret (.lit (.bl false)))] [])] env'
theorem t_go (n : Nat) (ns : List Int) {t : List Nat} {bg en : Nat} {tick : Bool} (T : Tg t bg en tick) {TX : D} {s3 s7 s8 : Sl} (h3 : ∀ d, s3 ≠ .ow d) (h7 : ∀ d, s7 ≠ .ow d) (h8 : ∀ d, s8 ≠ .ow d) : ∀ (xs : List D) (s6 : Sl), (∀ d, s6 ≠ .ow d) → Tx xs →
    ∃ s6', (∀ d, s6' ≠ .ow d) ∧ forGo (fun x env' => bind (.one 6) x env') (cB (callF pr (n + 4))) xs (eL ns (.sh PS) (.sh TX) s3 (.sh KN) (.sh (.str t)) s6 s7 s8) = .nx (eL ns (.sh PS) (.sh TX) s3 (.sh KN) (.sh (.str t)) s6' s7 s8)
  | [], s6, h6, _ => ⟨s6, h6, rfl⟩
  | x :: xs, s6, h6, hT => by
    obtain ⟨l, rfl, hl⟩ := hT x List.mem_cons_self
    obtain ⟨s6', i1, i2⟩ := t_go n ns T (TX := TX) h3 h7 h8 xs (.sh (.str l)) sh_ne fun y hy => hT y (List.mem_cons_of_mem _ hy)
    refine ⟨s6', i1, ?_⟩
    have h1 := law_told n T hl
    have h2 := law_due (n + 1) T hl
    obtain ⟨d, e1, e2⟩ := told_ok (bg := bg) (en := en) (tick := tick) (l.length + 1) l
    rw [e1] at h1 h2
    have h2' : callF pr (n + 4) 10 [.str t, .str l] = .ok d := h2
    have hb : cB (callF pr (n + 4)) (eL ns (.sh PS) (.sh TX) s3 (.sh KN) (.sh (.str t)) (.sh (.str l)) s7 s8) = .nx (eL ns (.sh PS) (.sh TX) s3 (.sh KN) (.sh (.str t)) (.sh (.str l)) s7 s8) := by
      show exSs gl (callF pr (n + 4)) rfu [_] _ = _
      rw [exSs_cons, exS_ite, open_plain (plain_eL sh_ne sh_ne h3 sh_ne sh_ne sh_ne h7 h8)]
      simp [eL, h1, h2', deqR_self e2]
    rw [forGo_cons _ _ _ _ _ (eL ns (.sh PS) (.sh TX) s3 (.sh KN) (.sh (.str t)) (.sh (.str l)) s7 s8) rfl, hb, thn_nx]
    exact i2
theorem told_odd (n : Nat) {t : List Nat} (ht : t ∈ tgs) {d : D} (hd : isTyR .str d = .ok (.bl false)) : callF pr (n + 4) 7 [.str t, d] = .ok (.tup [.str refd, .int 6]) := by
  rw [call_eq (n + 3) (fd := ⟨2, 3, b7⟩) rfl rfl]
  have hn := need_tongue (n + 1) ht
  have hw : callF pr (n + 3) 3 [.str t, d] = .ex 6 := by
    rw [call_eq (n + 2) (fd := ⟨2, 6, b3⟩) rfl rfl]
    show ended (exSs gl (callF pr (n + 2)) rfu b3 [.sh (.str t), .sh d, .no, .no, .no, .no]) = _
    unfold b3
    have s1 : exS gl (callF pr (n + 2)) rfu (.exp (.call 0 [(.var 0)])) [.sh (.str t), .sh d, .no, .no, .no, .no] = .nx [.sh (.str t), .sh d, .no, .no, .no, .no] := by
      simp [hn]
    have s2 : exS gl (callF pr (n + 2)) rfu (.ite (.not_ (.isi (.var 1) .str)) [(.raise 6 (.lit .non))] []) [.sh (.str t), .sh d, .no, .no, .no, .no] = .ex 6 := by
      simp [hd]
    rw [exSs_cons, s1, thn_nx, exSs_cons, s2, thn_ex]; rfl
  show ended (exSs gl (callF pr (n + 3)) rfu b7 [.sh (.str t), .sh d, .no]) = _
  unfold b7
  rw [exSs_cons, exS_try]
  simp only [open_sh, open_no, open_nil, ev_call, evs_cons, ev_var, look_zero, look_succ, val_sh, R.bind_ok, evs_nil, hw]
  rfl
def TXS (acc : List D) : D := .lst acc
abbrev tgB (fn : Nat → List D → R D) : Env → Out := fun env' => exSs gl fn rfu [(.for_ (.one 6) .val [(.bin .add (.bin .add (.var 2) (.var 4)) (.var 1))] [2, 4, 1] [(.ite (.cmp .ne (.call 7 [(.var 5), (.var 6)]) (.call 10 [(.var 5), (.var 6)])) [(.ret (.lit (.bl false)))] [])]),
    (.ite (.cmp .ne (.lc (.call 7 [(.var 5), (.var 8)]) (.one 8) .val [(.tup [(.lit .non), (.lit (.int (5))), (.tup [(.lit (.str [97, 115, 107]))]), (.lst [(.lit (.str [97]))])])] [] [8]) (.bin .mul (.lst [(.tup [(.lit (.str [114, 101, 102, 117, 115, 101, 100])), (.lit (.int (6)))])]) (.lit (.int (4))))) [(.ret (.lit (.bl false)))] [])] env'
theorem ev_lc {fn : Nat → List D → R D} {env : Env} (e : E) (t : T) (k : Ik) (args c : List E) (own : List Nat) : ev gl fn (.lc e t k args c own) env = (evs gl fn args env).bind fun ds => (walk k ds).bind fun xs =>
      (calmly (lcGo (fun x => bind t x (wipe env own)) (fun env' => evc gl fn c env') (fun env' => ev gl fn e env') xs)).bind fun rs => fit rs.length (.lst rs) := rfl
theorem tg_body (n : Nat) (ns : List Int) {t : List Nat} {bg en : Nat} {tick : Bool} (T : Tg t bg en tick) {acc : List D} (hT : Tx acc) (ha : acc.length ≤ 100) {s2 s3 s6 s7 s8 : Sl} (h2 : s2 = .ow (.lst acc) ∨ s2 = .sh (.lst acc)) (h3 : ∀ d, s3 ≠ .ow d) (h6 : ∀ d, s6 ≠ .ow d) (h7 : ∀ d, s7 ≠ .ow d) (h8 : ∀ d, s8 ≠ .ow d) :
    ∃ s6', (∀ d, s6' ≠ .ow d) ∧ tgB (callF pr (n + 4)) (eL ns (.sh PS) s2 s3 (.sh KN) (.sh (.str t)) s6 s7 s8) = .nx (eL ns (.sh PS) (.sh (.lst acc)) s3 (.sh KN) (.sh (.str t)) s6' s7 s8) := by
  have hpp : plain (eL ns (.sh PS) (.sh (.lst acc)) s3 (.sh KN) (.sh (.str t)) s6 s7 s8) = true := plain_eL sh_ne sh_ne h3 sh_ne sh_ne h6 h7 h8
  have hmask : mask [2, 4, 1] (eL ns (.sh PS) s2 s3 (.sh KN) (.sh (.str t)) s6 s7 s8) = eL ns (.sh PS) (.sh (.lst acc)) s3 (.sh KN) (.sh (.str t)) s6 s7 s8 := by
    rw [← mask_plain (uses := [2, 4, 1]) hpp]
    rcases h2 with rfl | rfl <;> rfl
  have hdem : demote [2, 4, 1] (eL ns (.sh PS) s2 s3 (.sh KN) (.sh (.str t)) s6 s7 s8) = eL ns (.sh PS) (.sh (.lst acc)) s3 (.sh KN) (.sh (.str t)) s6 s7 s8 := by
    rw [← demote_plain (uses := [2, 4, 1]) hpp]
    rcases h2 with rfl | rfl <;> rfl
  have hxs : Tx (acc ++ known.map D.str ++ parts.map D.str) := fun x hx => by
    rcases List.mem_append.mp hx with h | h
    · rcases List.mem_append.mp h with h | h
      · exact hT x h
      · obtain ⟨l, hl, rfl⟩ := List.mem_map.mp h
        have : ∀ p ∈ known, p.length ≤ 500 := by decide
        exact ⟨l, rfl, this l hl⟩
    · obtain ⟨l, hl, rfl⟩ := List.mem_map.mp h
      exact ⟨l, rfl, Nat.le_trans (parts_len l hl) (by decide)⟩
  obtain ⟨s6', i1, i2⟩ := t_go n ns T (TX := .lst acc) h3 h7 h8 _ s6 h6 hxs
  refine ⟨s6', i1, ?_⟩
  have a1 : bop .add (.lst acc) KN = .ok (.lst (acc ++ known.map D.str)) := fit_ok (by
    have : (known.map D.str).length = 15 := rfl
    omega)
  have a2 : bop .add (.lst (acc ++ known.map D.str)) PS = .ok (.lst (acc ++ known.map D.str ++ parts.map D.str)) := fit_ok (by
    have e1 : (known.map D.str).length = 15 := rfl
    have e2 : (parts.map D.str).length = 41 := rfl
    rw [List.length_append]; omega)
  have b1 : exS gl (callF pr (n + 4)) rfu (.for_ (.one 6) .val [(.bin .add (.bin .add (.var 2) (.var 4)) (.var 1))] [2, 4, 1] [(.ite (.cmp .ne (.call 7 [(.var 5), (.var 6)]) (.call 10 [(.var 5), (.var 6)])) [(.ret (.lit (.bl false)))] [])]) (eL ns (.sh PS) s2 s3 (.sh KN) (.sh (.str t)) s6 s7 s8) = .nx (eL ns (.sh PS) (.sh (.lst acc)) s3 (.sh KN) (.sh (.str t)) s6' s7 s8) := by
    rw [exS_for, hmask, hdem]
    have e1 : evs gl (callF pr (n + 4)) [(.bin .add (.bin .add (.var 2) (.var 4)) (.var 1))] (eL ns (.sh PS) (.sh (.lst acc)) s3 (.sh KN) (.sh (.str t)) s6 s7 s8) = .ok [.lst (acc ++ known.map D.str ++ parts.map D.str)] := by
      simp only [evs_cons, ev_bin, ev_var, eL, look_zero, look_succ, val_sh, R.bind_ok, a1, a2, evs_nil]
    rw [e1, R.out_ok]
    show R.out (.ok (acc ++ known.map D.str ++ parts.map D.str)) _ = _
    rw [R.out_ok]
    exact i2
  have o1 := told_odd n T.ok (d := .non) rfl
  have o2 := told_odd n T.ok (d := .int 5) rfl
  have o3 := told_odd n T.ok (d := .tup [.str [97, 115, 107]]) rfl
  have o4 := told_odd n T.ok (d := .lst [.str [97]]) rfl
  have b2 : exS gl (callF pr (n + 4)) rfu (.ite (.cmp .ne (.lc (.call 7 [(.var 5), (.var 8)]) (.one 8) .val [(.tup [(.lit .non), (.lit (.int (5))), (.tup [(.lit (.str [97, 115, 107]))]), (.lst [(.lit (.str [97]))])])] [] [8]) (.bin .mul (.lst [(.tup [(.lit (.str [114, 101, 102, 117, 115, 101, 100])), (.lit (.int (6)))])]) (.lit (.int (4))))) [(.ret (.lit (.bl false)))] []) (eL ns (.sh PS) (.sh (.lst acc)) s3 (.sh KN) (.sh (.str t)) s6' s7 s8) = .nx (eL ns (.sh PS) (.sh (.lst acc)) s3 (.sh KN) (.sh (.str t)) s6' s7 s8) := by
    rw [exS_ite, open_plain (plain_eL sh_ne sh_ne h3 sh_ne sh_ne i1 h7 h8)]
    have g1 : evs gl (callF pr (n + 4)) [(.tup [(.lit .non), (.lit (.int (5))), (.tup [(.lit (.str [97, 115, 107]))]), (.lst [(.lit (.str [97]))])])] (eL ns (.sh PS) (.sh (.lst acc)) s3 (.sh KN) (.sh (.str t)) s6' s7 s8) = .ok [.tup [.non, .int 5, .tup [.str [97, 115, 107]], .lst [.str [97]]]] := rfl
    have g2 : walk .val [.tup [.non, .int 5, .tup [.str [97, 115, 107]], .lst [.str [97]]]] = .ok [.non, .int 5, .tup [.str [97, 115, 107]], .lst [.str [97]]] := rfl
    have g3 : ∀ d : D, bind (.one 8) d (wipe (eL ns (.sh PS) (.sh (.lst acc)) s3 (.sh KN) (.sh (.str t)) s6' s7 s8) [8]) = .ok (eL ns (.sh PS) (.sh (.lst acc)) s3 (.sh KN) (.sh (.str t)) s6' s7 (.sh d)) := fun d => rfl
    have g4 : ∀ d : D, callF pr (n + 4) 7 [.str t, d] = .ok (.tup [.str refd, .int 6]) → ev gl (callF pr (n + 4)) (.call 7 [(.var 5), (.var 8)]) (eL ns (.sh PS) (.sh (.lst acc)) s3 (.sh KN) (.sh (.str t)) s6' s7 (.sh d)) = .ok (.tup [.str refd, .int 6]) := fun d hd => hd
    have g5 : ev gl (callF pr (n + 4)) (.lc (.call 7 [(.var 5), (.var 8)]) (.one 8) .val [(.tup [(.lit .non), (.lit (.int (5))), (.tup [(.lit (.str [97, 115, 107]))]), (.lst [(.lit (.str [97]))])])] [] [8]) (eL ns (.sh PS) (.sh (.lst acc)) s3 (.sh KN) (.sh (.str t)) s6' s7 s8) = .ok (.lst [.tup [.str refd, .int 6], .tup [.str refd, .int 6], .tup [.str refd, .int 6], .tup [.str refd, .int 6]]) := by
      rw [ev_lc, g1, R.bind_ok, g2, R.bind_ok]
      simp only [lcGo, g3, R.bind_ok, evc, if_true, g4 _ o1, g4 _ o2, g4 _ o3, g4 _ o4, calmly]
      rfl
    rw [ev_cmp, g5, R.bind_ok]
    rfl
  show exSs gl (callF pr (n + 4)) rfu (_ :: _) _ = _
  rw [exSs_cons, b1, thn_nx, exSs_cons, b2, thn_nx, exSs_nil]
theorem law_plain (n : Nat) (ns : List Int) (hn : ns.length ≤ 63) : callF pr (n + 5) 11 [.scr ns] = .ok (.bl true) := by
  rw [call_eq (n + 4) (fd := ⟨1, 9, b11⟩) rfl rfl]
  show ended (exSs gl (callF pr (n + 4)) rfu b11 (eL ns .no .no .no .no .no .no .no .no)) = _
  obtain ⟨acc, s3, s6, s7, k1, k2, k3, k4, k5, k6⟩ := out_go n ns hn [0, 1, 2, 3] [] .no .no .no no_ne no_ne no_ne (fun x hx => by cases hx) (by simp)
  have f1 : ∀ (env : Env) (env' : Env) (st : S) (ss : List S) (o : R D), exS gl (callF pr (n + 4)) rfu st env = .nx env' → ended (exSs gl (callF pr (n + 4)) rfu ss env') = o → ended (exSs gl (callF pr (n + 4)) rfu (st :: ss) env) = o := fun env env' st ss o h g => by
    rw [exSs_cons, h, thn_nx]; exact g
  unfold b11
  refine f1 _ (eL ns (.sh (.lst ((parts.take 14).map D.str))) .no .no .no .no .no .no .no) _ _ _ rfl ?_
  refine f1 _ (eL ns (.sh (.lst ((parts.take 21).map D.str))) .no .no .no .no .no .no .no) _ _ _ rfl ?_
  refine f1 _ (eL ns (.sh (.lst ((parts.take 35).map D.str))) .no .no .no .no .no .no .no) _ _ _ rfl ?_
  refine f1 _ (eL ns (.sh PS) .no .no .no .no .no .no .no) _ _ _ rfl ?_
  refine f1 _ (eL ns (.sh PS) (.ow (.lst [])) .no .no .no .no .no .no) _ _ _ rfl ?_
  refine f1 _ (eL ns (.sh PS) (.ow (.lst acc)) s3 .no .no s6 s7 .no) _ _ _ ?_ ?_
  · rw [exS_for]
    show R.out (.ok [D.int 4]) _ = _
    rw [R.out_ok]
    show R.out (.ok ([0, 1, 2, 3].map fun (k : Nat) => D.int k)) _ = _
    rw [R.out_ok]
    exact k6
  have pl : ∀ (s4 : Sl), (∀ d, s4 ≠ .ow d) → ∀ d : D, demote [] (eL ns (.sh PS) (.ow (.lst acc)) s3 s4 .no s6 s7 .no) = eL ns (.sh PS) (.ow (.lst acc)) s3 s4 .no s6 s7 .no := fun s4 h4 d => by
    cases s3 with
    | ow d => exact absurd rfl (k3 d)
    | _ =>
      cases s6 with
      | ow d => exact absurd rfl (k4 d)
      | _ =>
        cases s7 with
        | ow d => exact absurd rfl (k5 d)
        | _ =>
          cases s4 with
          | ow d => exact absurd rfl (h4 d)
          | _ => rfl
  have pl4 : demote [4] (eL ns (.sh PS) (.ow (.lst acc)) s3 (.sh (.lst ((known.take 9).map D.str))) .no s6 s7 .no) = eL ns (.sh PS) (.ow (.lst acc)) s3 (.sh (.lst ((known.take 9).map D.str))) .no s6 s7 .no := by
    cases s3 with
    | ow d => exact absurd rfl (k3 d)
    | _ =>
      cases s6 with
      | ow d => exact absurd rfl (k4 d)
      | _ =>
        cases s7 with
        | ow d => exact absurd rfl (k5 d)
        | _ => rfl
  refine f1 _ (eL ns (.sh PS) (.ow (.lst acc)) s3 (.sh (.lst ((known.take 9).map D.str))) .no s6 s7 .no) _ _ _ ?_ ?_
  · rw [exS_asg]
    show R.out (.ok (D.lst ((known.take 9).map D.str))) _ = _
    rw [R.out_ok]
    show R.out (bind (.one 4) (.lst ((known.take 9).map D.str)) (demote [] (eL ns (.sh PS) (.ow (.lst acc)) s3 .no .no s6 s7 .no))) Out.nx = _
    rw [pl .no no_ne .non]; rfl
  refine f1 _ (eL ns (.sh PS) (.ow (.lst acc)) s3 (.sh KN) .no s6 s7 .no) _ _ _ ?_ ?_
  · rw [exS_asg]
    have g0 : ev gl (callF pr (n + 4)) (.bin .add (.var 4) (.lst [(.lit (.str [96, 96])), (.lit (.str [96, 97, 96, 96, 98, 96])), (.lit (.str [49, 32, 50])), (.lit (.str [49, 45, 50])), (.lit (.str [97, 115, 107, 49])), (.lit (.str [97, 115, 102, 114, 111, 109]))])) (mask [4] (eL ns (.sh PS) (.ow (.lst acc)) s3 (.sh (.lst ((known.take 9).map D.str))) .no s6 s7 .no)) = .ok KN := rfl
    rw [g0, R.out_ok]
    show R.out (bind (.one 4) KN (demote [4] (eL ns (.sh PS) (.ow (.lst acc)) s3 (.sh (.lst ((known.take 9).map D.str))) .no s6 s7 .no))) Out.nx = _
    rw [pl4]; rfl
  -- the tongues
  obtain ⟨u1, v1, w1⟩ := tg_body n ns tg1 k1 k2 (s2 := .ow (.lst acc)) (.inl rfl) k3 k4 k5 no_ne
  obtain ⟨u2, v2, w2⟩ := tg_body n ns tg2 k1 k2 (s2 := .sh (.lst acc)) (.inr rfl) k3 v1 k5 no_ne
  obtain ⟨u3, v3, w3⟩ := tg_body n ns tg3 k1 k2 (s2 := .sh (.lst acc)) (.inr rfl) k3 v2 k5 no_ne
  have plK : demote [] (eL ns (.sh PS) (.ow (.lst acc)) s3 (.sh KN) .no s6 s7 .no) = eL ns (.sh PS) (.ow (.lst acc)) s3 (.sh KN) .no s6 s7 .no := pl (.sh KN) sh_ne .non
  refine f1 _ (eL ns (.sh PS) (.sh (.lst acc)) s3 (.sh KN) (.sh (.str [116, 105, 99, 107])) u3 s7 .no) _ _ _ ?_ ?_
  · rw [exS_for, plK]
    show R.out (.ok [D.tup [.str [100, 111, 117, 98, 108, 101], .str [98, 114, 97, 99, 107, 101, 116], .str [116, 105, 99, 107]]]) _ = _
    rw [R.out_ok]
    show R.out (.ok [D.str [100, 111, 117, 98, 108, 101], .str [98, 114, 97, 99, 107, 101, 116], .str [116, 105, 99, 107]]) _ = _
    rw [R.out_ok]
    rw [forGo_cons _ _ _ _ _ (eL ns (.sh PS) (.ow (.lst acc)) s3 (.sh KN) (.sh (.str [100, 111, 117, 98, 108, 101])) s6 s7 .no) rfl]
    refine (congrArg (fun o : Out => o.thn _) w1).trans ?_
    rw [thn_nx, forGo_cons _ _ _ _ _ (eL ns (.sh PS) (.sh (.lst acc)) s3 (.sh KN) (.sh (.str [98, 114, 97, 99, 107, 101, 116])) u1 s7 .no) rfl]
    refine (congrArg (fun o : Out => o.thn _) w2).trans ?_
    rw [thn_nx, forGo_cons _ _ _ _ _ (eL ns (.sh PS) (.sh (.lst acc)) s3 (.sh KN) (.sh (.str [116, 105, 99, 107])) u2 s7 .no) rfl]
    refine (congrArg (fun o : Out => o.thn _) w3).trans ?_
    rfl
  -- what is no tongue
  have o1 : callF pr (n + 4) 7 [.str [], .str [36]] = .ok (.tup [.str refd, .int 5]) := rfl
  have o2 : callF pr (n + 4) 7 [.str [84, 105, 99, 107], .str [36]] = .ok (.tup [.str refd, .int 5]) := rfl
  have o3 : callF pr (n + 4) 7 [.non, .str [36]] = .ok (.tup [.str refd, .int 5]) := rfl
  have o4 : callF pr (n + 4) 7 [.int 1, .str [36]] = .ok (.tup [.str refd, .int 5]) := rfl
  rw [exSs_cons, exS_ret, open_plain (plain_eL sh_ne sh_ne k3 sh_ne sh_ne v3 k5 no_ne), ev_cmp]
  have g1 : ev gl (callF pr (n + 4)) (.lc (.call 7 [(.var 8), (.lit (.str [36]))]) (.one 8) .val [(.tup [(.lit (.str [])), (.lit (.str [84, 105, 99, 107])), (.lit .non), (.lit (.int (1)))])] [] [8]) (eL ns (.sh PS) (.sh (.lst acc)) s3 (.sh KN) (.sh (.str [116, 105, 99, 107])) u3 s7 .no) = .ok (.lst [.tup [.str refd, .int 5], .tup [.str refd, .int 5], .tup [.str refd, .int 5], .tup [.str refd, .int 5]]) := by
    rw [ev_lc]
    have e1 : evs gl (callF pr (n + 4)) [(.tup [(.lit (.str [])), (.lit (.str [84, 105, 99, 107])), (.lit .non), (.lit (.int (1)))])] (eL ns (.sh PS) (.sh (.lst acc)) s3 (.sh KN) (.sh (.str [116, 105, 99, 107])) u3 s7 .no) = .ok [.tup [.str [], .str [84, 105, 99, 107], .non, .int 1]] := rfl
    have e2 : walk .val [.tup [.str [], .str [84, 105, 99, 107], .non, .int 1]] = .ok [.str [], .str [84, 105, 99, 107], .non, .int 1] := rfl
    have g3 : ∀ d : D, bind (.one 8) d (wipe (eL ns (.sh PS) (.sh (.lst acc)) s3 (.sh KN) (.sh (.str [116, 105, 99, 107])) u3 s7 .no) [8]) = .ok (eL ns (.sh PS) (.sh (.lst acc)) s3 (.sh KN) (.sh (.str [116, 105, 99, 107])) u3 s7 (.sh d)) := fun d => rfl
    have g4 : ∀ d : D, callF pr (n + 4) 7 [d, .str [36]] = .ok (.tup [.str refd, .int 5]) → ev gl (callF pr (n + 4)) (.call 7 [(.var 8), (.lit (.str [36]))]) (eL ns (.sh PS) (.sh (.lst acc)) s3 (.sh KN) (.sh (.str [116, 105, 99, 107])) u3 s7 (.sh d)) = .ok (.tup [.str refd, .int 5]) := fun d hd => hd
    rw [e1, R.bind_ok, e2, R.bind_ok]
    simp only [lcGo, g3, R.bind_ok, evc, if_true, g4 _ o1, g4 _ o2, g4 _ o3, g4 _ o4, calmly]
    rfl
  rw [g1, R.bind_ok]
  rfl
end K32
end Ev

namespace La
open PySem PySem.W PySem.Calls PyProof.Rows L2 Ev
def top (i : Nat) : Stmt := PySem.Challenge.pw_askparts_k32_words.main.body.getD i (.Pass ⟨0, 0, 0, 0⟩)
def d0 : Df := ⟨"need_tongue", top 19, ["tongue"], ["tongue"], []⟩
def d1 : Df := ⟨"quoted_to", top 20, ["text", "start", "end", "slash", "found", "at", "sign"], ["text", "start", "end", "slash"], []⟩
def d2 : Df := ⟨"run_to", top 21, ["text", "start", "signs"], ["text", "start", "signs"], []⟩
def d3 : Df := ⟨"words_in", top 22, ["tongue", "text", "found", "at", "kind", "worth"], ["tongue", "text"], ["found"]⟩
def d4 : Df := ⟨"word_at", top 23, ["tongue", "text", "at", "sign", "behind", "name", "worth"], ["tongue", "text", "at"], []⟩
def d5 : Df := ⟨"_law_cell", top 25, ["script", "k"], ["script", "k"], []⟩
def d6 : Df := ⟨"_law_drawn", top 26, ["script", "k", "many", "cell"], ["script", "k", "many"], []⟩
def d7 : Df := ⟨"_law_told", top 28, ["tongue", "text", "e"], ["tongue", "text"], []⟩
def d8 : Df := ⟨"_law_quote", top 29, ["text", "at", "end", "twice", "slash", "found"], ["text", "at", "end", "twice", "slash"], []⟩
def d9 : Df := ⟨"_law_next", top 30, ["tongue", "text", "at", "sign", "behind", "figures", "words", "begin", "end", "for_name", "slash", "here", "kind"], ["tongue", "text", "at"], []⟩
def d10 : Df := ⟨"_law_due", top 31, ["tongue", "text", "found", "at", "told"], ["tongue", "text"], ["found"]⟩
def d11 : Df := ⟨"law", top 32, ["script", "parts", "drawn", "turn", "known", "tongue", "text", "k", "odd"], ["script"], ["drawn"]⟩
def dR : Df := ⟨"_law_refused", top 27, ["e", "flags"], ["e"], []⟩
def lw : Lw where
  dfs := [d0, d1, d2, d3, d4, d5, d6, d7, d8, d9, d10, d11]
  rfd := dR
  gs := [("TONGUES", (.tup [(.str [100, 111, 117, 98, 108, 101]), (.str [98, 114, 97, 99, 107, 101, 116]), (.str [116, 105, 99, 107])])),
    ("NAMES", (.gdc [[100, 111, 117, 98, 108, 101], [98, 114, 97, 99, 107, 101, 116], [116, 105, 99, 107]] [(.tup [(.str [34]), (.str [34])]), (.tup [(.str [91]), (.str [93])]), (.tup [(.str [96]), (.str [96])])])),
    ("SIGNS", (.str [40, 41, 44, 46, 61, 60, 43, 38, 63])),
    ("WORDS", (.tup [(.str [97, 115, 107]), (.str [97, 115]), (.str [102, 114, 111, 109]), (.str [119, 104, 101, 114, 101]), (.str [98, 121]), (.str [102, 105, 114, 115, 116]), (.str [117, 112]), (.str [100, 111, 119, 110]), (.str [97, 110, 100]), (.str [111, 114]), (.str [110, 111, 116]), (.str [105, 110])])),
    ("LETTERS", (.str [97, 98, 99, 100, 101, 102, 103, 104, 105, 106, 107, 108, 109, 110, 111, 112, 113, 114, 115, 116, 117, 118, 119, 120, 121, 122])),
    ("FIGURES", (.str [48, 49, 50, 51, 52, 53, 54, 55, 56, 57]))]
  cs := ["NoBook", "NoTable", "NoAsk", "Faulty", "NoName", "NoTongue", "NoText", "NoStore", "Taken", "NoPart"]
end La
namespace La
open PySem PySem.W PySem.Calls PyProof.Rows L2 Ev
abbrev RR : OpenRow := OpenLaw.row PySem.Challenge.rw_askparts_k32_words
abbrev qv : Program := view RR.prog [32]
def nm0 : List PySem.Str := ["AskError", "NoBook", "NoTable", "NoAsk", "Faulty", "NoName", "NoTongue", "NoText", "NoStore", "Taken", "NoPart", "TONGUES", "NAMES", "SIGNS", "WORDS", "LETTERS", "FIGURES", "need_tongue", "quoted_to", "run_to", "words_in", "word_at", "_law_cell", "_law_drawn", "_law_refused", "_law_told", "_law_quote", "_law_next", "_law_due"]
def names : List PySem.Str := nm0
def fn : List He.DefD := (lw.dfs ++ [lw.rfd]).map dfD
def ts : List He.Tab := [(fun K => He.ga K "NAMES", ["double", "bracket", "tick"])]
abbrev hk : PySem.W.Hook := He.hookX 4 [] fn ts [] lw.okK
def ob (s : PySem.W.SharedT) : He.AlX := He.obsX 4 [] fn ts [] lw.okK (HandSHeadRun.getT s)
theorem ob_eq (s : PySem.W.SharedT) : ob s = hk.obs s.abs := He.obsX_eq (HandSHeadRun.getT_eq s)
theorem run (w : World) : HandSHeadRun.RunEq RR qv hk ob 6000 names w := by
  refine PySem.W.byRow2 "special-get-raises" (P := fun w => HandSHeadRun.RunEq RR qv hk ob 6000 names w) ?_ ?_ w
  · intro w os
    kernel_rfl
  · intro w os
    kernel_rfl
end La
namespace La
open PySem PySem.W PySem.Calls PyProof.Rows L2 Ev
theorem binds : ∀ d, d ∈ lw.dfs ∨ d = lw.rfd → ∀ (kV doc pm : Value) (an : Option Addr) (cdv ct : Value) (us : List Value), us.length = d.ps.length →
    bindArgs (PySem.W.fnOf d.x d.x (defArgs d.st) (defBody d.st) (defScope d.st) .none kV doc pm an cdv ct) ⟨us, []⟩ = pure (d.ps.zip us) := by
  rintro d (h | h)
  · have h0 : d ∈ [d0, d1, d2, d3, d4, d5, d6, d7, d8, d9, d10, d11] := h
    rcases List.mem_cons.mp h0 with e | h1
    · subst e
      exact fun kV doc pm an cdv ct us hl => match us, hl with | [_], _ => rfl
    rcases List.mem_cons.mp h1 with e | h2
    · subst e
      exact fun kV doc pm an cdv ct us hl => match us, hl with | [_, _, _, _], _ => rfl
    rcases List.mem_cons.mp h2 with e | h3
    · subst e
      exact fun kV doc pm an cdv ct us hl => match us, hl with | [_, _, _], _ => rfl
    rcases List.mem_cons.mp h3 with e | h4
    · subst e
      exact fun kV doc pm an cdv ct us hl => match us, hl with | [_, _], _ => rfl
    rcases List.mem_cons.mp h4 with e | h5
    · subst e
      exact fun kV doc pm an cdv ct us hl => match us, hl with | [_, _, _], _ => rfl
    rcases List.mem_cons.mp h5 with e | h6
    · subst e
      exact fun kV doc pm an cdv ct us hl => match us, hl with | [_, _], _ => rfl
    rcases List.mem_cons.mp h6 with e | h7
    · subst e
      exact fun kV doc pm an cdv ct us hl => match us, hl with | [_, _, _], _ => rfl
    rcases List.mem_cons.mp h7 with e | h8
    · subst e
      exact fun kV doc pm an cdv ct us hl => match us, hl with | [_, _], _ => rfl
    rcases List.mem_cons.mp h8 with e | h9
    · subst e
      exact fun kV doc pm an cdv ct us hl => match us, hl with | [_, _, _, _, _], _ => rfl
    rcases List.mem_cons.mp h9 with e | h10
    · subst e
      exact fun kV doc pm an cdv ct us hl => match us, hl with | [_, _, _], _ => rfl
    rcases List.mem_cons.mp h10 with e | h11
    · subst e
      exact fun kV doc pm an cdv ct us hl => match us, hl with | [_, _], _ => rfl
    rcases List.mem_cons.mp h11 with e | h12
    · subst e
      exact fun kV doc pm an cdv ct us hl => match us, hl with | [_], _ => rfl
    cases h12
  · subst h
    exact fun kV doc pm an cdv ct us hl => match us, hl with | [_], _ => rfl
theorem okL : lw.Ok where
  sc := fun d hd => by
    have h : (lw.dfs.all fun d => C8.scC d.N d.ps (defScope d.st)) = true := by kernel_rfl
    exact List.all_eq_true.mp h d hd
  scR := by kernel_rfl
  lenR := rfl
  lenN := rfl
  rx := rfl
  nd := by decide +kernel
  binds := binds
  hR := fun a c hc => by
    refine ⟨refS a fun j => decide (j = c), ?_, refS_ok a c hc⟩
    match c, hc with
    | 0, _ => rfl
    | 1, _ => rfl
    | 2, _ => rfl
    | 3, _ => rfl
    | 4, _ => rfl
    | 5, _ => rfl
    | 6, _ => rfl
    | 7, _ => rfl
    | 8, _ => rfl
    | 9, _ => rfl
end La
theorem La.same : La.lw.pr = Ev.K32.pr := by
  have e1 : La.lw.glob = Ev.K32.gl := by
    funext g
    match g with
    | 0 => rfl
    | 1 => rfl
    | 2 => rfl
    | 3 => rfl
    | 4 => rfl
    | 5 => rfl
    | n + 6 => rfl
  have e2 : La.lw.fd = Ev.K32.fds := by
    funext f
    match f with
    | 0 => rfl
    | 1 => rfl
    | 2 => rfl
    | 3 => rfl
    | 4 => rfl
    | 5 => rfl
    | 6 => rfl
    | 7 => rfl
    | 8 => rfl
    | 9 => rfl
    | 10 => rfl
    | 11 => rfl
    | n + 12 => rfl
  have e3 : La.lw.refu = Ev.K32.rfu := rfl
  show Ev.Pr.mk La.lw.glob La.lw.fd La.lw.refu = _
  rw [e1, e2, e3]; rfl
theorem La.law_plain (ns : List Int) (h : ns.length ≤ 63) : Ev.callF La.lw.pr 200 11 [.scr ns] = .ok (.bl true) := by
  rw [La.same]
  exact Ev.K32.law_plain 195 ns h

open PySem PySem.W PySem.Calls PyProof.Rows La Ev in
theorem PySem.Challenge.cw_askparts_k32_words_holds : PySem.Challenge.rw_askparts_k32_words.Holds := by
  w_on; o_law
  refine HandSHeadRun.head_any (r := RR) (q := qv) (H := La.hk) (ob := La.ob) (M := 6000) (loose := La.names) (d := HandSHeadRun.topDef RR.prog 32) (kwd := []) La.ob_eq
    (by kernel_rfl) (fun s => by kernel_rfl) La.run (by kernel_rfl) (by kernel_rfl) (by kernel_rfl) (by rfl) (by first | assumption | decide +kernel) (by decide +kernel) ⟨rfl, rfl, rfl, rfl, rfl, by decide +kernel⟩ ?hw ?hc
  case hw => w_witness2
  case hc =>
    refine L2.walk_ofE (l := PySem.Challenge.rw_askparts_k32_words) (n := 63) (k := 200 + 1) (x := "script") (CX := L2.CX0) rfl (by decide) (by kernel_rfl) ⟨rfl, by decide, by decide⟩ ?F (fun _ _ _ _ z => z)
    intro w mg fa h Y G hmg0
    obtain ⟨K, KX, c⟩ := Y
    have hmg : mg ("law" : PySem.Str) = some (.ref fa) := by
      have e : (HandSHeadRun.topDef RR.prog 32).name = ("law" : PySem.Str) := by kernel_rfl
      rw [← e]
      exact hmg0
    have T : lw.At w K mg := Lw.at_of KX G c fun p h0 ks ds e => by
      have h0 : p ∈ lw.gs := h0
      rcases List.mem_cons.mp h0 with z | h1
      · subst z; cases e
      rcases List.mem_cons.mp h1 with z | h2
      · subst z; exact ⟨0, _, rfl, rfl⟩
      rcases List.mem_cons.mp h2 with z | h3
      · subst z; cases e
      rcases List.mem_cons.mp h3 with z | h4
      · subst z; cases e
      rcases List.mem_cons.mp h4 with z | h5
      · subst z; cases e
      rcases List.mem_cons.mp h5 with z | h6
      · subst z; cases e
      cases h6
    exact Lw.end_ (P := (PySem.Challenge.rw_askparts_k32_words).prog) okL T KX 200 11 d11 rfl rfl hmg law_plain
