import PyProof.Rows.All
import Wide.All
import OpenK.AllK
import Wide.FinOn
import HandS.ForMost
import HandS.ForExc
import HandS.ExcCtx
import HandS.HotCalls
import HandS.Zip
import HandS.TupAny
import HandS.TupMul
import HandS.Deep
import HandS.IsInst
import HandS.ExcIs
import HandS.Flow
import HandS.NoneIn
import HandS.Conv
import HandS.Strs
import HandS.SetFor
import HandS.SetKeys
import HandS.StrMore
import KE.SortData
import KE.KDictKeyed
import KE.DataCmp
import PyProof.MaxThree
import KE.KTupSum
import KE.DataMinMax
import KE.LtData
import KE.KDictPairs
import KE.GoesMore
import KE.GoesZip
import KE.GoesEnum
import KE.KStateDown
import HandS.Ends
import HandS.Words
import HandS.WordsExc
import HandS.Defaults
import HandS.Head0
import HandS.Head1
import HandS.Head2
import HandS.HeadEnd
import HandS.HeadHook1
import HandS.HeadHook2
import PyProof.ExcBaseAll.ValueError
import PySem.Challenge.RW_commonlots_k18_whole_regions_and_counts
set_option Elab.async false
set_option linter.all false
set_option maxRecDepth 100000
/-! Mini: a small pure language: values, store, evaluator. -/
namespace Mn
open PySem

/-- values: tuples and lists that nobody changes are trees; ob n: the n-th object of the store; fn n: the n-th def; ex c: a handled exception of the class c -/
inductive D where
  | non | bl (b : Bool) | int (i : Int) | str (x : Str) | tup (xs : List D) | lst (xs : List D) | ob (n : Nat) | fn (n : Nat) | ex (c : Nat) | scr (ns : List Int)

inductive Ob where
  | lst (xs : List D) | dct (kvs : List (D × D)) | ins (c : Nat) (fs : List (Str × D))
abbrev Store := List Ob
abbrev En := List (Option D)

inductive Res (α : Type) where
  | ok (a : α) (st : Store) | exc (c : Nat) (st : Store) | err
def Res.bind {α β : Type} (r : Res α) (f : α → Store → Res β) : Res β := match r with
  | .ok a st => f a st
  | .exc c st => .exc c st
  | .err => .err

/-! ### plain data -/
mutual
def D.isP : D → Bool
  | .tup xs => isPs xs
  | .lst xs => isPs xs
  | .ob _ => false
  | .fn _ => false
  | .ex _ => false
  | .scr _ => false
  | .non => true
  | .bl _ => true
  | .int _ => true
  | .str x => PyData.strOk x
def isPs : List D → Bool
  | [] => true
  | x :: xs => x.isP && isPs xs
end
mutual
def D.toP : D → PyData
  | .non => .none
  | .bl b => .bool b
  | .int i => .int i
  | .str x => .str x
  | .tup xs => .tuple (toPs xs)
  | .lst xs => .list (toPs xs)
  | .ob _ => .none
  | .fn _ => .none
  | .ex _ => .none
  | .scr _ => .none
def toPs : List D → List PyData
  | [] => []
  | x :: xs => x.toP :: toPs xs
end
mutual
def D.dep : D → Nat
  | .tup xs => deps xs + 1
  | .lst xs => deps xs + 1
  | _ => 0
def deps : List D → Nat
  | [] => 0
  | x :: xs => max x.dep (deps xs)
end
/-- plain, and not too deep -/
def D.okp (d : D) : Bool := d.isP && decide (d.dep ≤ 60)
def okps (xs : List D) : Bool := isPs xs && decide (deps xs ≤ 60)
mutual
/-- == of plain data -/
def D.eqv : D → D → Bool
  | .non, .non => true
  | .bl a, .bl b => a == b
  | .bl a, .int j => decide ((if a then 1 else 0) = j)
  | .int i, .bl b => decide (i = (if b then 1 else 0))
  | .int i, .int j => decide (i = j)
  | .str x, .str y => decide (x = y)
  | .tup xs, .tup ys => eqvs xs ys
  | .lst xs, .lst ys => eqvs xs ys
  | _, _ => false
def eqvs : List D → List D → Bool
  | [], [] => true
  | x :: xs, y :: ys => x.eqv y && eqvs xs ys
  | _, _ => false
end
mutual
/-- can be compared by < -/
def D.alike : D → D → Bool
  | .int _, .int _ => true
  | .str _, .str _ => true
  | .tup xs, .tup ys => alikes xs ys
  | _, _ => false
def alikes : List D → List D → Bool
  | x :: xs, y :: ys => x.alike y && alikes xs ys
  | _, _ => true
end
mutual
/-- < of alike data -/
def D.lt : D → D → Bool
  | .int i, .int j => decide (i < j)
  | .str x, .str y => decide (x.cps.toList < y.cps.toList)
  | .tup xs, .tup ys => lts xs ys
  | _, _ => false
def lts : List D → List D → Bool
  | [], [] => false
  | [], _ :: _ => true
  | _ :: _, [] => false
  | x :: xs, y :: ys => if x.eqv y then lts xs ys else x.lt y
end
mutual
/-- sameness -/
def D.beq : D → D → Bool
  | .non, .non => true
  | .bl a, .bl b => a == b
  | .int i, .int j => decide (i = j)
  | .str x, .str y => decide (x = y)
  | .tup xs, .tup ys => beqs xs ys
  | .lst xs, .lst ys => beqs xs ys
  | .ob n, .ob m => decide (n = m)
  | .fn n, .fn m => decide (n = m)
  | .ex n, .ex m => decide (n = m)
  | .scr n, .scr m => decide (n = m)
  | _, _ => false
def beqs : List D → List D → Bool
  | [], [] => true
  | x :: xs, y :: ys => x.beq y && beqs xs ys
  | _, _ => false
end
def D.isNon : D → Bool
  | .non => true
  | _ => false
/-- stable insertion sort -/
def ins (lt : D → D → Bool) (x : D) : List D → List D
  | [] => [x]
  | y :: ys => if lt y x then y :: ins lt x ys else x :: y :: ys
def isort (lt : D → D → Bool) : List D → List D
  | [] => []
  | x :: xs => ins lt x (isort lt xs)

/-! ### the syntax -/
inductive Bop where
  | add | sub | mul (m : Bool) | fdiv | mod | pow
inductive Cop where
  | lt | le | gt | ge | eq | ne | isin | notin
inductive Ty where
  | int | bool | tuple | list | str | exc (c : Nat) | valerr
inductive Bi where
  | len | all | any | sum | min | max | sorted | list (m : Bool) | tuple | int | str | abs | dict | sset | lset | lrng (m : Bool) | trng | setM
inductive Me where
  | append | extend | pop | popAt | count | index | tindex | clear | setdef | join | split | strip | part | items
inductive Tg where
  | name (i : Nat) | tup (ts : Tg) | nil | cons (t ts : Tg)
inductive E where
  | var (i : Nat) | con (d : D) | glo (x : Str) (d : D) | fnv (f : Nat)
  | nil | cons (e es : E)
  | tup (es : E) | lst (m : Bool) (es : E)
  | bin (o : Bop) (a b : E)
  | neg (a : E) | not (a : E) | and (a b : E) | or (a b : E) | orV (a b : E)
  | cmp (o : Cop) (a b : E) | chain (o p : Cop) (a b c : E) | chn (o p q : Cop) (a b c d : E)
  | isN (a : E) | notN (a : E)
  | ite (c a b : E)
  | call (f : Nat) (es : E) | callV (fs : List Nat) (f es : E)
  | bi (b : Bi) (es : E) | bi2 (b : Bi) (e : E) | isi (t : Ty) (e : E)
  | me (m : Me) (o es : E)
  | idx (a i : E) | sl (a lo hi : E)
  | lc (m : Bool) (own : List Nat) (t : Tg) (it c e : E)
  | rng (a : E) | rng2 (a b : E) | enu (a : E) | zip (a b : E)
  | fld (o : E) (f : Str) | dic | nev
  | make (c : Nat) (es : E) | omet (c f : Nat) (o es : E)
inductive S where
  | nil | cons (s r : S)
  | pass | brk | cont | nev
  | expr (e : E) | ret (e : E) | retN
  | asg (t : Tg) (e : E)
  | par (i j : Nat) (a b : E)
  | setI (o i e : E) | setF (o : E) (f : Str) (e : E)
  | ite (c : E) (a b : S)
  | for_ (t : Tg) (it : E) (b : S)
  | while_ (c : E) (b : S)
  | raise (c : Nat)
  | tryAs (n i : Nat) (b : S) (f : Nat) | tryC (n : Nat) (b s : S)

/-- where a statement leaves off -/
inductive Out where
  | next (env : En) (st : Store) | ret (d : D) (st : Store) | brk (env : En) (st : Store) | cont (env : En) (st : Store) | exc (c : Nat) (env : En) (st : Store) | err

/-! ### lists and stores -/
def obL (st : Store) (n : Nat) : Option (List D) := match st[n]? with
  | some (.lst xs) => some xs
  | _ => none
def asL (st : Store) : D → Option (List D)
  | .lst xs => some xs
  | .ob n => obL st n
  | _ => none
/-- a list or a tuple -/
def asQ (st : Store) : D → Option (List D)
  | .tup xs => some xs
  | d => asL st d
/-- a list object is looked through -/
def vw (st : Store) : D → D
  | .ob n => (match obL st n with
    | some xs => .lst xs
    | none => .ob n)
  | d => d
def maxLen : Nat := 16777216
/-- a new list -/
def newL (m : Bool) (xs : List D) (st : Store) : Res D :=
  if xs.length ≤ maxLen then (if m then .ok (.ob st.length) (st ++ [.lst xs]) else .ok (.lst xs) st) else .err
def newT (xs : List D) (st : Store) : Res D := if xs.length ≤ maxLen then .ok (.tup xs) st else .err
def dInts : List D → Option (List Int)
  | [] => some []
  | .int i :: r => (dInts r).map (i :: ·)
  | _ :: _ => none
def dBools : List D → Option (List Bool)
  | [] => some []
  | .bl b :: r => (dBools r).map (b :: ·)
  | _ :: _ => none

/-! ### operators -/
def pBin : Bop → D → D → Store → Res D
  | .add, .int i, .int j, st => .ok (.int (i + j)) st
  | .add, .str x, .str y, st => if x.length + y.length ≤ maxLen then .ok (.str (x ++ y)) st else .err
  | .add, .tup xs, .tup ys, st => newT (xs ++ ys) st
  | .add, a, b, st => (match asL st a, asL st b with
    | some xs, some ys => newL false (xs ++ ys) st
    | _, _ => .err)
  | .sub, .int i, .int j, st => .ok (.int (i - j)) st
  | .mul _, .int i, .int j, st => if (-(2 ^ 64) < i ∧ i < 2 ^ 64) ∨ (-(2 ^ 64) < j ∧ j < 2 ^ 64) then .ok (.int (i * j)) st else .err
  | .mul _, .tup xs, .int k, st => if xs.length ≠ 0 ∧ 2 ≤ k ∧ k ≤ 1000 ∧ xs.length ≤ 1000 then newT (List.replicate k.toNat xs).flatten st else .err
  | .mul m, a, .int k, st => (match asL st a with
    | some xs => if xs.length * k.toNat ≤ maxLen ∧ k < 2 ^ 62 ∧ -(2 ^ 62) < k then newL m (List.replicate k.toNat xs).flatten st else .err
    | none => .err)
  | .fdiv, .int i, .int j, st => if 0 < j ∧ j < 1073741824 then .ok (.int (i / j)) st else .err
  | .mod, .int i, .int j, st => if 0 < j then .ok (.int (i % j)) st else .err
  | .pow, .int i, .int j, st => if 0 ≤ j ∧ j ≤ 1000 ∧ i.natAbs < 2 ^ 64 then .ok (.int (i ^ j.toNat)) st else .err
  | _, _, _, _ => .err
def occ (y x : Str) : Bool := !(Builtin.Str.occurrences y x 0 y.length 1).isEmpty
mutual
/-- no list within -/
def D.hsh : D → Bool
  | .tup xs => hshs xs
  | .non | .bl _ | .int _ | .str _ => true
  | _ => false
def hshs : List D → Bool
  | [] => true
  | x :: xs => x.hsh && hshs xs
end
/-- a key: a tuple, hashable, of a few levels -/
def keyOk (d : D) : Bool := (match d with
  | .tup _ => true
  | _ => false) && d.hsh && decide (d.dep ≤ 8)
def kLook (k : D) : List (D × D) → Option D
  | [] => none
  | (k', v) :: r => if k'.eqv k then some v else kLook k r
def pIn (a b : D) (st : Store) : Option Bool := match a, b with
  | .str x, .str y => some (occ y x)
  | a, .ob n => (match st[n]? with
    | some (.lst ys) => if a.okp && okps ys then some (ys.any fun y => y.eqv a) else none
    | some (.dct kvs) => if keyOk a then some (kLook a kvs).isSome else none
    | _ => none)
  | a, .tup ys => if a.okp && okps ys then some (ys.any fun y => y.eqv a) else none
  | a, .lst ys => if a.okp && okps ys then some (ys.any fun y => y.eqv a) else none
  | _, _ => none
/-- == of the script and [] -/
def scrEq (a b : D) : Option Bool := match a, b with
  | .scr ns, .lst [] => some ns.isEmpty
  | _, _ => none
def pCmp (o : Cop) (a b : D) (st : Store) : Option Bool := match o with
  | .eq => (scrEq a b).orElse fun _ => let x := vw st a; let y := vw st b; if x.okp && y.okp then some (x.eqv y) else none
  | .ne => let x := vw st a; let y := vw st b; if x.okp && y.okp then some (!x.eqv y) else none
  | .lt => if a.okp && b.okp && a.alike b then some (a.lt b) else none
  | .gt => (match a, b with
    | .int i, .int j => some (decide (j < i))
    | _, _ => none)
  | .le => (match a, b with
    | .int i, .int j => some (decide (i ≤ j))
    | _, _ => none)
  | .ge => (match a, b with
    | .int i, .int j => some (decide (j ≤ i))
    | _, _ => none)
  | .isin => pIn a b st
  | .notin => (pIn a b st).map (!·)
def oB (o : Option Bool) (st : Store) : Res D := match o with
  | some b => .ok (.bl b) st
  | none => .err
/-- an index, from the front or from behind -/
def ixOf (n : Nat) (i : Int) : Option Nat := if 0 ≤ i then (if i < n then some i.toNat else none) else (if -(n : Int) ≤ i then some (i + n).toNat else none)
def atD {α : Type} (xs : List α) (i : Int) : Option α := (ixOf xs.length i).bind fun j => xs[j]?
def optR (o : Option D) (st : Store) : Res D := match o with
  | some d => .ok d st
  | none => .err
def pIdx (a i : D) (st : Store) : Res D := match a with
  | .scr ns => (match i with
    | .int i => (match atD ns i with
      | some c => .ok (.int c) st
      | none => .err)
    | _ => .err)
  | .str x => (match i with
    | .int i => (match atD x.cps.toList i with
      | some c => if x.length ≤ maxLen then .ok (.str ⟨#[c]⟩) st else .err
      | none => .err)
    | _ => .err)
  | .tup xs => (match i with
    | .int i => optR (atD xs i) st
    | _ => .err)
  | .lst xs => (match i with
    | .int i => optR (atD xs i) st
    | _ => .err)
  | .ob n => (match st[n]? with
    | some (.lst xs) => (match i with
      | .int i => optR (atD xs i) st
      | _ => .err)
    | some (.dct kvs) => if keyOk i then optR (kLook i kvs) st else .err
    | _ => .err)
  | _ => .err
/-- a bound of a slice: left out, or a number -/
def bnd (n dflt : Nat) : Option Int → Nat
  | none => dflt
  | some i => if i < 0 then (i + n).toNat else min i.toNat n
def cut {α : Type} (xs : List α) (lo hi : Option Int) : List α :=
  let a := bnd xs.length 0 lo
  let b := bnd xs.length xs.length hi
  (xs.drop a).take (b - a)
def pSl (a : D) (lo hi : Option Int) (st : Store) : Res D := match a with
  | .str x => if x.length ≤ maxLen then .ok (.str ⟨(cut x.cps.toList lo hi).toArray⟩) st else .err
  | .tup xs => newT (cut xs lo hi) st
  | .ob n => (match asL st (.ob n) with
    | some xs => newL true (cut xs lo hi) st
    | none => .err)
  | a => (match asL st a with
    | some xs => newL false (cut xs lo hi) st
    | none => .err)

/-! ### built-ins -/
def minI : Int → List Int → Int
  | m, [] => m
  | m, x :: xs => minI (if x < m then x else m) xs
def maxI : Int → List Int → Int
  | m, [] => m
  | m, x :: xs => maxI (if x > m then x else m) xs
/-- the least of alike things, the first of equal ones -/
def minD : D → List D → D
  | m, [] => m
  | m, x :: xs => minD (if x.lt m then x else m) xs
/-- unlike ints, rising -/
def insU (x : Int) : List Int → List Int
  | [] => [x]
  | y :: ys => if x < y then x :: y :: ys else if x = y then y :: ys else y :: insU x ys
def sortU : List Int → List Int
  | [] => []
  | x :: xs => insU x (sortU xs)
def allAlike (xs : List D) : Bool := xs.all fun a => xs.all fun b => a.alike b
def isTupC : D → Bool
  | .tup (_ :: _) => true
  | _ => false
def isTup0 : D → Bool
  | .tup [] => true
  | _ => false
def isTupD : D → Bool
  | .tup _ => true
  | _ => false
/-- what sorted takes: all tuples with an item, or none a tuple, or all tuples, the first one empty -/
def sortable (xs : List D) : Bool := xs.all isTupC || xs.all (fun d => !isTupD d) || ((match xs with
  | d :: _ => isTup0 d
  | [] => false) && xs.all isTupD)
def pSorted (xs : List D) (st : Store) : Res D :=
  if okps xs && allAlike xs && sortable xs then newL false (isort D.lt xs) st else .err
def kPut (k v : D) : List (D × D) → List (D × D)
  | [] => [(k, v)]
  | (k', v') :: r => if k'.eqv k then (k', v) :: r else (k', v') :: kPut k v r
def pairsOf : List D → Option (List (D × D))
  | [] => some []
  | .tup [k, v] :: r => if keyOk k then (pairsOf r).map ((k, v) :: ·) else none
  | _ :: _ => none
def putAll (acc : List (D × D)) : List (D × D) → List (D × D)
  | [] => acc
  | (k, v) :: r => putAll (kPut k v acc) r
def rangeD (lo : Int) : Nat → List D
  | 0 => []
  | n + 1 => .int lo :: rangeD (lo + 1) n
def small (i : Int) : Bool := decide (-(2 ^ 62) ≤ i) && decide (i < 2 ^ 62)
def bLen : List D → Store → Res D
  | [.scr ns], st => .ok (.int ns.length) st
  | [.str x], st => if x.length ≤ maxLen then .ok (.int x.length) st else .err
  | [d], st => (match asQ st d with
    | some xs => .ok (.int xs.length) st
    | none => .err)
  | _, _ => .err
def bAll (f : List Bool → Bool) : List D → Store → Res D
  | [d], st => (match (asL st d).bind dBools with
    | some bs => .ok (.bl (f bs)) st
    | none => .err)
  | _, _ => .err
def bSum : List D → Store → Res D
  | [.tup xs], st => (match dInts xs with
    | some is => .ok (.int is.sum) st
    | none => .err)
  | [d], st => (match (asL st d).bind dInts with
    | some is => .ok (.int is.sum) st
    | none => .err)
  | _, _ => .err
/-- the least of a list of tuples -/
def minTs (st : Store) (d : D) : Res D := match asL st d with
  | some (x :: xs) => if okps (x :: xs) && allAlike (x :: xs) && (x :: xs).all isTupD then .ok (minD x xs) st else .err
  | _ => .err
def bMin : List D → Store → Res D
  | [.int i, .int j], st => .ok (.int (if j < i then j else i)) st
  | [.int i, .int j, .int k], st => .ok (.int (if j < i then (if k < j then k else j) else (if k < i then k else i))) st
  | [d], st => (match (asL st d).bind dInts with
    | some (i :: is) => .ok (.int (minI i is)) st
    | _ => minTs st d)
  | _, _ => .err
def bMax : List D → Store → Res D
  | [.int i, .int j], st => .ok (.int (if j > i then j else i)) st
  | [.int i, .int j, .int k], st => .ok (.int (if j > i then (if k > j then k else j) else (if k > i then k else i))) st
  | [d], st => (match (asL st d).bind dInts with
    | some (i :: is) => .ok (.int (maxI i is)) st
    | _ => .err)
  | _, _ => .err
def bSorted : List D → Store → Res D
  | [d], st => (match asQ st d with
    | some xs => pSorted xs st
    | none => .err)
  | _, _ => .err
def bList (m : Bool) : List D → Store → Res D
  | [d], st => (match asQ st d with
    | some xs => newL m xs st
    | none => .err)
  | _, _ => .err
def bTuple : List D → Store → Res D
  | [.tup xs], st => .ok (.tup xs) st
  | [d], st => (match asL st d with
    | some xs => newT xs st
    | none => .err)
  | _, _ => .err
def bDict : List D → Store → Res D
  | [d], st => (match asQ st d with
    | some xs => (match pairsOf xs with
      | some kvs => if xs.length ≤ maxLen then .ok (.ob st.length) (st ++ [.dct (putAll [] kvs)]) else .err
      | none => .err)
    | none => .err)
  | _, _ => .err
def bInt : List D → Store → Res D
  | [.int i], st => .ok (.int i) st
  | [.bl b], st => .ok (.int (if b then 1 else 0)) st
  | _, _ => .err
def bAbs : List D → Store → Res D
  | [.int i], st => .ok (.int (if i < 0 then -i else i)) st
  | _, _ => .err
def bSset : List D → Store → Res D
  | [.tup xs], st => (match dInts xs with
    | some is => if is.length < 63 then newL false ((sortU is).map .int) st else .err
    | none => .err)
  | _, _ => .err
def bRng (f : List D → Store → Res D) : List D → Store → Res D
  | [.int n], st => if -100000 ≤ n ∧ n ≤ 100000 then f (rangeD 0 n.toNat) st else .err
  | _, _ => .err
def pBi (b : Bi) (ds : List D) (st : Store) : Res D := match b with
  | .len => bLen ds st
  | .all => bAll (fun bs => bs.all id) ds st
  | .any => bAll (fun bs => bs.any id) ds st
  | .sum => bSum ds st
  | .min => bMin ds st
  | .max => bMax ds st
  | .sorted => bSorted ds st
  | .list m => bList m ds st
  | .tuple => bTuple ds st
  | .int => bInt ds st
  | .abs => bAbs ds st
  | .sset => bSset ds st
  | .lrng m => bRng (newL m) ds st
  | .trng => bRng newT ds st
  | .str => .err
  | .dict => bDict ds st
  | .lset => .err
  | .setM => .err
/-- isinstance: the kinds of plain things -/
def kindOf (st : Store) : D → Option Ty
  | .bl _ => some .bool
  | .int _ => some .int
  | .str _ => some .str
  | .tup _ => some .tuple
  | .lst _ => some .list
  | .ob n => (match obL st n with
    | some _ => some .list
    | none => none)
  | .non => some .valerr
  | _ => none
def isK : Ty → Ty → Option Bool
  | .int, .int => some true
  | .int, .bool => some true
  | .int, .exc _ => none
  | .int, _ => some false
  | .bool, .bool => some true
  | .bool, .exc _ => none
  | .bool, _ => some false
  | .tuple, .tuple => some true
  | .tuple, .exc _ => none
  | .tuple, _ => some false
  | .list, .list => some true
  | .list, .exc _ => none
  | .list, _ => some false
  | .str, .str => some true
  | .str, .exc _ => none
  | .str, _ => some false
  | .exc _, _ => none
  | .valerr, _ => none
/-- isinstance(d, t) -/
def pIsi (t : Ty) (d : D) (st : Store) : Option Bool := match d with
  | .ex c => (match t with
    | .exc c' => some (decide (c = c'))
    | .valerr => some true
    | _ => none)
  | d => (kindOf st d).bind (isK t)
def setO (st : Store) (n : Nat) (o : Ob) : Store := st.set n o
def mAppend : D → List D → Store → Res D
  | .ob n, [d], st => (match st[n]? with
    | some (.lst xs) => if xs.length < maxLen then .ok .non (st.set n (.lst (xs ++ [d]))) else .err
    | _ => .err)
  | _, _, _ => .err
def mExtend : D → List D → Store → Res D
  | .ob n, [d], st => (match st[n]? with
    | some (.lst xs) => (match asL st d with
      | some ys => if xs.length + ys.length ≤ maxLen then .ok .non (st.set n (.lst (xs ++ ys))) else .err
      | none => .err)
    | _ => .err)
  | _, _, _ => .err
def mPop : D → List D → Store → Res D
  | .ob n, [], st => (match st[n]? with
    | some (.lst xs) => (match xs[xs.length - 1]? with
      | some d => .ok d (st.set n (.lst xs.dropLast))
      | none => .err)
    | _ => .err)
  | _, _, _ => .err
def mPopAt : D → List D → Store → Res D
  | .ob n, [.int i], st => (match st[n]? with
    | some (.lst xs) => if 0 ≤ i ∧ i < xs.length then (match xs[i.toNat]? with
      | some d => .ok d (st.set n (.lst (xs.eraseIdx i.toNat)))
      | none => .err) else .err
    | _ => .err)
  | _, _, _ => .err
def mClear : D → List D → Store → Res D
  | .ob n, [], st => (match st[n]? with
    | some (.lst _) => .ok .non (st.set n (.lst []))
    | _ => .err)
  | _, _, _ => .err
def mIndex : D → List D → Store → Res D
  | d, [x], st => (match asL st d with
    | some xs => if x.okp && okps xs then (match xs.findIdx? fun y => y.eqv x with
      | some j => .ok (.int (j : Nat)) st
      | none => .err) else .err
    | none => .err)
  | _, _, _ => .err
def mCount : D → List D → Store → Res D
  | d, [x], st => (match asL st d with
    | some xs => if x.okp && okps xs then .ok (.int ((xs.countP fun y => y.eqv x : Nat))) st else .err
    | none => .err)
  | _, _, _ => .err
def pMe (m : Me) (o : D) (ds : List D) (st : Store) : Res D := match m with
  | .append => mAppend o ds st
  | .extend => mExtend o ds st
  | .pop => mPop o ds st
  | .popAt => mPopAt o ds st
  | .clear => mClear o ds st
  | .index => mIndex o ds st
  | .count => mCount o ds st
  | _ => .err
def pSetI (o i d : D) (st : Store) : Option Store := match o with
  | .ob n => (match st[n]? with
    | some (.lst xs) => (match i with
      | .int i => (match ixOf xs.length i with
        | some j => some (st.set n (.lst (xs.set j d)))
        | none => none)
      | _ => none)
    | some (.dct kvs) => if keyOk i && decide (kvs.length < maxLen) then some (st.set n (.dct (kPut i d kvs))) else none
    | _ => none)
  | _ => none

/-! ### targets -/
def Tg.slots : Tg → List Nat
  | .name i => [i]
  | .tup ts => ts.slots
  | .nil => []
  | .cons t ts => t.slots ++ ts.slots
mutual
def asgT : Tg → D → En → Option En
  | .name i, d, env => if i < env.length then some (env.set i (some d)) else none
  | .tup ts, .tup ds, env => asgTs ts ds env
  | .tup ts, .lst ds, env => asgTs ts ds env
  | _, _, _ => none
def asgTs : Tg → List D → En → Option En
  | .nil, [], env => some env
  | .cons t ts, d :: ds, env => (asgT t d env).bind fun env' => asgTs ts ds env'
  | _, _, _ => none
end
def wipeE (env : En) : List Nat → En
  | [] => env
  | v :: vs => (wipeE env vs).set v none

/-! ### walks -/
/-- what is walked: the items, and the objects of the store that must stand still -/
structure Wk where
  items : List D
  src : List (Nat × List D)
def still (st : Store) : List (Nat × List D) → Bool
  | [] => true
  | (n, xs) :: r => (match obL st n with
    | some ys => beqs ys xs
    | none => false) && still st r
def wkOf (st : Store) : D → Option Wk
  | .tup xs => some ⟨xs, []⟩
  | .lst xs => some ⟨xs, []⟩
  | .ob n => (obL st n).map fun xs => ⟨xs, [(n, xs)]⟩
  | _ => none
def enuD (i : Nat) : List D → List D
  | [] => []
  | x :: xs => .tup [.int (i : Int), x] :: enuD (i + 1) xs
def zipD : List D → List D → List D
  | x :: xs, y :: ys => .tup [x, y] :: zipD xs ys
  | _, _ => []
/-- a comprehension's turns: body gives the new item, if any -/
def lcLoop (src : List (Nat × List D)) (body : D → Store → Res (Option D)) : List D → List D → Store → Res (List D)
  | [], acc, st => if still st src then .ok acc.reverse st else .err
  | x :: xs, acc, st => if still st src then (match body x st with
      | .ok (some d) st' => lcLoop src body xs (d :: acc) st'
      | .ok none st' => lcLoop src body xs acc st'
      | _ => .err) else .err
/-- a loop's turns -/
def forLoop (src : List (Nat × List D)) (body : D → En → Store → Out) : List D → En → Store → Out
  | [], env, st => if still st src then .next env st else .err
  | x :: xs, env, st => if still st src then (match body x env st with
      | .next env' st' => forLoop src body xs env' st'
      | .cont env' st' => forLoop src body xs env' st'
      | .brk env' st' => .next env' st'
      | .ret d st' => .ret d st'
      | .exc c env' st' => .exc c env' st'
      | .err => .err) else .err
def whLoop (cond : En → Store → Res Bool) (body : En → Store → Out) : Nat → En → Store → Out
  | 0, _, _ => .err
  | n + 1, env, st => match cond env st with
    | .ok true st1 => (match body env st1 with
      | .next env' st' => whLoop cond body n env' st'
      | .cont env' st' => whLoop cond body n env' st'
      | .brk env' st' => .next env' st'
      | .ret d st' => .ret d st'
      | .exc c env' st' => .exc c env' st'
      | .err => .err)
    | .ok false st1 => .next env st1
    | .exc c st1 => .exc c env st1
    | .err => .err

/-! ### the evaluator -/
/-- a primitive raises nothing -/
def prim (r : Res D) : Res D := match r with
  | .ok d st => .ok d st
  | _ => .err
abbrev Calls := Nat → List D → Store → Res D
def boolR (r : Res D) : Res Bool := r.bind fun d st => match d with
  | .bl b => .ok b st
  | _ => .err
def optI : D → Option Int
  | .int i => some i
  | _ => none
mutual
def ev (C : Calls) : E → En → Store → Res D
  | .var i, env, st => (match env[i]? with
    | some (some d) => .ok d st
    | _ => .err)
  | .con d, _, st => .ok d st
  | .glo _ d, _, st => .ok d st
  | .fnv f, _, st => .ok (.fn f) st
  | .tup es, env, st => (evs C es env st).bind fun ds st1 => prim (newT ds st1)
  | .lst m es, env, st => (evs C es env st).bind fun ds st1 => prim (newL m ds st1)
  | .bin o a b, env, st => (ev C a env st).bind fun x st1 => (ev C b env st1).bind fun y st2 => prim (pBin o x y st2)
  | .neg a, env, st => (ev C a env st).bind fun x st1 => match x with
    | .int i => .ok (.int (-i)) st1
    | _ => .err
  | .not a, env, st => (boolR (ev C a env st)).bind fun b st1 => .ok (.bl (!b)) st1
  | .and a b, env, st => (boolR (ev C a env st)).bind fun c st1 => if c then ev C b env st1 else .ok (.bl false) st1
  | .or a b, env, st => (boolR (ev C a env st)).bind fun c st1 => if c then .ok (.bl true) st1 else ev C b env st1
  | .orV a b, env, st => (ev C a env st).bind fun x st1 => match x with
    | .non => ev C b env st1
    | .int i => if i = 0 then ev C b env st1 else .ok (.int i) st1
    | _ => .err
  | .cmp o a b, env, st => (ev C a env st).bind fun x st1 => (ev C b env st1).bind fun y st2 => oB (pCmp o x y st2) st2
  | .chain o p a b c, env, st => (ev C a env st).bind fun x st1 => (ev C b env st1).bind fun y st2 => match pCmp o x y st2 with
    | some true => (ev C c env st2).bind fun z st3 => oB (pCmp p y z st3) st3
    | some false => .ok (.bl false) st2
    | none => .err
  | .chn o p q a b c d, env, st => (ev C a env st).bind fun x st1 => (ev C b env st1).bind fun y st2 => match pCmp o x y st2 with
    | some true => (ev C c env st2).bind fun z st3 => (match pCmp p y z st3 with
      | some true => (ev C d env st3).bind fun w st4 => oB (pCmp q z w st4) st4
      | some false => .ok (.bl false) st3
      | none => .err)
    | some false => .ok (.bl false) st2
    | none => .err
  | .isN a, env, st => (ev C a env st).bind fun x st1 => .ok (.bl x.isNon) st1
  | .notN a, env, st => (ev C a env st).bind fun x st1 => .ok (.bl (!x.isNon)) st1
  | .ite c a b, env, st => (boolR (ev C c env st)).bind fun k st1 => if k then ev C a env st1 else ev C b env st1
  | .call f es, env, st => (evs C es env st).bind fun ds st1 => C f ds st1
  | .callV fs f es, env, st => (ev C f env st).bind fun x st1 => match x with
    | .fn n => if fs.contains n then (evs C es env st1).bind fun ds st2 => C n ds st2 else .err
    | _ => .err
  | .bi b es, env, st => (evs C es env st).bind fun ds st1 => prim (pBi b ds st1)
  | .bi2 b e, env, st => (ev C e env st).bind fun d st1 => prim (pBi b [d] st1)
  | .isi t e, env, st => (ev C e env st).bind fun x st1 => oB (pIsi t x st1) st1
  | .me m o es, env, st => (ev C o env st).bind fun x st1 => if (asL st1 x).isSome then (evs C es env st1).bind fun ds st2 => prim (pMe m x ds st2) else .err
  | .idx a i, env, st => (ev C a env st).bind fun x st1 => (ev C i env st1).bind fun y st2 => prim (pIdx x y st2)
  | .sl a lo hi, env, st => (ev C a env st).bind fun x st1 => (evo C lo env st1).bind fun l st2 => (evo C hi env st2).bind fun h st3 => prim (pSl x l h st3)
  | .lc m own t it c e, env, st => (evw C it env st).bind fun w st1 =>
      (lcLoop w.src (fun x st2 => match asgT t x (wipeE env own) with
        | none => .err
        | some env' => (evt C c env' st2).bind fun k st3 => if k then (ev C e env' st3).bind fun d st4 => .ok (some d) st4 else .ok none st3) w.items [] st1).bind fun ds st5 => prim (newL m ds st5)
  | .fld o f, env, st => (ev C o env st).bind fun x st1 => match x with
    | .ob n => (match st1[n]? with
      | some (.ins _ fs) => (match fs.lookup f with
        | some d => .ok d st1
        | none => .err)
      | _ => .err)
    | _ => .err
  | .dic, _, st => .ok (.ob st.length) (st ++ [.dct []])
  | .nev, _, _ => .err
  | .make _ _, _, _ => .err
  | .omet _ _ _ _, _, _ => .err
  | .nil, _, _ => .err
  | .cons _ _, _, _ => .err
  | .rng _, _, _ => .err
  | .rng2 _ _, _, _ => .err
  | .enu _, _, _ => .err
  | .zip _ _, _, _ => .err
/-- arguments -/
def evs (C : Calls) : E → En → Store → Res (List D)
  | .cons e es, env, st => (ev C e env st).bind fun d st1 => (evs C es env st1).bind fun ds st2 => .ok (d :: ds) st2
  | .nil, _, st => .ok [] st
  | _, _, _ => .err
/-- a bound of a slice -/
def evo (C : Calls) : E → En → Store → Res (Option Int)
  | .nil, _, st => .ok none st
  | .cons e .nil, env, st => (ev C e env st).bind fun d st1 => match d with
    | .int i => .ok (some i) st1
    | _ => .err
  | _, _, _ => .err
/-- a comprehension's test -/
def evt (C : Calls) : E → En → Store → Res Bool
  | .nil, _, st => .ok true st
  | .cons e .nil, env, st => boolR (ev C e env st)
  | _, _, _ => .err
/-- what is walked -/
def evw (C : Calls) : E → En → Store → Res Wk
  | .rng a, env, st => (ev C a env st).bind fun x st1 => match x with
    | .int n => if small n then .ok ⟨rangeD 0 n.toNat, []⟩ st1 else .err
    | _ => .err
  | .rng2 a b, env, st => (ev C a env st).bind fun x st1 => (ev C b env st1).bind fun y st2 => match x, y with
    | .int i, .int j => if small i && small j then .ok ⟨rangeD i (j - i).toNat, []⟩ st2 else .err
    | _, _ => .err
  | .enu a, env, st => (ev C a env st).bind fun x st1 => match wkOf st1 x with
    | some w => .ok ⟨enuD 0 w.items, w.src⟩ st1
    | none => .err
  | .zip a b, env, st => (ev C a env st).bind fun x st1 => (ev C b env st1).bind fun y st2 => match wkOf st2 x, wkOf st2 y with
    | some w, some v => .ok ⟨zipD w.items v.items, w.src ++ v.src⟩ st2
    | _, _ => .err
  | .cons a .nil, env, st => (ev C a env st).bind fun x st1 => match wkOf st1 x with
    | some w => .ok w st1
    | none => .err
  | _, _, _ => .err
end
def evB (C : Calls) (e : E) (env : En) (st : Store) : Res Bool := boolR (ev C e env st)

/-- turns of a while at most -/
def whFuel : Nat := 3000
/-- exc: the classes under LotError are all; class 0 is LotError itself -/
def exec (C : Calls) : S → En → Store → Out
  | .nil, env, st => .next env st
  | .cons s r, env, st => (match exec C s env st with
    | .next env' st' => exec C r env' st'
    | o => o)
  | .pass, env, st => .next env st
  | .nev, _, _ => .err
  | .brk, env, st => .brk env st
  | .cont, env, st => .cont env st
  | .expr e, env, st => (match ev C e env st with
    | .ok _ st1 => .next env st1
    | .exc c st1 => .exc c env st1
    | .err => .err)
  | .ret e, env, st => (match ev C e env st with
    | .ok d st1 => .ret d st1
    | .exc c st1 => .exc c env st1
    | .err => .err)
  | .retN, _, st => .ret .non st
  | .asg t e, env, st => (match ev C e env st with
    | .ok d st1 => (match asgT t d env with
      | some env' => .next env' st1
      | none => .err)
    | .exc c st1 => .exc c env st1
    | .err => .err)
  | .par i j a b, env, st => (match evs C (.cons a (.cons b .nil)) env st with
    | .ok [x, y] st1 => if i < env.length ∧ j < env.length then .next ((env.set i (some x)).set j (some y)) st1 else .err
    | .ok _ _ => .err
    | .exc c st1 => .exc c env st1
    | .err => .err)
  | .setI o i e, env, st => (match ev C e env st with
    | .ok d st1 => (match ev C o env st1 with
      | .ok x st2 => (match ev C i env st2 with
        | .ok y st3 => (match pSetI x y d st3 with
          | some st4 => .next env st4
          | none => .err)
        | .exc c st3 => .exc c env st3
        | .err => .err)
      | .exc c st2 => .exc c env st2
      | .err => .err)
    | .exc c st1 => .exc c env st1
    | .err => .err)
  | .setF _ _ _, _, _ => .err
  | .ite c a b, env, st => (match evB C c env st with
    | .ok true st1 => exec C a env st1
    | .ok false st1 => exec C b env st1
    | .exc k st1 => .exc k env st1
    | .err => .err)
  | .for_ t it b, env, st => (match evw C it env st with
    | .ok w st1 => forLoop w.src (fun x env1 st2 => match asgT t x env1 with
        | some env2 => exec C b env2 st2
        | none => .err) w.items env st1
    | .exc c st1 => .exc c env st1
    | .err => .err)
  | .while_ c b, env, st => whLoop (evB C c) (exec C b) whFuel env st
  | .raise c, env, st => .exc c env st
  | .tryAs n i b f, env, st => (match exec C b env st with
    | .exc c env' st' => if c < n ∧ i < env'.length then (match C f [.ex c] [] with
      | .ok d _ => if d.isP then .ret d st' else .err
      | _ => .err) else .err
    | o => o)
  | .tryC n b s, env, st => (match exec C b env st with
    | .exc c env' st' => if c < n then (match exec C s env' st' with
      | .exc _ _ _ => .err
      | o => o) else .err
    | o => o)

/-- a def: how many parameters, how many slots, the body -/
structure Df where
  ps : Nat
  n : Nat
  body : S
def runDf (C : Calls) (d : Df) (ds : List D) (st : Store) : Res D :=
  if ds.length = d.ps then (match exec C d.body (ds.map some ++ List.replicate (d.n - ds.length) none) st with
    | .next _ st1 => .ok .non st1
    | .ret x st1 => .ok x st1
    | .exc c _ st1 => .exc c st1
    | _ => .err) else .err
/-- calls, so deep at most -/
def callN (T : Nat → Option Df) : Nat → Calls
  | 0 => fun _ _ _ => .err
  | k + 1 => fun f ds st => match T f with
    | some d => runDf (callN T k) d ds st
    | none => .err
end Mn

set_option Elab.async false
set_option linter.all false
set_option maxRecDepth 100000
set_option maxHeartbeats 4000000
/-! Snd1: how values of Mini stand in the abstract heap. -/
namespace Mn
open PySem PySem.Spec PyProof.Rows L2

/-- the world of a proof -/
structure Wd where
  P : Program
  w : World
  K : PySem.W.Frag
  fa : Nat → Addr
  ca : Nat → Addr
  hx : Option (Addr × Nat)
  hid : List Addr
/-- no object of the store, nor hidden -/
def Fz (W : Wd) (ι : List Addr) (a : Addr) : Prop := a ∉ ι ∧ a ∉ W.hid

/-- a tuple that has no dict of its own -/
def TupH (H : Hp) (a : Addr) (vs : List V) : Prop := ∃ o : Obj, H a = some (.frz o (.tup vs)) ∧ o.dict = none
theorem TupH.rd {H : Hp} {a : Addr} {vs : List V} (h : TupH H a vs) : Rd H a (.tup vs) := let ⟨o, e, _⟩ := h; .inr ⟨o, e⟩
theorem TupH.sq {K : PySem.W.Frag} {H : Hp} {a : Addr} {vs : List V} (h : TupH H a vs) : SqT K H a vs := .inl h.rd
/-- the script's list, in the written part or read only -/
def SqS (W : Wd) (ι : List Addr) (H : Hp) (a : Addr) (ns : List Int) : Prop := (Rd H a (.lst (ns.map V.int)) ∧ Fz W ι a) ∨
  ∃ (o : Obj) (its : Array Value) (n : Nat), W.K.lookup a = some o ∧ o.cls = .type "list" ∧ o.dict = none ∧ o.data = .seq its n ∧ its.size ≤ sizeLine ∧ Vals (ns.map V.int) its.toList
mutual
inductive R (W : Wd) (ι : List Addr) (H : Hp) : D → V → Prop
  | non : R W ι H .non .non
  | bl (b : Bool) : R W ι H (.bl b) (.bl b)
  | int (i : Int) : R W ι H (.int i) (.int i)
  | str (x : Str) : R W ι H (.str x) (.str x)
  | tup {a : Addr} {xs : List D} {vs : List V} : TupH H a vs → Fz W ι a → RL W ι H xs vs → R W ι H (.tup xs) (.ref a)
  | lst {a : Addr} {xs : List D} {vs : List V} : Rd H a (.lst vs) → Fz W ι a → RL W ι H xs vs → R W ι H (.lst xs) (.ref a)
  | ob {n : Nat} {a : Addr} : ι[n]? = some a → R W ι H (.ob n) (.ref a)
  | fn (n : Nat) : R W ι H (.fn n) (.ref (W.fa n))
  | ex {a : Addr} {c : Nat} : W.hx = some (a, c) → R W ι H (.ex c) (.ref a)
  | scr {a : Addr} {ns : List Int} : SqS W ι H a ns → R W ι H (.scr ns) (.ref a)
inductive RL (W : Wd) (ι : List Addr) (H : Hp) : List D → List V → Prop
  | nil : RL W ι H [] []
  | cons {d : D} {ds : List D} {v : V} {vs : List V} : R W ι H d v → RL W ι H ds vs → RL W ι H (d :: ds) (v :: vs)
end

/-- from (ι, H) to (ι', H'): what is not an object of the store stands, new objects are new -/
structure Ext (ι : List Addr) (H : Hp) (ι' : List Addr) (H' : Hp) : Prop where
  pre : ∃ r, ι' = ι ++ r
  keep : ∀ a o, H a = some o → a ∉ ι → H' a = some o
  new : ∀ a, a ∈ ι' → a ∈ ι ∨ H a = none
theorem Ext.refl (ι : List Addr) (H : Hp) : Ext ι H ι H := ⟨⟨[], by simp⟩, fun _ _ h _ => h, fun _ h => .inl h⟩
theorem Ext.notin {ι ι' : List Addr} {H H' : Hp} (x : Ext ι H ι' H') {a : Addr} {o : HO} (h : H a = some o) (n : a ∉ ι) : a ∉ ι' := fun m => by
  rcases x.new a m with z | z
  · exact n z
  · rw [h] at z; cases z
theorem Ext.trans {ι ι1 ι2 : List Addr} {H H1 H2 : Hp} (x : Ext ι H ι1 H1) (y : Ext ι1 H1 ι2 H2) : Ext ι H ι2 H2 := by
  obtain ⟨r, e⟩ := x.pre
  obtain ⟨q, e'⟩ := y.pre
  refine ⟨⟨r ++ q, by rw [e', e, List.append_assoc]⟩, fun a o h n => y.keep a o (x.keep a o h n) (x.notin h n), fun a m => ?_⟩
  rcases y.new a m with z | z
  · exact x.new a z
  · cases h : H a with
    | none => exact .inr rfl
    | some o =>
      by_cases n : a ∈ ι
      · exact .inl n
      · rw [x.keep a o h n] at z; cases z
theorem Ext.get {ι ι' : List Addr} {H H' : Hp} (x : Ext ι H ι' H') {n : Nat} {a : Addr} (h : ι[n]? = some a) : ι'[n]? = some a := by
  obtain ⟨r, rfl⟩ := x.pre
  rw [List.getElem?_append_left (List.getElem?_eq_some_iff.mp h).1]
  exact h
theorem Ext.rd {ι ι' : List Addr} {H H' : Hp} (x : Ext ι H ι' H') {a : Addr} {u : HO} (h : Rd H a u) (n : a ∉ ι) : Rd H' a u ∧ a ∉ ι' := by
  rcases h with h | ⟨o, h⟩
  · exact ⟨.inl (x.keep a _ h n), x.notin h n⟩
  · exact ⟨.inr ⟨o, x.keep a _ h n⟩, x.notin h n⟩

mutual
theorem R.mono {W : Wd} {ι ι' : List Addr} {H H' : Hp} (x : Ext ι H ι' H') : ∀ {d : D} {v : V}, R W ι H d v → R W ι' H' d v
  | _, _, .non => .non
  | _, _, .bl b => .bl b
  | _, _, .int i => .int i
  | _, _, .str z => .str z
  | _, _, .tup ⟨o, h, d⟩ n r => .tup ⟨o, x.keep _ _ h n.1, d⟩ ⟨x.notin h n.1, n.2⟩ (r.mono x)
  | _, _, .lst h n r => .lst (x.rd h n.1).1 ⟨(x.rd h n.1).2, n.2⟩ (r.mono x)
  | _, _, .ob h => .ob (x.get h)
  | _, _, .fn n => .fn n
  | _, _, .ex h => .ex h
  | _, _, .scr h => .scr (h.imp (fun h => ⟨(x.rd h.1 h.2.1).1, (x.rd h.1 h.2.1).2, h.2.2⟩) id)
theorem RL.mono {W : Wd} {ι ι' : List Addr} {H H' : Hp} (x : Ext ι H ι' H') : ∀ {ds : List D} {vs : List V}, RL W ι H ds vs → RL W ι' H' ds vs
  | _, _, .nil => .nil
  | _, _, .cons h t => .cons (h.mono x) (t.mono x)
end
section
variable {W : Wd} {ι : List Addr} {H : Hp}
theorem RL.length : ∀ {ds : List D} {vs : List V}, RL W ι H ds vs → ds.length = vs.length
  | _, _, .nil => rfl
  | _, _, .cons _ t => by rw [List.length_cons, List.length_cons, t.length]
theorem RL.append : ∀ {ds es : List D} {vs us : List V}, RL W ι H ds vs → RL W ι H es us → RL W ι H (ds ++ es) (vs ++ us)
  | _, _, _, _, .nil, h => h
  | _, _, _, _, .cons r t, h => .cons r (t.append h)
theorem RL.get : ∀ {ds : List D} {vs : List V} {i : Nat} {d : D}, RL W ι H ds vs → ds[i]? = some d → ∃ v, vs[i]? = some v ∧ R W ι H d v
  | _, _, _, _, .nil, e => by simp at e
  | _, _, 0, _, .cons r _, e => by simp at e; subst e; exact ⟨_, rfl, r⟩
  | _, _, i + 1, d, .cons _ t, e => by
    obtain ⟨v, h1, h2⟩ := RL.get (i := i) (d := d) t (by simpa using e)
    exact ⟨v, by simpa using h1, h2⟩
theorem RL.get' : ∀ {ds : List D} {vs : List V} {i : Nat} {v : V}, RL W ι H ds vs → vs[i]? = some v → ∃ d, ds[i]? = some d ∧ R W ι H d v
  | _, _, _, _, .nil, e => by simp at e
  | _, _, 0, _, .cons r _, e => by simp at e; subst e; exact ⟨_, rfl, r⟩
  | _, _, i + 1, v, .cons _ t, e => by
    obtain ⟨d, h1, h2⟩ := RL.get' (i := i) (v := v) t (by simpa using e)
    exact ⟨d, by simpa using h1, h2⟩
theorem RL.set {d : D} {v : V} (r : R W ι H d v) : ∀ {ds : List D} {vs : List V} (i : Nat), RL W ι H ds vs → RL W ι H (ds.set i d) (vs.set i v)
  | _, _, _, .nil => .nil
  | _, _, 0, .cons _ t => .cons r t
  | _, _, i + 1, .cons q t => .cons q (RL.set r i t)
theorem RL.take : ∀ {ds : List D} {vs : List V} (n : Nat), RL W ι H ds vs → RL W ι H (ds.take n) (vs.take n)
  | _, _, 0, _ => .nil
  | _, _, _ + 1, .nil => .nil
  | _, _, n + 1, .cons r t => .cons r (RL.take n t)
theorem RL.drop : ∀ {ds : List D} {vs : List V} (n : Nat), RL W ι H ds vs → RL W ι H (ds.drop n) (vs.drop n)
  | _, _, 0, r => r
  | _, _, _ + 1, .nil => .nil
  | _, _, n + 1, .cons _ t => RL.drop n t
theorem RL.eraseIdx : ∀ {ds : List D} {vs : List V} (n : Nat), RL W ι H ds vs → RL W ι H (ds.eraseIdx n) (vs.eraseIdx n)
  | _, _, _, .nil => .nil
  | _, _, 0, .cons _ t => t
  | _, _, n + 1, .cons r t => .cons r (RL.eraseIdx n t)
theorem RL.rep {ds : List D} {vs : List V} (r : RL W ι H ds vs) : ∀ n : Nat, RL W ι H (List.replicate n ds).flatten (List.replicate n vs).flatten
  | 0 => .nil
  | n + 1 => by
    rw [List.replicate_succ, List.replicate_succ, List.flatten_cons, List.flatten_cons]
    exact r.append (RL.rep r n)
theorem RL.dInts : ∀ {ds : List D} {vs : List V} {is : List Int}, RL W ι H ds vs → dInts ds = some is → vs = is.map V.int
  | _, _, _, .nil, e => by cases e; rfl
  | _, _, is, .cons (d := d) (ds := ds) r t, e => by
    cases d with
    | int i =>
      cases hs : Mn.dInts ds with
      | none => simp [Mn.dInts, hs] at e
      | some js =>
        simp [Mn.dInts, hs] at e
        subst e
        cases r
        rw [RL.dInts t hs]; rfl
    | _ => simp [Mn.dInts] at e
theorem RL.dBools : ∀ {ds : List D} {vs : List V} {is : List Bool}, RL W ι H ds vs → dBools ds = some is → vs = is.map V.bl
  | _, _, _, .nil, e => by cases e; rfl
  | _, _, is, .cons (d := d) (ds := ds) r t, e => by
    cases d with
    | bl i =>
      cases hs : Mn.dBools ds with
      | none => simp [Mn.dBools, hs] at e
      | some js =>
        simp [Mn.dBools, hs] at e
        subst e
        cases r
        rw [RL.dBools t hs]; rfl
    | _ => simp [Mn.dBools] at e
theorem RL.ofInts : ∀ is : List Int, RL W ι H (is.map D.int) (is.map V.int)
  | [] => .nil
  | i :: is => .cons (.int i) (RL.ofInts is)
end

/-! ### plain data as the layer's data -/
mutual
theorem R.dp {W : Wd} {ι : List Addr} {H : Hp} {K : PySem.W.Frag} : ∀ {d : D} {v : V}, R W ι H d v → d.isP = true → Dp K H v d.toP
  | _, _, .non, _ => .non
  | _, _, .bl b, _ => .bl b
  | _, _, .int i, _ => .int i
  | _, _, .str z, _ => .str z
  | _, _, .tup h _ r, e => .tup h.sq (r.dp (by simpa [D.isP] using e))
  | _, _, .lst h _ r, e => .lst (.inl h) (r.dp (by simpa [D.isP] using e))
  | _, _, .ob _, e => by simp [D.isP] at e
  | _, _, .fn _, e => by simp [D.isP] at e
  | _, _, .ex _, e => by simp [D.isP] at e
  | _, _, .scr _, e => by simp [D.isP] at e
theorem RL.dp {W : Wd} {ι : List Addr} {H : Hp} {K : PySem.W.Frag} : ∀ {ds : List D} {vs : List V}, RL W ι H ds vs → isPs ds = true → DpAll K H vs (toPs ds)
  | _, _, .nil, _ => .nil
  | _, _, .cons r t, e => by
    simp only [isPs, Bool.and_eq_true] at e
    exact .cons (r.dp e.1) (t.dp e.2)
end
mutual
theorem eqv_toP : ∀ (a b : D), a.isP = true → b.isP = true → PyData.eqv a.toP b.toP = a.eqv b
  | .non, b, _, hb => by cases b <;> simp_all [D.isP, D.toP, D.eqv, PyData.eqv]
  | .bl x, b, _, hb => by cases b <;> simp_all [D.isP, D.toP, D.eqv, PyData.eqv] <;> rfl
  | .int x, b, _, hb => by cases b <;> simp_all [D.isP, D.toP, D.eqv, PyData.eqv] <;> rfl
  | .str x, b, _, hb => by cases b <;> simp_all [D.isP, D.toP, D.eqv, PyData.eqv] <;> rfl
  | .tup xs, b, ha, hb => by
    cases b with
    | tup ys => simpa [D.toP, D.eqv, PyData.eqv] using eqvs_toP xs ys (by simpa [D.isP] using ha) (by simpa [D.isP] using hb)
    | _ => simp_all [D.isP, D.toP, D.eqv, PyData.eqv]
  | .lst xs, b, ha, hb => by
    cases b with
    | lst ys => simpa [D.toP, D.eqv, PyData.eqv] using eqvs_toP xs ys (by simpa [D.isP] using ha) (by simpa [D.isP] using hb)
    | _ => simp_all [D.isP, D.toP, D.eqv, PyData.eqv]
  | .ob _, _, h, _ => by simp [D.isP] at h
  | .fn _, _, h, _ => by simp [D.isP] at h
  | .ex _, _, h, _ => by simp [D.isP] at h
  | .scr _, _, h, _ => by simp [D.isP] at h
theorem eqvs_toP : ∀ (a b : List D), isPs a = true → isPs b = true → PyData.eqvAll (toPs a) (toPs b) = eqvs a b
  | [], [], _, _ => by simp [toPs, eqvs, PyData.eqvAll]
  | [], _ :: _, _, _ => by simp [toPs, eqvs, PyData.eqvAll]
  | _ :: _, [], _, _ => by simp [toPs, eqvs, PyData.eqvAll]
  | x :: xs, y :: ys, ha, hb => by
    simp only [isPs, Bool.and_eq_true] at ha hb
    simp [toPs, eqvs, PyData.eqvAll, eqv_toP x y ha.1 hb.1, eqvs_toP xs ys ha.2 hb.2]
end
mutual
theorem beq_eq : ∀ {a b : D}, a.beq b = true → a = b
  | .non, b, h => by cases b <;> simp_all [D.beq]
  | .bl x, b, h => by cases b <;> simp_all [D.beq]
  | .int x, b, h => by cases b <;> simp_all [D.beq]
  | .str x, b, h => by cases b <;> simp_all [D.beq]
  | .ob x, b, h => by cases b <;> simp_all [D.beq]
  | .fn x, b, h => by cases b <;> simp_all [D.beq]
  | .ex x, b, h => by cases b <;> simp_all [D.beq]
  | .scr x, b, h => by cases b <;> simp_all [D.beq]
  | .tup xs, b, h => by
    cases b with
    | tup ys => have e := beqs_eq (a := xs) (b := ys) (by simpa [D.beq] using h); rw [e]
    | _ => simp [D.beq] at h
  | .lst xs, b, h => by
    cases b with
    | lst ys => have e := beqs_eq (a := xs) (b := ys) (by simpa [D.beq] using h); rw [e]
    | _ => simp [D.beq] at h
theorem beqs_eq : ∀ {a b : List D}, beqs a b = true → a = b
  | [], [], _ => rfl
  | [], _ :: _, h => by simp [beqs] at h
  | _ :: _, [], h => by simp [beqs] at h
  | x :: xs, y :: ys, h => by
    simp only [beqs, Bool.and_eq_true] at h
    rw [beq_eq h.1, beqs_eq h.2]
end
mutual
theorem beq_refl : ∀ a : D, a.beq a = true
  | .non | .bl _ | .int _ | .str _ | .ob _ | .fn _ | .ex _ | .scr _ => by simp [D.beq]
  | .tup xs => by simpa [D.beq] using beqs_refl xs
  | .lst xs => by simpa [D.beq] using beqs_refl xs
theorem beqs_refl : ∀ a : List D, beqs a a = true
  | [] => rfl
  | x :: xs => by simp [beqs, beq_refl x, beqs_refl xs]
end

/-! ### keys of dicts -/
mutual
def keyN : D → Option NestedKey
  | .non => some .none
  | .bl b => some (.num (if b then 1 else 0))
  | .int i => some (.num i)
  | .str x => some (.text x)
  | .tup xs => (keyNs xs).map .tup
  | _ => none
def keyNs : List D → Option (List NestedKey)
  | [] => some []
  | x :: xs => (keyN x).bind fun k => (keyNs xs).map (k :: ·)
end

/-! ### the store -/
/-- a dict of the store: kvs at a -/
def DicR (W : Wd) (ι : List Addr) (H : Hp) (kvs : List (D × D)) (a : Addr) : Prop :=
  ∃ (o : Obj) (es : Array DictEntry) (ep : Nat) (xs : List (NestedKey × Addr × Value)), H a = some (.ext fun h => h.get? a = some o) ∧ (a == sysModules) = false ∧ o.ExactDict ∧ o.data = .dict es ep ∧
    es.toList = xs.map (entryOfKey (nestedKind W.P W.w)) ∧ (xs.map (·.1)).Nodup ∧
    Paired (fun (p : D × D) (x : NestedKey × Addr × Value) => keyN p.1 = some x.1 ∧ x.1.depth ≤ 8 ∧ R W ι H p.1 (.ref x.2.1) ∧ ∃ v, R W ι H p.2 v ∧ RelV v x.2.2) kvs xs
def ObR (W : Wd) (ι : List Addr) (H : Hp) : Ob → Addr → Prop
  | .lst xs, a => ∃ vs, H a = some (.lst vs) ∧ RL W ι H xs vs
  | .dct kvs, a => DicR W ι H kvs a
  | .ins _ _, _ => False
structure Sim (W : Wd) (ι : List Addr) (st : Store) (H : Hp) : Prop where
  len : ι.length = st.length
  nd : ι.Nodup
  ob : ∀ (n : Nat) (a : Addr) (o : Ob), ι[n]? = some a → st[n]? = some o → ObR W ι H o a
  hid : ∀ a ∈ W.hid, a ∉ ι ∧ ∃ o, H a = some o
/-- slots -/
structure SimE (W : Wd) (ι : List Addr) (H : Hp) (σ : L2.St) (env : En) : Prop where
  len : env.length = σ.length
  get : ∀ (i : Nat) (d : D), env[i]? = some (some d) → ∃ v, σ[i]? = some (some v) ∧ R W ι H d v
theorem SimE.mono {W : Wd} {ι ι' : List Addr} {H H' : Hp} {σ : L2.St} {env : En} (s : SimE W ι H σ env) (x : Ext ι H ι' H') : SimE W ι' H' σ env :=
  ⟨s.len, fun i d e => let ⟨v, h1, h2⟩ := s.get i d e; ⟨v, h1, h2.mono x⟩⟩
theorem SimE.set {W : Wd} {ι : List Addr} {H : Hp} {σ : L2.St} {env : En} (s : SimE W ι H σ env) {i : Nat} {d : D} {v : V} (r : R W ι H d v) : SimE W ι H (σ.set i (some v)) (env.set i (some d)) := by
  refine ⟨by simp [s.len], fun j e h => ?_⟩
  by_cases hij : i = j
  · subst hij
    by_cases hl : i < env.length
    · rw [List.getElem?_set_self hl] at h
      cases h
      exact ⟨v, List.getElem?_set_self (by rw [← s.len]; exact hl), r⟩
    · rw [List.getElem?_eq_none (by simpa using hl)] at h; cases h
  · rw [List.getElem?_set_ne hij] at h ⊢
    exact s.get j e h
theorem SimE.setN {W : Wd} {ι : List Addr} {H : Hp} {σ : L2.St} {env : En} (s : SimE W ι H σ env) (i : Nat) : SimE W ι H (σ.set i none) (env.set i none) := by
  refine ⟨by simp [s.len], fun j e h => ?_⟩
  by_cases hij : i = j
  · subst hij
    by_cases hl : i < env.length
    · rw [List.getElem?_set_self hl] at h; cases h
    · rw [List.getElem?_eq_none (by simpa using hl)] at h; cases h
  · rw [List.getElem?_set_ne hij] at h ⊢
    exact s.get j e h
theorem SimE.wipe {W : Wd} {ι : List Addr} {H : Hp} {σ : L2.St} {env : En} (s : SimE W ι H σ env) : ∀ vs : List Nat, SimE W ι H (L2.wipe σ vs) (wipeE env vs)
  | [] => s
  | v :: vs => (s.wipe vs).setN v
section
variable {W : Wd} {ι : List Addr} {H : Hp} {st : Store}
theorem Paired.impP {α β : Type} {F G : α → β → Prop} : ∀ {l₁ : List α} {l₂ : List β}, Paired F l₁ l₂ → (∀ a b, F a b → G a b) → Paired G l₁ l₂
  | _, _, .nil, _ => .nil
  | _, _, .cons r t, f => .cons (f _ _ r) (Paired.impP t f)
theorem Sim.no (s : Sim W ι st H) {n : Nat} {a : Addr} (h : ι[n]? = some a) : ∃ o, H a = some o := by
  have hl : n < st.length := by rw [← s.len]; exact (List.getElem?_eq_some_iff.mp h).1
  have q := s.ob n a _ h (List.getElem?_eq_getElem hl)
  cases e : st[n] with
  | lst xs => rw [e] at q; obtain ⟨vs, q, _⟩ := q; exact ⟨_, q⟩
  | dct kvs => rw [e] at q; obtain ⟨_, _, _, _, q, _⟩ := q; exact ⟨_, q⟩
  | ins c fs => rw [e] at q; exact q.elim
theorem Sim.fresh (s : Sim W ι st H) {p : Addr} (h : H p = none) : Fz W ι p := by
  refine ⟨fun m => ?_, fun m => ?_⟩
  · obtain ⟨n, hn⟩ := List.getElem?_of_mem m
    obtain ⟨o, e⟩ := s.no hn
    rw [h] at e
    cases e
  · obtain ⟨_, o, e⟩ := s.hid p m
    rw [h] at e
    cases e
/-- a new object that is not of the store -/
theorem Ext.upd (s : Sim W ι st H) {p : Addr} {o : HO} (h : H p = none) : Ext ι H ι (upd H p o) :=
  ⟨⟨[], by simp⟩, fun a u e _ => by rw [upd_ne (ne_of_none e h)]; exact e, fun _ m => .inl m⟩
theorem ObR.mono {ι' : List Addr} {H' : Hp} (x : Ext ι H ι' H') {o : Ob} {a : Addr} (hk : ∀ u, H a = some u → H' a = some u) (h : ObR W ι H o a) : ObR W ι' H' o a := by
  cases o with
  | lst xs => obtain ⟨vs, h, r⟩ := h; exact ⟨vs, hk _ h, r.mono x⟩
  | dct kvs =>
    obtain ⟨o, es, ep, xs, h, h1, h2, h3, h4, h5, h6⟩ := h
    exact ⟨o, es, ep, xs, hk _ h, h1, h2, h3, h4, h5, Paired.impP h6 fun p q ⟨k1, k2, k3, v, k4, k5⟩ => ⟨k1, k2, k3.mono x, v, k4.mono x, k5⟩⟩
  | ins c fs => exact h.elim
theorem Sim.upd (s : Sim W ι st H) {p : Addr} {o : HO} (h : H p = none) : Sim W ι st (upd H p o) := by
  refine ⟨s.len, s.nd, fun n a ob h1 h2 => (s.ob n a ob h1 h2).mono (Ext.upd s h) fun u e => ?_, fun a ha => ?_⟩
  · rw [upd_ne (ne_of_none e h)]; exact e
  · obtain ⟨h1, o', h2⟩ := s.hid a ha
    exact ⟨h1, o', by rw [upd_ne (ne_of_none h2 h)]; exact h2⟩
/-- a new object of the store -/
theorem Ext.push (s : Sim W ι st H) {p : Addr} {o : HO} (h : H p = none) : Ext ι H (ι ++ [p]) (L2.upd H p o) :=
  ⟨⟨[p], rfl⟩, fun a u e _ => by rw [upd_ne (ne_of_none e h)]; exact e, fun a m => by
    rcases List.mem_append.mp m with z | z
    · exact .inl z
    · have : a = p := by simpa using z
      subst this; exact .inr h⟩
theorem Sim.push (s : Sim W ι st H) {p : Addr} {o : HO} {ob : Ob} (h : H p = none) (q : ObR W (ι ++ [p]) (L2.upd H p o) ob p) : Sim W (ι ++ [p]) (st ++ [ob]) (L2.upd H p o) := by
  refine ⟨by simp [s.len], ?_, fun n a o' h1 h2 => ?_, fun a ha => ?_⟩
  rotate_left 2
  · obtain ⟨h1, o', h2⟩ := s.hid a ha
    refine ⟨fun m => ?_, o', by rw [upd_ne (ne_of_none h2 h)]; exact h2⟩
    rcases List.mem_append.mp m with z | z
    · exact h1 z
    · have : a = p := by simpa using z
      subst this; rw [h] at h2; cases h2
  · rw [List.nodup_append]
    exact ⟨s.nd, by simp, fun a ha b hb => by
      have : b = p := by simpa using hb
      subst this
      intro e; subst e; exact (s.fresh h).1 ha⟩
  · by_cases hn : n < ι.length
    · rw [List.getElem?_append_left hn] at h1
      rw [List.getElem?_append_left (by rw [← s.len]; exact hn)] at h2
      refine (s.ob n a o' h1 h2).mono (Ext.push s h) fun u e => ?_
      rw [upd_ne (ne_of_none e h)]; exact e
    · rw [List.getElem?_append_right (by omega)] at h1
      rw [List.getElem?_append_right (by rw [← s.len]; omega)] at h2
      have e0 : n - ι.length = 0 := by
        rcases Nat.eq_zero_or_pos (n - ι.length) with z | z
        · exact z
        · rw [List.getElem?_eq_none (by simp; omega)] at h1; cases h1
      rw [e0] at h1
      rw [← s.len, e0] at h2
      simp at h1 h2
      subst h1; subst h2
      exact q
/-- an object of the store is written -/
theorem Ext.write {n : Nat} {a : Addr} {o : HO} (h : ι[n]? = some a) : Ext ι H ι (L2.upd H a o) :=
  ⟨⟨[], by simp⟩, fun b u e m => by
    have : b ≠ a := fun z => m (by subst z; exact List.mem_of_getElem? h)
    rw [upd_ne this]; exact e, fun _ m => .inl m⟩
theorem Sim.write (s : Sim W ι st H) {n : Nat} {a : Addr} {o : HO} {ob : Ob} (h : ι[n]? = some a) (q : ObR W ι (L2.upd H a o) ob a) : Sim W ι (st.set n ob) (L2.upd H a o) := by
  refine ⟨by simp [s.len], s.nd, fun m b o' h1 h2 => ?_, fun b hb => ?_⟩
  rotate_left 1
  · obtain ⟨h1, u, h2⟩ := s.hid b hb
    exact ⟨h1, u, by rw [upd_ne fun z => h1 (by rw [z]; exact List.mem_of_getElem? h)]; exact h2⟩
  by_cases hm : n = m
  · subst hm
    have hl : n < st.length := by rw [← s.len]; exact (List.getElem?_eq_some_iff.mp h).1
    rw [List.getElem?_set_self hl] at h2
    rw [h] at h1
    cases h1; cases h2
    exact q
  · rw [List.getElem?_set_ne hm] at h2
    have hab : b ≠ a := fun z => by
      subst z
      obtain ⟨l1, e1⟩ := List.getElem?_eq_some_iff.mp h
      obtain ⟨l2, e2⟩ := List.getElem?_eq_some_iff.mp h1
      exact hm ((List.getElem_inj s.nd).mp (e1.trans e2.symm))
    refine (s.ob m b o' h1 h2).mono (Ext.write h) fun u e => ?_
    rw [upd_ne hab]; exact e
end

/-! ### what is hidden -/
/-- one more address is hidden -/
def Wd.hide (W : Wd) (p : Addr) : Wd := { W with hid := p :: W.hid }
mutual
theorem R.hide {W : Wd} {ι : List Addr} {H : Hp} {p : Addr} (hp : H p = none) : ∀ {d : D} {v : V}, R W ι H d v → R (W.hide p) ι H d v
  | _, _, .non => .non
  | _, _, .bl b => .bl b
  | _, _, .int i => .int i
  | _, _, .str z => .str z
  | _, _, .tup ⟨o, h, d⟩ n r => .tup ⟨o, h, d⟩ ⟨n.1, fun m => by
      rcases List.mem_cons.mp m with z | z
      · rw [z, hp] at h; cases h
      · exact n.2 z⟩ (r.hide hp)
  | _, _, .lst h n r => .lst h ⟨n.1, fun m => by
      rcases List.mem_cons.mp m with z | z
      · rcases h with h | ⟨o, h⟩ <;> (rw [z, hp] at h; cases h)
      · exact n.2 z⟩ (r.hide hp)
  | _, _, .ob h => .ob h
  | _, _, .fn n => .fn (W := W.hide p) n
  | _, _, .ex h => .ex (W := W.hide p) h
  | _, _, .scr h => .scr (by
      rcases h with ⟨h, n⟩ | h
      · refine .inl ⟨h, n.1, fun m => ?_⟩
        rcases List.mem_cons.mp m with z | z
        · rcases h with h | ⟨o, h⟩ <;> (rw [z, hp] at h; cases h)
        · exact n.2 z
      · exact .inr h)
theorem RL.hide {W : Wd} {ι : List Addr} {H : Hp} {p : Addr} (hp : H p = none) : ∀ {ds : List D} {vs : List V}, RL W ι H ds vs → RL (W.hide p) ι H ds vs
  | _, _, .nil => .nil
  | _, _, .cons r t => .cons (r.hide hp) (t.hide hp)
end
mutual
/-- the hidden one changes -/
theorem R.updH {W : Wd} {ι : List Addr} {H : Hp} {p : Addr} {o : HO} : ∀ {d : D} {v : V}, R (W.hide p) ι H d v → R (W.hide p) ι (upd H p o) d v
  | _, _, .non => .non
  | _, _, .bl b => .bl b
  | _, _, .int i => .int i
  | _, _, .str z => .str z
  | _, _, .tup ⟨o, h, d⟩ n r => .tup ⟨o, by rw [upd_ne fun z => n.2 (by rw [z]; exact List.mem_cons_self)]; exact h, d⟩ n r.updH
  | _, _, .lst h n r => .lst (by
      have ne : ∀ {a : Addr}, a ∉ (W.hide p).hid → a ≠ p := fun q z => q (by rw [z]; exact List.mem_cons_self)
      rcases h with h | ⟨o', h⟩
      · exact .inl (by rw [upd_ne (ne n.2)]; exact h)
      · exact .inr ⟨o', by rw [upd_ne (ne n.2)]; exact h⟩) n r.updH
  | _, _, .ob h => .ob h
  | _, _, .fn n => .fn n
  | _, _, .ex h => .ex h
  | _, _, .scr h => .scr (by
      rcases h with ⟨h, n⟩ | h
      · have ne : ∀ {a : Addr}, a ∉ (W.hide p).hid → a ≠ p := fun q z => q (by rw [z]; exact List.mem_cons_self)
        refine .inl ⟨?_, n⟩
        rcases h with h | ⟨o', h⟩
        · exact .inl (by rw [upd_ne (ne n.2)]; exact h)
        · exact .inr ⟨o', by rw [upd_ne (ne n.2)]; exact h⟩
      · exact .inr h)
theorem RL.updH {W : Wd} {ι : List Addr} {H : Hp} {p : Addr} {o : HO} : ∀ {ds : List D} {vs : List V}, RL (W.hide p) ι H ds vs → RL (W.hide p) ι (upd H p o) ds vs
  | _, _, .nil => .nil
  | _, _, .cons r t => .cons r.updH t.updH
end
theorem Fz.show {W : Wd} {ι : List Addr} {p a : Addr} (m : Bool) (n : Fz (W.hide p) ι a) : Fz W (if m then ι ++ [p] else ι) a := by
  refine ⟨?_, fun z => n.2 (List.mem_cons_of_mem _ z)⟩
  cases m
  · exact n.1
  · intro z
    rcases List.mem_append.mp z with z | z
    · exact n.1 z
    · exact n.2 (by rw [show a = p by simpa using z]; exact List.mem_cons_self)
mutual
/-- hidden no more: it becomes an object of the store, or none -/
theorem R.show {W : Wd} {ι : List Addr} {H : Hp} {p : Addr} (m : Bool) : ∀ {d : D} {v : V}, R (W.hide p) ι H d v → R W (if m then ι ++ [p] else ι) H d v
  | _, _, .non => .non
  | _, _, .bl b => .bl b
  | _, _, .int i => .int i
  | _, _, .str z => .str z
  | _, _, .tup h n r => .tup h (Fz.show m n) (r.show m)
  | _, _, .lst h n r => .lst h (Fz.show m n) (r.show m)
  | _, _, .ob h => .ob (by
      cases m
      · exact h
      · show (ι ++ [p])[_]? = _
        rw [List.getElem?_append_left (List.getElem?_eq_some_iff.mp h).1]; exact h)
  | _, _, .fn n => .fn (W := W) n
  | _, _, .ex h => .ex (W := W) h
  | _, _, .scr h => .scr (by
      rcases h with ⟨h, n⟩ | h
      · exact .inl ⟨h, Fz.show m n⟩
      · exact .inr h)
theorem RL.show {W : Wd} {ι : List Addr} {H : Hp} {p : Addr} (m : Bool) : ∀ {ds : List D} {vs : List V}, RL (W.hide p) ι H ds vs → RL W (if m then ι ++ [p] else ι) H ds vs
  | _, _, .nil => .nil
  | _, _, .cons r t => .cons (r.show m) (t.show m)
end
end Mn

set_option Elab.async false
set_option linter.all false
set_option maxRecDepth 100000
set_option maxHeartbeats 4000000
/-! Snd2: the primitives of Mini keep what the layer's rules say. -/
namespace Mn
open PySem PySem.Spec PyProof.Rows L2

def PostR (W : Wd) (ι : List Addr) (H : Hp) (Q : VK) : Res D → Prop
  | .ok d st' => ∀ ι' H' v, Ext ι H ι' H' → Sim W ι' st' H' → R W ι' H' d v → Q v H'
  | _ => False
section
variable {W : Wd} {ι : List Addr} {H : Hp} {st : Store} {Q : VK}
theorem maxLen_eq : maxLen = sizeLine := by rw [sizeLine_eq]; rfl
theorem PostR.here {d : D} {v : V} (p : PostR W ι H Q (.ok d st)) (s : Sim W ι st H) (r : R W ι H d v) : Q v H := p ι H v (Ext.refl _ _) s r
theorem PostR.newT {xs : List D} {vs : List V} (p : PostR W ι H Q (Mn.newT xs st)) (s : Sim W ι st H) (r : RL W ι H xs vs) : vs.length ≤ sizeLine ∧ ∀ q (o : Obj), H q = none → o.dict = none → Q (.ref q) (upd H q (.frz o (.tup vs))) := by
  unfold Mn.newT at p
  split at p
  · rename_i hz
    refine ⟨by rw [← r.length, ← maxLen_eq]; exact hz, fun q o hq hd => ?_⟩
    have x := Ext.upd s (o := .frz o (.tup vs)) hq
    exact p ι _ _ x (s.upd hq) (.tup ⟨o, upd_same, hd⟩ (s.fresh hq) (r.mono x))
  · exact p.elim
theorem PostR.newL {m : Bool} {xs : List D} {vs : List V} (p : PostR W ι H Q (Mn.newL m xs st)) (s : Sim W ι st H) (r : RL W ι H xs vs) : vs.length ≤ sizeLine ∧ ∀ q, H q = none → Q (.ref q) (upd H q (.lst vs)) := by
  unfold Mn.newL at p
  split at p
  · rename_i hz
    refine ⟨by rw [← r.length, ← maxLen_eq]; exact hz, fun q hq => ?_⟩
    cases m with
    | false =>
      have x := Ext.upd s (o := .lst vs) hq
      exact p ι _ _ x (s.upd hq) (.lst (.inl upd_same) (s.fresh hq) (r.mono x))
    | true =>
      have x := Ext.push s (o := .lst vs) hq
      refine p _ _ _ x (s.push hq ⟨vs, upd_same, r.mono x⟩) (.ob ?_)
      rw [List.getElem?_append_right (by rw [s.len]; exact Nat.le_refl _), s.len]
      simp
  · exact p.elim
theorem R.asL {d : D} {x : V} {xs : List D} (r : R W ι H d x) (s : Sim W ι st H) (e : Mn.asL st d = some xs) : ∃ a vs, x = .ref a ∧ Rd H a (.lst vs) ∧ RL W ι H xs vs := by
  cases r with
  | lst h n q => simp only [Mn.asL, Option.some.injEq] at e; subst e; exact ⟨_, _, rfl, h, q⟩
  | ob h =>
    rename_i n a
    simp only [Mn.asL, obL] at e
    split at e
    · rename_i ys hy
      cases e
      obtain ⟨vs, h1, h2⟩ := s.ob n a _ h hy
      exact ⟨a, vs, rfl, .inl h1, h2⟩
    · cases e
  | _ => simp [Mn.asL] at e
theorem R.asQ {d : D} {x : V} {xs : List D} (r : R W ι H d x) (s : Sim W ι st H) (e : Mn.asQ st d = some xs) : ∃ a vs, x = .ref a ∧ (Rd H a (.lst vs) ∨ TupH H a vs) ∧ RL W ι H xs vs := by
  cases r with
  | tup h n q => simp only [Mn.asQ, Option.some.injEq] at e; subst e; exact ⟨_, _, rfl, .inr h, q⟩
  | lst h n q =>
    obtain ⟨a, vs, h1, h2, h3⟩ := R.asL (.lst h n q) s (show Mn.asL st _ = some xs from e)
    exact ⟨a, vs, h1, .inl h2, h3⟩
  | ob h =>
    obtain ⟨a, vs, h1, h2, h3⟩ := R.asL (.ob h) s (show Mn.asL st _ = some xs from e)
    exact ⟨a, vs, h1, .inl h2, h3⟩
  | _ => simp [Mn.asQ, Mn.asL] at e
end

/-! ### list rules for things that are read -/
section
variable {X : Cx} {pins : List (Addr × Obj)} {σ : L2.St} {H : Hp} {s : Shared} {l : Addr} {xs : List V}
theorem lstR (I : Inv X pins σ H s) (hH : Rd H l (.lst xs)) : xs.length ≤ sizeLine ∧ ∃ (its : List Value) (n : Nat), Vals xs its ∧ xs.length = its.length ∧ s.heap.get? l = some { cls := .type "list", data := .seq its.toArray n } := by
  obtain ⟨z, its, n, r, e⟩ := hH.ok I.hok
  exact ⟨z, its, n, r, r.length, e⟩
/-- two lists that are read, one after the other -/
theorem two_read {zs : List V} {b : Addr} (I : Inv X pins σ H s) (hl : Rd H l (.lst xs)) (hb : Rd H b (.lst zs)) : ∃ us us' n n', s.heap.get? l = some { cls := .type "list", data := .seq us.toArray n } ∧
    s.heap.get? b = some { cls := .type "list", data := .seq us'.toArray n' } ∧ Vals xs us ∧ Vals zs us' ∧ us.toArray.size = xs.length ∧ us'.toArray.size = zs.length := by
  have ⟨_, us, n, r, c, e⟩ := lstR I hl
  have ⟨_, us', n', r', c', e'⟩ := lstR I hb
  exact ⟨us, us', n, n', e, e', r, r', c.symm, c'.symm⟩
theorem op_catR : OpR X (binaryOp .Add) (fun x y H Q => ∃ l b xs zs, x = .ref l ∧ y = .ref b ∧ Rd H l (.lst xs) ∧ Rd H b (.lst zs) ∧ xs.length + zs.length ≤ sizeLine ∧ ∀ p, H p = none → Q (.ref p) (upd H p (.lst (xs ++ zs)))) := fun pins s σ H x y v u Q I rx ry ⟨l, b, xs, zs, ex, ey, hl, hb, hz, q⟩ => by
  subst ex ey
  cases rx; cases ry
  have ⟨us, us', n, n', e, e', r, r', c, c'⟩ := two_read I hl hb
  have J := I.lnew (t' := s.toks) (r.append r') (Nat.le_trans (Nat.le_of_eq List.length_append) hz)
  rw [← List.append_toArray] at J
  exact PySem.P.add_list e e' ⟨.ref _, _, J, rfl, q _ I.fresh⟩ (by omega)
/-- a list times a whole number, on the heap -/
theorem rep_heap {P : Program} {w : World} {A : Around} {E : Value → Shared → Prop} {Q : Value → Shared → Prop} {us : List Value} {n : Nat} {k : Int} {t : Tok} (e : s.heap.get? l = some { cls := .type "list", data := .seq us.toArray n })
    (lo : -(2 ^ 63) ≤ k) (hi : k < 2 ^ 63) (room : us.length * k.toNat ≤ sizeLine) (h : Q (.ref s.heap.objs.size) { s with heap := s.heap.push { cls := .type "list", data := .seq (List.replicate k.toNat us).flatten.toArray } }) :
    wpAny (model P w) A (binaryOp .Mult (.ref l) (.int k t)) Q E s := by
  have big : (sizeLine : Nat) ≤ (2 ^ 63 - 1) / 8 := by decide
  have room' : us.toArray.size * k.toNat ≤ sizeLine := by simpa using room
  have ty : s.TypeIs (.ref l) "list" := ⟨_, e, rfl⟩
  have mul : wpAny (model P w) A (call (.builtin "list.__mul__") [.ref l, .int k t]) Q E s := by
    refine call_meets F.slot_list_mul ty F.entry_list_mul (F.args_list_mul_2 _ _) (lm_list_mul_any l us.toArray n none #[] k t ?_ (Nat.not_lt.mpr (Nat.le_trans room' big)) ?_) ⟨e, ?_⟩
    · simp [fitsIndex_both lo hi]
    · simp [notLongL room]
    · rw [listMul_foldl_if]; exact h
  exact wpAny_binaryOp_repeat_ref (by decide) ty (fun s' => typeIs_int s' k t) noFill_list_mul F.fills_int_mul F.slot_int_rmul repeat_list F.slot_int_index.lookup
    (call_meets F.slot_int_rmul (typeIs_int s k t) F.entry_int_rmul (F.args_int_rmul_2 _ _) (lm_int_rmul_list_any k t l us.toArray n none #[]) ⟨e, rfl, ty, mul⟩)
theorem op_repR : OpR X (binaryOp .Mult) (fun x y H Q => ∃ l k xs, x = .ref l ∧ y = .int k ∧ Rd H l (.lst xs) ∧ -(2 ^ 63) ≤ k ∧ k < 2 ^ 63 ∧ xs.length * k.toNat ≤ sizeLine ∧
  ∀ p, H p = none → Q (.ref p) (upd H p (.lst (List.replicate k.toNat xs).flatten))) := fun pins s σ H x y v u Q I rx ry ⟨l, k, xs, ex, ey, hl, lo, hi, hz, q⟩ => by
  subst ex ey
  cases rx
  have ⟨t, et⟩ := ry
  subst et
  have ⟨_, us, n, r, c, e⟩ := lstR I hl
  have J := I.lnew (t' := s.toks) (r.rep k.toNat) (by rw [lm_len_rep_flat]; exact Nat.mul_comm _ _ ▸ hz)
  exact rep_heap e lo hi (c ▸ hz) ⟨.ref _, _, J, rfl, q _ I.fresh⟩
/-- l.extend(b), on the heap -/
theorem ext_heap {P : Program} {w : World} {A : Around} {E : Value → Shared → Prop} {Q : Value → Shared → Prop} {b : Addr} {us us' : List Value} {n n' : Nat} (e : s.heap.get? l = some { cls := .type "list", data := .seq us.toArray n })
    (e' : s.heap.get? b = some { cls := .type "list", data := .seq us'.toArray n' }) (room : us.length + us'.length ≤ sizeLine) (h : Q Value.none { s with heap := s.heap.update l (Obj.mapSeq fun x => x ++ us'.toArray) }) :
    wpAny (model P w) A (call (.builtin "list.extend") [.ref l, .ref b]) Q E s := by
  have room' : us.toArray.size + us'.toArray.size ≤ sizeLine := by simpa using room
  have M := AutoSeq1.list_extend_list_list_0 l us.toArray n b us'.toArray n' (by simp [notLongL room]) (Nat.le_trans (Nat.le_add_right _ _) room') (Nat.le_succ_of_le room')
  exact call_meets F.slot_list_extend ⟨_, e, rfl⟩ F.entry_list_extend (F.args_list_extend_2 _ _) M ⟨e, e', h⟩
theorem mt_extendR : MtM X "list.extend" (fun x vs H Q => ∃ l b xs zs, x = .ref l ∧ vs = [.ref b] ∧ H l = some (.lst xs) ∧ Rd H b (.lst zs) ∧ xs.length + zs.length ≤ sizeLine ∧ Q .non (upd H l (.lst (xs ++ zs)))) := fun pins s σ H x vs v us Q I rx rv ⟨l, b, xs, zs, ex, ev, hl, hb, hz, q⟩ => by
  subst ex ev
  have ⟨u, eu, ru⟩ := rv.one
  subst eu
  cases rx; cases ru
  have ⟨ws, ws', n, n', e, e', r, r', c, c'⟩ := two_read I (.inl hl) hb
  have cc : ws.length = xs.length ∧ ws'.length = zs.length := by simpa using And.intro c c'
  exact ext_heap e e' (by omega) ⟨.non, _, I.lset (its' := ws ++ ws') (t' := s.toks) hl e (by simp) (r.append r') (by simpa using hz), rfl, q⟩
end

/-! ### binary operators -/
def r2 (W : Wd) (f : D → D → Store → Res D) : R2 := fun x y H Q => ∃ da db st ι, Sim W ι st H ∧ R W ι H da x ∧ R W ι H db y ∧ PostR W ι H Q (f da db st)
def Bop.op : Bop → Operator
  | .add => .Add
  | .sub => .Sub
  | .mul _ => .Mult
  | .fdiv => .FloorDiv
  | .mod => .Mod
  | .pow => .Pow
/-! ### tuples that are made have no dict of their own -/
abbrev tupO (us : List Value) : Obj := { cls := .type "tuple", data := .seq us.toArray }
section
variable {X : Cx} {pins : List (Addr × Obj)} {σ : L2.St} {H : Hp} {s : Shared}
theorem tup_frz {hh : Heap} {a : Addr} {vs : List V} {us : List Value} (z : vs.length ≤ sizeLine) (rv : Vals vs us) (e : hh.get? a = some (tupO us)) : ObjOk X.prog X.w (upd H a (.frz (tupO us) (.tup vs))) hh a (.frz (tupO us) (.tup vs)) :=
  ⟨e, z, us, rv, _, e, rfl, _, rfl⟩
theorem tup_laid (I : Inv X pins σ H s) {t' : Tok} {vs : List V} {us : List Value} (z : vs.length ≤ sizeLine) (rv : Vals vs us) :
    Inv X pins σ (upd H s.heap.objs.size (.frz (tupO us) (.tup vs))) { s with heap := s.heap.push (tupO us), toks := t' } :=
  I.laid (t' := t') (fun _ _ e => Heap.get?_push_of_some _ e) (Nat.le_refl _) (tup_frz z rv (Heap.get?_push_size _ rfl))
theorem op_catF : OpR X (binaryOp .Add) (fun x y H Q => ∃ a b xs ys, x = .ref a ∧ y = .ref b ∧ SqT X.K H a xs ∧ SqT X.K H b ys ∧ xs.length + ys.length ≤ sizeLine ∧
    (xs = [] → Q (.ref b) H) ∧ (xs ≠ [] → ys = [] → Q (.ref a) H) ∧ (xs ≠ [] → ys ≠ [] → ∀ (p : Addr) (o : Obj), H p = none → o.dict = none → Q (.ref p) (upd H p (.frz o (.tup (xs ++ ys)))))) := by
  intro pins s σ H x y v u Q I rx ry ⟨a, b, xs, ys, ex, ey, ha, hb, hz, q0, q1, q2⟩
  subst ex; subst ey
  cases rx; cases ry
  obtain ⟨us, rv1, pt1, _⟩ := I.tuple ha
  obtain ⟨ws, rv2, pt2, _⟩ := I.tuple hb
  by_cases hx : xs = []
  · subst hx
    cases rv1
    exact cat_tup0 pt1 pt2 ⟨.ref b, H, I, rfl, q0 rfl⟩
  · refine HT.cat_tup pt1 pt2 (fun z => hx (rv1.nil_iff.mp z)) (fun z => ⟨.ref a, H, I, rfl, q1 hx (rv2.nil_iff.mp z)⟩) (fun z => ?_) (by rw [← rv1.length, ← rv2.length]; exact hz)
    have I2 := tup_laid I (t' := s.toks) (vs := xs ++ ys) (us := us ++ ws) (by rw [List.length_append]; exact hz) (rv1.append rv2)
    have e2 : us.toArray ++ ws.toArray = (us ++ ws).toArray := by simp
    refine ⟨.ref s.heap.objs.size, _, by first | exact I2 | (rw [e2]; exact I2), rfl, q2 hx (fun w => z (rv2.nil_iff.mpr w)) _ _ (I.hok.fresh (Nat.le_refl _)) rfl⟩
theorem sl_tupF : SlR X (fun x lo hi H Q => ∃ a xs, x = .ref a ∧ SqT X.K H a xs ∧
    (HT.sIx xs.length 0 lo = 0 ∧ HT.sIx xs.length xs.length hi = xs.length → Q (.ref a) H) ∧ (¬ (HT.sIx xs.length 0 lo = 0 ∧ HT.sIx xs.length xs.length hi = xs.length) → ∀ (p : Addr) (o : Obj), H p = none → o.dict = none → Q (.ref p) (upd H p (.frz o (.tup (cutV xs lo hi)))))) := by
  intro pins s σ H x v vl vu lo hi sl Q I rx hs pl pu ⟨a, xs, ex, hx, q1, q2⟩
  subst ex
  cases rx
  obtain ⟨us, rv, pt, hz⟩ := I.tuple hx
  have hn : us.toArray.size = xs.length := by rw [List.size_toArray]; exact rv.length.symm
  refine ⟨"tuple", _, PyProof.Rows.slot_tuple_getitem.lookup, pt.typeIs, ?_⟩
  by_cases hw : HT.sIx xs.length 0 lo = 0 ∧ HT.sIx xs.length xs.length hi = xs.length
  · exact getItem_tuple_whole pt hs pl pu (by rw [hn]; exact hw) ⟨.ref a, H, I, rfl, q1 hw⟩
  · refine HT.getItem_tuple_cut pt hs pl pu (by rw [hn]; exact hw) ?_ (by rw [hn]; exact hz)
    rw [hn]
    have rc := (rv.drop (HT.sIx xs.length 0 lo)).take (HT.sIx xs.length xs.length hi - HT.sIx xs.length 0 lo)
    exact ⟨.ref s.heap.objs.size, _, tup_laid I (t' := s.toks) (vs := cutV xs lo hi) (Nat.le_trans (cutV_length xs lo hi) hz) rc, rfl, q2 hw _ _ (I.hok.fresh (Nat.le_refl _)) rfl⟩
theorem call_tupleF : CallR X (.type "tuple") (fun xs H Q => ∃ p ys, xs = [.ref p] ∧ ((SqL X.K H p ys ∧ ∀ (l : Addr) (o : Obj), H l = none → o.dict = none → Q (.ref l) (upd H l (.frz o (.tup ys)))) ∨ (SqT X.K H p ys ∧ Q (.ref p) H))) := by
  intro pins s σ H xs us Q I r ⟨p, ys, ex, h⟩
  subst ex
  obtain ⟨u, eu, rx⟩ := vals1 r
  subst eu
  cases rx
  rcases h with ⟨hl, q⟩ | ⟨ht, q⟩
  · obtain ⟨ws, rv, pl, hz⟩ := I.list hl
    have hn := rv.length
    refine call_tuple_list pl.isList (fun h2 kp => ?_) (by simp only [List.size_toArray] <;> omega)
    have I1 : Inv X pins σ H { s with heap := h2 } := I.kept (t' := s.toks) kp
    exact ⟨.ref h2.objs.size, _, tup_laid I1 (t' := s.toks) hz rv, rfl, q _ _ (I1.hok.fresh (Nat.le_refl _)) rfl⟩
  · obtain ⟨ws, rv, pt, hz⟩ := I.tuple ht
    exact call_tuple_same pt ⟨.ref p, H, I, rfl, q⟩
end
theorem replT {X : Cx} (pins : List (Addr × Obj)) (s : Shared) (σ : L2.St) (H : Hp) (x y : V) (v u : Value) (Q : VK) (I : Inv X pins σ H s) (rx : RelV x v) (ry : RelV y u)
    (h : ∃ l k xs, x = .ref l ∧ y = .int k ∧ SqT X.K H l xs ∧ xs ≠ [] ∧ 2 ≤ k ∧ k ≤ 1000 ∧ xs.length ≤ 1000 ∧ ∀ (p : Addr) (o : Obj), H p = none → o.dict = none → Q (.ref p) (upd H p (.frz o (.tup (List.replicate k.toNat xs).flatten)))) : wpAny (model X.prog X.w) X.A (binaryOp .Mult v u) (EP X pins σ Q) X.xe s := by
  obtain ⟨l, k, xs, ex, ey, hT, hne, k2, k1000, hz, q⟩ := h
  subst ex; subst ey
  cases rx
  obtain ⟨t, et⟩ := ry
  subst et
  obtain ⟨us, rv, ⟨⟨cls, dd, data, sl⟩, hg, hcl, n, hdt⟩, hs⟩ := I.tuple hT
  simp only at hcl hdt
  subst hcl hdt
  have hul : us.length = xs.length := rv.length.symm
  have hi : us.toArray.isEmpty = false := by
    cases us with
    | nil => exact absurd (List.eq_nil_of_length_eq_zero hul.symm) hne
    | cons _ _ => rfl
  have hn : us.toArray.size = xs.length := by rw [List.size_toArray, hul]
  have hmul : ((us.toArray.size : Nat) : Int) * k ≤ 1000000 := by
    rw [hn]
    have := Int.mul_le_mul_of_nonneg_right (show ((xs.length : Nat) : Int) ≤ 1000 by omega) (show 0 ≤ k by omega)
    omega
  have hfl : ∀ m : Nat, m = xs.length → k.toNat * m ≤ sizeLine := fun m e => by
    have := Nat.mul_le_mul (show k.toNat ≤ 1000 by omega) (show m ≤ 1000 by omega)
    rw [sizeLine_eq]; omega
  have c0 : (decide (k < -(2 ^ 63)) || decide (k ≥ 2 ^ 63)) = false := by simp; omega
  have c1 : (us.toArray.isEmpty || k == 1) = false := by
    rw [hi]; exact beq_eq_false_iff_ne.mpr (by omega)
  have c2 : (decide (k ≤ 0) || us.toArray.isEmpty) = false := by rw [hi]; simp; omega
  have c4 : Builtin.Tuple.tupleTooMany (((us.toArray.size : Nat) : Int) * k) = false := by
    unfold Builtin.Tuple.tupleTooMany
    rw [sizeLine_eq]
    simp only [decide_eq_false_iff_not]
    omega
  refine wpAny_binaryOp_repeat_ref (T := "tuple") (U := "int") (by decide) ⟨_, hg, rfl⟩ (fun s' => typeIs_int s' k t) noFill_tuple_mul PySem.F.fills_int_mul PySem.F.slot_int_rmul repeat_tuple PySem.F.slot_int_index.lookup
    (call_meets PySem.F.slot_int_rmul (typeIs_int s k t) PySem.F.entry_int_rmul (PySem.F.args_int_rmul_2 _ _) (int_rmul_tuple k t l us.toArray n dd sl)
      ⟨hg, rfl, ⟨_, hg, rfl⟩, call_meets PySem.F.slot_tuple_mul ⟨_, hg, rfl⟩ PySem.F.entry_tuple_mul (PySem.F.args_tuple_mul_2 _ _) (tuple_mulW l us.toArray n dd sl k t c0 c1 c2 (by omega) c4 (by rw [size_rep, List.size_toArray, PyProof.Rows.lm_len_rep_flat]; exact hfl _ hul)) ⟨hg, ?_⟩⟩)
  rw [size_rep]
  exact ⟨.ref s.heap.objs.size, _, tup_laid I (t' := s.toks) (vs := (List.replicate k.toNat xs).flatten) (by rw [PyProof.Rows.lm_len_rep_flat]; exact hfl _ rfl) (rv.rep k.toNat), rfl, q _ _ (I.hok.fresh (Nat.le_refl _)) rfl⟩
theorem op_bin {W : Wd} {X : Cx} (o : Bop) : OpR X (binaryOp o.op) (r2 W (pBin o)) := by
  intro pins s σ H x y v u Q I rx ry h
  obtain ⟨da, db, st, ι, S, ra, rb, post⟩ := h
  cases o with
  | add =>
    have gen : ∀ {xs ys : List D}, asL st da = some xs → asL st db = some ys → PostR W ι H Q (newL false (xs ++ ys) st) → wpAny (model X.prog X.w) X.A (binaryOp .Add v u) (EP X pins σ Q) X.xe s := fun {xs ys} ea eb p => by
      obtain ⟨a, vs, rfl, h1, h2⟩ := ra.asL S ea
      obtain ⟨b, us, rfl, h3, h4⟩ := rb.asL S eb
      obtain ⟨z, q⟩ := p.newL S (h2.append h4)
      exact op_catR pins s σ H _ _ v u Q I rx ry ⟨a, b, vs, us, rfl, rfl, h1, h3, by rw [← List.length_append]; exact z, q⟩
    have gen' : PostR W ι H Q (match asL st da, asL st db with
        | some xs, some ys => newL false (xs ++ ys) st
        | _, _ => .err) → wpAny (model X.prog X.w) X.A (binaryOp .Add v u) (EP X pins σ Q) X.xe s := fun p => by
      cases ea : asL st da with
      | none => rw [ea] at p; exact p.elim
      | some xs =>
        cases eb : asL st db with
        | none => rw [ea, eb] at p; exact p.elim
        | some ys => rw [ea, eb] at p; exact gen ea eb p
    cases ra with
    | int i =>
      cases rb with
      | int j => exact op_add pins s σ H _ _ v u Q I rx ry ⟨i, j, rfl, rfl, post.here S (.int _)⟩
      | _ => exact gen' post
    | str i =>
      cases rb with
      | str j =>
        simp only [pBin] at post
        split at post
        · rename_i hz
          exact op_add_str pins s σ H _ _ v u Q I rx ry ⟨i, j, rfl, rfl, by rw [← maxLen_eq]; exact hz, post.here S (.str _)⟩
        · exact post.elim
      | _ => exact gen' post
    | tup h1 n1 r1 =>
      rename_i a xs vs
      cases rb with
      | tup h2 n2 r2 =>
        rename_i b ys us
        obtain ⟨z, q⟩ := PostR.newT (xs := xs ++ ys) post S (r1.append r2)
        refine op_catF pins s σ H _ _ v u Q I rx ry ⟨_, _, vs, us, rfl, rfl, h1.sq, h2.sq, by rw [← List.length_append]; exact z, fun e => ?_, fun _ e => ?_, fun _ _ => q⟩
        · have post' : PostR W ι H Q (Mn.newT (xs ++ ys) st) := post
          have hz : (xs ++ ys).length ≤ maxLen := by
            rw [List.length_append, r1.length, r2.length, ← List.length_append, maxLen_eq]; exact z
          unfold Mn.newT at post'
          rw [if_pos hz] at post'
          have e0 : xs = [] := List.eq_nil_of_length_eq_zero (by rw [r1.length, e]; rfl)
          rw [e0, List.nil_append] at post'
          exact post'.here S (.tup h2 n2 r2)
        · have post' : PostR W ι H Q (Mn.newT (xs ++ ys) st) := post
          have hz : (xs ++ ys).length ≤ maxLen := by
            rw [List.length_append, r1.length, r2.length, ← List.length_append, maxLen_eq]; exact z
          unfold Mn.newT at post'
          rw [if_pos hz] at post'
          have e0 : ys = [] := List.eq_nil_of_length_eq_zero (by rw [r2.length, e]; rfl)
          rw [e0, List.append_nil] at post'
          exact post'.here S (.tup h1 n1 r1)
      | _ => exact gen' post
    | _ => exact gen' post
  | sub =>
    cases ra with
    | int i =>
      cases rb with
      | int j => exact op_sub pins s σ H _ _ v u Q I rx ry ⟨i, j, rfl, rfl, post.here S (.int _)⟩
      | _ => exact post.elim
    | _ => exact post.elim
  | mul m =>
    have gen' : (∀ k : Int, db = .int k → PostR W ι H Q (match asL st da with
        | some xs => if xs.length * k.toNat ≤ maxLen ∧ k < 2 ^ 62 ∧ -(2 ^ 62) < k then newL m (List.replicate k.toNat xs).flatten st else .err
        | none => .err)) → (∃ k, db = .int k) → wpAny (model X.prog X.w) X.A (binaryOp .Mult v u) (EP X pins σ Q) X.xe s := fun p0 ⟨k, ek⟩ => by
      have p := p0 k ek
      clear p0
      subst ek
      cases rb
      cases ea : asL st da with
      | none => rw [ea] at p; exact p.elim
      | some xs =>
        rw [ea] at p
        dsimp only at p
        split at p
        · rename_i hc
          obtain ⟨a, vs, rfl, h1, h2⟩ := ra.asL S ea
          obtain ⟨z, q⟩ := p.newL S (h2.rep k.toNat)
          exact op_repR pins s σ H _ _ v u Q I rx ry ⟨a, k, vs, rfl, rfl, h1, by omega, by omega, by rw [← h2.length, ← maxLen_eq]; exact hc.1, q⟩
        · exact p.elim
    cases rb with
    | int k =>
      cases ra with
      | int i =>
        simp only [pBin] at post
        split at post
        · rename_i hc
          exact op_mul pins s σ H _ _ v u Q I rx ry ⟨i, k, rfl, rfl, hc, post.here S (.int _)⟩
        · exact post.elim
      | tup h1 n1 r1 =>
        rename_i a xs vs
        simp only [pBin] at post
        split at post
        · rename_i hc
          obtain ⟨z, q⟩ := post.newT S (r1.rep k.toNat)
          exact replT pins s σ H _ _ v u Q I rx ry ⟨a, k, vs, rfl, rfl, h1.sq, fun e => hc.1 (by rw [r1.length, e]; rfl), hc.2.1, hc.2.2.1, by rw [← r1.length]; exact hc.2.2.2, q⟩
        · exact post.elim
      | _ => exact gen' (fun k e => by cases e; exact post) ⟨k, rfl⟩
    | _ => cases ra <;> exact post.elim
  | fdiv =>
    cases ra with
    | int i =>
      cases rb with
      | int j =>
        simp only [pBin] at post
        split at post
        · rename_i hc
          exact op_fdiv pins s σ H _ _ v u Q I rx ry ⟨i, j, rfl, rfl, hc, post.here S (.int _)⟩
        · exact post.elim
      | _ => exact post.elim
    | _ => exact post.elim
  | mod =>
    cases ra with
    | int i =>
      cases rb with
      | int j =>
        simp only [pBin] at post
        split at post
        · rename_i hc
          exact op_mod pins s σ H _ _ v u Q I rx ry ⟨i, j, rfl, rfl, hc, post.here S (.int _)⟩
        · exact post.elim
      | _ => exact post.elim
    | _ => exact post.elim
  | pow =>
    cases ra with
    | int i =>
      cases rb with
      | int j =>
        simp only [pBin] at post
        split at post
        · rename_i hc
          exact op_pow pins s σ H _ _ v u Q I rx ry ⟨i, j, rfl, rfl, ⟨hc.1, by omega, hc.2.2⟩, post.here S (.int _)⟩
        · exact post.elim
      | _ => exact post.elim
    | _ => exact post.elim
end Mn

set_option Elab.async false
set_option linter.all false
set_option maxRecDepth 100000
set_option maxHeartbeats 4000000
/-! Snd3: comparisons; dicts. -/
namespace Mn
open PySem PySem.Spec PyProof.Rows L2

mutual
theorem isP_lay : ∀ d : D, d.isP = true → d.toP.canLay0 = true
  | .non, _ | .bl _, _ | .int _, _ => by simp [D.toP, PyData.canLay0]
  | .str x, h => by simpa [D.toP, PyData.canLay0, D.isP] using h
  | .tup xs, h => by simpa [D.toP, PyData.canLay0] using isPs_lay xs (by simpa [D.isP] using h)
  | .lst xs, h => by simpa [D.toP, PyData.canLay0] using isPs_lay xs (by simpa [D.isP] using h)
  | .ob _, _ | .fn _, _ | .ex _, _ | .scr _, _ => by simp [D.toP, PyData.canLay0]
theorem isPs_lay : ∀ ds : List D, isPs ds = true → PyData.canLayAll0 (toPs ds) = true
  | [], _ => by simp [toPs, PyData.canLayAll0]
  | x :: xs, h => by
    simp only [isPs, Bool.and_eq_true] at h
    simp [toPs, PyData.canLayAll0, isP_lay x h.1, isPs_lay xs h.2]
end
mutual
theorem dep_toP : ∀ d : D, d.toP.depth = d.dep
  | .non | .bl _ | .int _ | .str _ | .ob _ | .fn _ | .ex _ | .scr _ => by simp [D.toP, PyData.depth, D.dep]
  | .tup xs => by simp [D.toP, PyData.depth, D.dep, deps_toP xs]
  | .lst xs => by simp [D.toP, PyData.depth, D.dep, deps_toP xs]
theorem deps_toP : ∀ ds : List D, PyData.depthAll (toPs ds) = deps ds
  | [] => by simp [toPs, PyData.depthAll, deps]
  | x :: xs => by simp [toPs, PyData.depthAll, deps, dep_toP x, deps_toP xs]
end
theorem okp_shaped {d : D} (h : d.okp = true) : SeqAt.shaped d.toP = true := by
  simp only [D.okp, Bool.and_eq_true, decide_eq_true_eq] at h
  simp only [SeqAt.shaped, Bool.and_eq_true, decide_eq_true_eq]
  exact ⟨isP_lay d h.1, by rw [dep_toP]; omega⟩
mutual
theorem alike_toP : ∀ a b : D, a.alike b = true → PySem.W.alike a.toP b.toP = true
  | .int _, b, h => by cases b <;> simp_all [D.alike, D.toP, PySem.W.alike]
  | .str _, b, h => by cases b <;> simp_all [D.alike, D.toP, PySem.W.alike]
  | .tup xs, b, h => by
    cases b with
    | tup ys => simpa [D.toP, PySem.W.alike] using alikes_toP xs ys (by simpa [D.alike] using h)
    | _ => simp [D.alike] at h
  | .non, b, h => by simp [D.alike] at h
  | .bl _, b, h => by simp [D.alike] at h
  | .lst _, b, h => by simp [D.alike] at h
  | .ob _, b, h => by simp [D.alike] at h
  | .fn _, b, h => by simp [D.alike] at h
  | .ex _, b, h => by simp [D.alike] at h
  | .scr _, b, h => by simp [D.alike] at h
theorem alikes_toP : ∀ a b : List D, alikes a b = true → PySem.W.alikeAll (toPs a) (toPs b) = true
  | [], b, _ => by simp [toPs, PySem.W.alikeAll]
  | _ :: _, [], _ => by simp [toPs, PySem.W.alikeAll]
  | x :: xs, y :: ys, h => by
    simp only [alikes, Bool.and_eq_true] at h
    simp [toPs, PySem.W.alikeAll, alike_toP x y h.1, alikes_toP xs ys h.2]
end
mutual
theorem eqv_alike : ∀ a b : D, a.alike b = true → PyData.eqv a.toP b.toP = a.eqv b
  | .int _, b, h => by cases b <;> simp_all [D.alike, D.toP, PyData.eqv, D.eqv] <;> rfl
  | .str _, b, h => by cases b <;> simp_all [D.alike, D.toP, PyData.eqv, D.eqv] <;> rfl
  | .tup xs, b, h => by
    cases b with
    | tup ys => simpa [D.toP, PyData.eqv, D.eqv] using eqvs_alike xs ys (by simpa [D.alike] using h)
    | _ => simp [D.alike] at h
  | .non, b, h => by simp [D.alike] at h
  | .bl _, b, h => by simp [D.alike] at h
  | .lst _, b, h => by simp [D.alike] at h
  | .ob _, b, h => by simp [D.alike] at h
  | .fn _, b, h => by simp [D.alike] at h
  | .ex _, b, h => by simp [D.alike] at h
  | .scr _, b, h => by simp [D.alike] at h
theorem eqvs_alike : ∀ a b : List D, alikes a b = true → PyData.eqvAll (toPs a) (toPs b) = eqvs a b
  | [], [], _ => by simp [toPs, PyData.eqvAll, eqvs]
  | [], _ :: _, _ => by simp [toPs, PyData.eqvAll, eqvs]
  | _ :: _, [], _ => by simp [toPs, PyData.eqvAll, eqvs]
  | x :: xs, y :: ys, h => by
    simp only [alikes, Bool.and_eq_true] at h
    simp [toPs, PyData.eqvAll, eqvs, eqv_alike x y h.1, eqvs_alike xs ys h.2]
end
mutual
theorem lt_toP : ∀ a b : D, a.alike b = true → PySem.W.dataLt a.toP b.toP = a.lt b
  | .int i, b, h => by
    cases b with
    | int j => simp [D.toP, PySem.W.dataLt_int, D.lt]
    | _ => simp [D.alike] at h
  | .str i, b, h => by
    cases b with
    | str j => simp [D.toP, PySem.W.dataLt_str, D.lt]
    | _ => simp [D.alike] at h
  | .tup xs, b, h => by
    cases b with
    | tup ys =>
      have q := lts_toP xs ys (by simpa [D.alike] using h)
      simp only [D.toP, PySem.W.dataLt_tuple, D.lt]
      exact q
    | _ => simp [D.alike] at h
  | .non, b, h => by simp [D.alike] at h
  | .bl _, b, h => by simp [D.alike] at h
  | .lst _, b, h => by simp [D.alike] at h
  | .ob _, b, h => by simp [D.alike] at h
  | .fn _, b, h => by simp [D.alike] at h
  | .ex _, b, h => by simp [D.alike] at h
  | .scr _, b, h => by simp [D.alike] at h
theorem lts_toP : ∀ a b : List D, alikes a b = true → PyProof.Rows.lexLt itemOrd (PySem.W.keyToksAll (toPs a)) (PySem.W.keyToksAll (toPs b)) = lts a b
  | [], [], _ => by
    simp only [toPs, lts]
    exact lex_irrefl _
  | [], y :: ys, _ => by
    simp only [toPs, lts, PySem.W.keyToksAll]
    rw [PySem.W.lex_atom (by simp), PySem.W.lex_one]
    rfl
  | x :: xs, [], _ => by
    simp only [toPs, lts, PySem.W.keyToksAll]
    rw [PySem.W.lex_atom (by simp), PySem.W.lex_one]
    rfl
  | x :: xs, y :: ys, h => by
    simp only [alikes, Bool.and_eq_true] at h
    simp only [toPs, lts]
    rw [PySem.W.dataLt_cons (alike_toP x y h.1), eqv_alike x y h.1, lts_toP xs ys h.2, lt_toP x y h.1]
end
theorem any_toPs (a : D) (ha : a.isP = true) : ∀ ys : List D, isPs ys = true → ((toPs ys).any fun z => PyData.eqv z a.toP) = ys.any fun y => y.eqv a
  | [], _ => by simp [toPs]
  | y :: ys, h => by
    simp only [isPs, Bool.and_eq_true] at h
    simp [toPs, eqv_toP y a h.1 ha, any_toPs a ha ys h.2]

/-! ### keys -/
mutual
theorem keyN_hsh : ∀ d : D, d.hsh = true → ∃ k, keyN d = some k ∧ k.depth ≤ d.dep
  | .non, _ => ⟨_, rfl, by simp [NestedKey.depth]⟩
  | .bl _, _ => ⟨_, rfl, by simp [NestedKey.depth]⟩
  | .int _, _ => ⟨_, rfl, by simp [NestedKey.depth]⟩
  | .str _, _ => ⟨_, rfl, by simp [NestedKey.depth]⟩
  | .tup xs, h => by
    obtain ⟨ks, h1, h2⟩ := keyNs_hsh xs (by simpa [D.hsh] using h)
    exact ⟨.tup ks, by simp [keyN, h1], by simp [NestedKey.depth, D.dep]; omega⟩
  | .lst _, h => by simp [D.hsh] at h
  | .ob _, h => by simp [D.hsh] at h
  | .fn _, h => by simp [D.hsh] at h
  | .ex _, h => by simp [D.hsh] at h
  | .scr _, h => by simp [D.hsh] at h
theorem keyNs_hsh : ∀ ds : List D, hshs ds = true → ∃ ks, keyNs ds = some ks ∧ NestedKey.depthAll ks ≤ deps ds
  | [], _ => ⟨[], rfl, by simp [NestedKey.depthAll]⟩
  | x :: xs, h => by
    simp only [hshs, Bool.and_eq_true] at h
    obtain ⟨k, h1, h2⟩ := keyN_hsh x h.1
    obtain ⟨ks, h3, h4⟩ := keyNs_hsh xs h.2
    refine ⟨k :: ks, by simp [keyNs, h1, h3], ?_⟩
    simp only [NestedKey.depthAll, deps]
    omega
end
theorem keyNs_cons {x : D} {xs : List D} {k : List NestedKey} (h : keyNs (x :: xs) = some k) : ∃ k1 ks, keyN x = some k1 ∧ keyNs xs = some ks ∧ k = k1 :: ks := by
  cases h1 : keyN x with
  | none => simp [keyNs, h1] at h
  | some k1 =>
    cases h2 : keyNs xs with
    | none => simp [keyNs, h1, h2] at h
    | some ks => simp [keyNs, h1, h2] at h; exact ⟨k1, ks, rfl, rfl, h.symm⟩
mutual
theorem keyN_eqv : ∀ (a b : D) (k l : NestedKey), keyN a = some k → keyN b = some l → a.eqv b = decide (k = l)
  | .non, b, k, l, ha, hb => by
    cases b with
    | tup ys => simp [keyN] at hb; obtain ⟨ks, _, rfl⟩ := hb; cases ha; simp [D.eqv]
    | _ => first | (simp [keyN] at hb; done) | (cases ha; cases hb; simp [D.eqv])
  | .bl x, b, k, l, ha, hb => by
    cases b with
    | tup ys => simp [keyN] at hb; obtain ⟨ks, _, rfl⟩ := hb; cases ha; simp [D.eqv]
    | bl y => cases ha; cases hb; cases x <;> cases y <;> simp [D.eqv]
    | _ => first | (simp [keyN] at hb; done) | (cases ha; cases hb; simp [D.eqv])
  | .int x, b, k, l, ha, hb => by
    cases b with
    | tup ys => simp [keyN] at hb; obtain ⟨ks, _, rfl⟩ := hb; cases ha; simp [D.eqv]
    | _ => first | (simp [keyN] at hb; done) | (cases ha; cases hb; simp [D.eqv])
  | .str x, b, k, l, ha, hb => by
    cases b with
    | tup ys => simp [keyN] at hb; obtain ⟨ks, _, rfl⟩ := hb; cases ha; simp [D.eqv]
    | _ => first | (simp [keyN] at hb; done) | (cases ha; cases hb; simp [D.eqv])
  | .tup xs, b, k, l, ha, hb => by
    simp [keyN] at ha
    obtain ⟨ks, h1, rfl⟩ := ha
    cases b with
    | tup ys =>
      simp [keyN] at hb
      obtain ⟨ls, h2, rfl⟩ := hb
      simp only [D.eqv, NestedKey.tup.injEq]
      exact keyNs_eqv xs ys ks ls h1 h2
    | _ => first | (simp [keyN] at hb; done) | (cases hb; simp [D.eqv])
  | .lst _, b, k, l, ha, hb => by simp [keyN] at ha
  | .ob _, b, k, l, ha, hb => by simp [keyN] at ha
  | .fn _, b, k, l, ha, hb => by simp [keyN] at ha
  | .ex _, b, k, l, ha, hb => by simp [keyN] at ha
  | .scr _, b, k, l, ha, hb => by simp [keyN] at ha
theorem keyNs_eqv : ∀ (a b : List D) (k l : List NestedKey), keyNs a = some k → keyNs b = some l → eqvs a b = decide (k = l)
  | [], [], k, l, ha, hb => by cases ha; cases hb; simp [eqvs]
  | [], y :: ys, k, l, ha, hb => by
    cases ha
    obtain ⟨k1, ks, _, _, rfl⟩ := keyNs_cons hb
    simp [eqvs]
  | x :: xs, [], k, l, ha, hb => by
    cases hb
    obtain ⟨k1, ks, _, _, rfl⟩ := keyNs_cons ha
    simp [eqvs]
  | x :: xs, y :: ys, k, l, ha, hb => by
    obtain ⟨k1, ks, h1, h2, rfl⟩ := keyNs_cons ha
    obtain ⟨l1, ls, h3, h4, rfl⟩ := keyNs_cons hb
    simp only [eqvs, keyN_eqv x y k1 l1 h1 h3, keyNs_eqv xs ys ks ls h2 h4, List.cons.injEq]
    by_cases e1 : k1 = l1 <;> by_cases e2 : ks = ls <;> simp [e1, e2]
end

/-! ### a dict in the heap -/
section
variable {W : Wd} {X : Cx} {pins : List (Addr × Obj)} {σ : L2.St} {H : Hp} {s : Shared} {ι : List Addr}
mutual
theorem R.nest (I : Inv X pins σ H s) : ∀ {d : D} {v : V} {k : NestedKey} {u : Value}, R W ι H d v → keyN d = some k → RelV v u → NestedIs s.heap k u
  | _, _, _, _, .non, e, r => by cases e; cases r; exact .none
  | _, _, _, _, .bl b, e, r => by cases e; cases r; exact .bool rfl
  | _, _, _, _, .int i, e, r => by cases e; obtain ⟨t, rfl⟩ := r; exact .int _ _
  | _, _, _, _, .str x, e, r => by cases e; obtain ⟨t, rfl⟩ := r; exact .text _ _
  | _, _, _, _, .tup (xs := xs) h n q, e, r => by
    cases hk : keyNs xs with
    | none => simp [keyN, hk] at e
    | some ks =>
      simp [keyN, hk] at e
      subst e
      cases r
      obtain ⟨its, rv, ⟨o, ho, hc, m, hd⟩, _⟩ := I.tuple h.sq
      exact .tup ho hc hd (by simpa using RL.nest I q hk rv)
  | _, _, _, _, .lst h n q, e, r => by simp [keyN] at e
  | _, _, _, _, .ob h, e, r => by simp [keyN] at e
  | _, _, _, _, .fn n, e, r => by simp [keyN] at e
  | _, _, _, _, .ex h, e, r => by simp [keyN] at e
  | _, _, _, _, .scr h, e, r => by simp [keyN] at e
theorem RL.nest (I : Inv X pins σ H s) : ∀ {ds : List D} {vs : List V} {ks : List NestedKey} {us : List Value}, RL W ι H ds vs → keyNs ds = some ks → Vals vs us → NestedAll s.heap ks us
  | _, _, _, _, .nil, e, .nil => by cases e; exact .nil
  | _, _, _, _, .cons r t, e, .cons q u => by
    obtain ⟨k1, ks, h1, h2, rfl⟩ := keyNs_cons e
    exact .cons (R.nest I r h1 q) (RL.nest I t h2 u)
end
theorem keyOk_of {d : D} (h : keyOk d = true) : ∃ k xs, d = .tup xs ∧ keyN d = some k ∧ k.depth ≤ 8 := by
  simp only [keyOk, Bool.and_eq_true, decide_eq_true_eq] at h
  obtain ⟨⟨h1, h2⟩, h3⟩ := h
  obtain ⟨k, h4, h5⟩ := keyN_hsh d h2
  cases d with
  | tup xs => exact ⟨k, xs, rfl, h4, by omega⟩
  | _ => simp at h1
/-- the dict as the library has it -/
theorem DicR.of (I : Inv X pins σ H s) (hP : X.prog = W.P) (hw : X.w = W.w) {kvs : List (D × D)} {a : Addr} (h : DicR W ι H kvs a) :
    ∃ xs : List (NestedKey × Addr × Value), s.heap.DictOfH (nestedKind X.prog X.w) a xs ∧ (a == sysModules) = false ∧ Mut (H a) ∧
      Paired (fun (p : D × D) (x : NestedKey × Addr × Value) => keyN p.1 = some x.1 ∧ x.1.depth ≤ 8 ∧ R W ι H p.1 (.ref x.2.1) ∧ ∃ v, R W ι H p.2 v ∧ RelV v x.2.2) kvs xs := by
  obtain ⟨o, es, ep, xs, h1, h2, h3, h4, h5, h6, h7⟩ := h
  refine ⟨xs, ⟨o, es, ep, ?_, h3, h4, by rw [hP, hw]; exact h5, fun x hx => ?_, h6⟩, h2, by rw [h1]; exact trivial, h7⟩
  · exact (I.hok a _ h1).1
  · have : ∀ {kvs : List (D × D)} {xs : List (NestedKey × Addr × Value)}, Paired (fun (p : D × D) (x : NestedKey × Addr × Value) => keyN p.1 = some x.1 ∧ x.1.depth ≤ 8 ∧ R W ι H p.1 (.ref x.2.1) ∧ ∃ v, R W ι H p.2 v ∧ RelV v x.2.2) kvs xs → x ∈ xs → (nestedKind X.prog X.w).is s.heap x.1 x.2.1 := by
      intro kvs xs hp
      induction hp with
      | nil => intro hx; simp at hx
      | cons r _ ih =>
        intro hx
        rcases List.mem_cons.mp hx with rfl | hx
        · exact ⟨R.nest I r.2.2.1 r.1 rfl, r.2.1⟩
        · exact ih hx
    exact this h7 hx
theorem paired_look {kvs : List (D × D)} {xs : List (NestedKey × Addr × Value)} {d : D} {k : NestedKey} (hk : keyN d = some k)
    (hp : Paired (fun (p : D × D) (x : NestedKey × Addr × Value) => keyN p.1 = some x.1 ∧ x.1.depth ≤ 8 ∧ R W ι H p.1 (.ref x.2.1) ∧ ∃ v, R W ι H p.2 v ∧ RelV v x.2.2) kvs xs) :
    (kLook d kvs = none ∧ atKey xs k = none) ∨ ∃ d' v a u, kLook d kvs = some d' ∧ atKey xs k = some (a, u) ∧ R W ι H d' v ∧ RelV v u := by
  induction hp with
  | nil => exact .inl ⟨rfl, rfl⟩
  | cons r _ ih =>
    rename_i p x ps xs hh
    obtain ⟨r1, r2, r3, v, r4, r5⟩ := r
    have e := keyN_eqv p.1 d _ _ r1 hk
    obtain ⟨p1, p2⟩ := p
    obtain ⟨x1, x2, x3⟩ := x
    dsimp only at r1 r3 r4 r5 e
    by_cases hx : x1 = k
    · rw [decide_eq_true hx] at e
      refine .inr ⟨p2, v, x2, x3, ?_, ?_, r4, r5⟩
      · simp [kLook, e]
      · simp [atKey, hx]
    · rw [decide_eq_false hx] at e
      have e1 : kLook d ((p1, p2) :: ps) = kLook d ps := by simp [kLook, e]
      have e2 : atKey ((x1, x2, x3) :: xs) k = atKey xs k := by simp [atKey, hx]
      rw [e1, e2]
      exact ih
end
end Mn

set_option Elab.async false
set_option linter.all false
set_option maxRecDepth 100000
set_option maxHeartbeats 4000000
/-! Snd4: comparisons, subscripts, slices. -/
namespace Mn
open PySem PySem.Spec PyProof.Rows L2

def Cop.op : Cop → CmpOp
  | .lt => .Lt
  | .le => .LtE
  | .gt => .Gt
  | .ge => .GtE
  | .eq => .Eq
  | .ne => .NotEq
  | .isin => .In
  | .notin => .NotIn
section
variable {W : Wd} {X : Cx} {pins : List (Addr × Obj)} {σ : L2.St} {H : Hp} {s : Shared} {ι : List Addr} {st : Store}
/-- what == looks at -/
theorem R.vwDp {K : PySem.W.Frag} {d : D} {x : V} (r : R W ι H d x) (S : Sim W ι st H) (h : (vw st d).isP = true) : Dp K H x (vw st d).toP := by
  cases r with
  | ob hn =>
    rename_i n a
    simp only [vw] at h ⊢
    cases e : obL st n with
    | none => rw [e] at h; simp [D.isP] at h
    | some xs =>
      rw [e] at h
      obtain ⟨a', vs, h1, h2, h3⟩ := R.asL (R.ob (W := W) (H := H) hn) S (show Mn.asL st (D.ob n) = some xs from e)
      cases h1
      exact .lst (.inl h2) (h3.dp (by simpa [D.isP] using h))
  | non => exact .non
  | bl b => exact .bl b
  | int i => exact .int i
  | str z => exact .str z
  | tup h1 h2 h3 => exact R.dp (.tup h1 h2 h3) h
  | lst h1 h2 h3 => exact R.dp (.lst h1 h2 h3) h
  | fn n => exact R.dp (R.fn (ι := ι) n) h
  | ex h1 => exact R.dp (R.ex (ι := ι) h1) h
  | scr h1 => simp [vw, D.isP] at h
theorem okp_isP {d : D} (h : d.okp = true) : d.isP = true := (Bool.and_eq_true_iff.mp h).1
theorem okps_isP {d : List D} (h : okps d = true) : isPs d = true := (Bool.and_eq_true_iff.mp h).1
theorem okps_dep {d : List D} (h : okps d = true) : deps d ≤ 60 := of_decide_eq_true (Bool.and_eq_true_iff.mp h).2
theorem okp_dep {d : D} (h : d.okp = true) : d.dep ≤ 60 := of_decide_eq_true (Bool.and_eq_true_iff.mp h).2
theorem in_gen (neg : Bool) (hP : X.prog = W.P) (hw : X.w = W.w) (hu : X.A.units + 66 < cLine) {Q : VK} {x y : V} {v u : Value} {da db : D} {b : Bool} (I : Inv X pins σ H s) (rx : RelV x v) (ry : RelV y u)
    (S : Sim W ι st H) (ra : R W ι H da x) (rb : R W ι H db y) (e : pIn da db st = some b) (q : Q (.bl (if neg then !b else b)) H) :
    wpAny (model X.prog X.w) X.A (compareOp (if neg then .NotIn else .In) v u) (EP X pins σ Q) X.xe s := by
  -- a list or a tuple
  have seqL : ∀ {ys : List D} {p : Addr} {vs : List V}, y = .ref p → Rd H p (.lst vs) → RL W ι H ys vs → da.okp = true → okps ys = true → b = (ys.any fun z => z.eqv da) → wpAny (model X.prog X.w) X.A (compareOp (if neg then .NotIn else .In) v u) (EP X pins σ Q) X.xe s := by
    intro ys p vs ey hl rl h1 h2 eb
    subst ey
    obtain ⟨as, r1⟩ := Dp.reads I da.toP x v (ra.dp (okp_isP h1)) rx
    obtain ⟨bs, r2⟩ := Dp.reads I (.list (toPs ys)) (.ref p) u (.lst (.inl hl) (rl.dp (okps_isP h2))) ry
    have hr : X.A.units + 1 + min (PyData.depthAll (toPs ys)) da.toP.depth < cLine := by
      have := okp_dep h1
      rw [dep_toP]
      omega
    cases neg with
    | true =>
      refine SeqAt.notIn_list_reads r2 r1 (isPs_lay _ (okps_isP h2)) (isP_lay _ (okp_isP h1)) hr ⟨.bl _, H, I, rfl, ?_⟩
      rw [any_toPs da (okp_isP h1) ys (okps_isP h2), ← eb]
      exact q
    | false =>
      refine SeqAt.in_list_reads r2 r1 (isPs_lay _ (okps_isP h2)) (isP_lay _ (okp_isP h1)) hr ⟨.bl _, H, I, rfl, ?_⟩
      rw [any_toPs da (okp_isP h1) ys (okps_isP h2), ← eb]
      exact q
  have seqT : ∀ {ys : List D} {p : Addr} {vs : List V}, y = .ref p → TupH H p vs → RL W ι H ys vs → da.okp = true → okps ys = true → b = (ys.any fun z => z.eqv da) → wpAny (model X.prog X.w) X.A (compareOp (if neg then .NotIn else .In) v u) (EP X pins σ Q) X.xe s := by
    intro ys p vs ey hl rl h1 h2 eb
    subst ey
    obtain ⟨as, r1⟩ := Dp.reads I da.toP x v (ra.dp (okp_isP h1)) rx
    obtain ⟨bs, r2⟩ := Dp.reads I (.tuple (toPs ys)) (.ref p) u (.tup hl.sq (rl.dp (okps_isP h2))) ry
    have hr : X.A.units + 1 + min (PyData.depthAll (toPs ys)) da.toP.depth < cLine := by
      have := okp_dep h1
      rw [dep_toP]
      omega
    cases neg with
    | true =>
      refine SeqAt.notIn_tuple_reads r2 r1 (isPs_lay _ (okps_isP h2)) (isP_lay _ (okp_isP h1)) hr ⟨.bl _, H, I, rfl, ?_⟩
      rw [any_toPs da (okp_isP h1) ys (okps_isP h2), ← eb]
      exact q
    | false =>
      refine SeqAt.in_tuple_reads r2 r1 (isPs_lay _ (okps_isP h2)) (isP_lay _ (okp_isP h1)) hr ⟨.bl _, H, I, rfl, ?_⟩
      rw [any_toPs da (okp_isP h1) ys (okps_isP h2), ← eb]
      exact q
  have two : ∀ {ys : List D}, (if (da.okp && okps ys) = true then some (ys.any fun z => z.eqv da) else none) = some b → da.okp = true ∧ okps ys = true ∧ b = (ys.any fun z => z.eqv da) := by
    intro ys h
    by_cases hc : (da.okp && okps ys) = true
    · rw [if_pos hc] at h
      have := Bool.and_eq_true_iff.mp hc
      exact ⟨this.1, this.2, (Option.some.inj h).symm⟩
    · rw [if_neg hc] at h; cases h
  cases rb with
  | tup h1 h2 h3 =>
    rename_i pa ys pvs
    have e' : (if (da.okp && okps ys) = true then some (ys.any fun z => z.eqv da) else none) = some b := by cases da <;> exact e
    obtain ⟨k1, k2, k3⟩ := two e'
    exact seqT rfl h1 h3 k1 k2 k3
  | lst h1 h2 h3 =>
    rename_i pa ys pvs
    have e' : (if (da.okp && okps ys) = true then some (ys.any fun z => z.eqv da) else none) = some b := by cases da <;> exact e
    obtain ⟨k1, k2, k3⟩ := two e'
    exact seqL rfl h1 h3 k1 k2 k3
  | ob hn =>
    rename_i n a
    have e' : (match st[n]? with
      | some (.lst ys) => if da.okp && okps ys then some (ys.any fun y => y.eqv da) else none
      | some (.dct kvs) => if keyOk da then some (kLook da kvs).isSome else none
      | _ => none) = some b := by cases da <;> exact e
    cases ho : st[n]? with
    | none => rw [ho] at e'; cases e'
    | some o =>
      rw [ho] at e'
      cases o with
      | lst ys =>
        obtain ⟨vs, g1, g2⟩ := S.ob n a _ hn ho
        obtain ⟨k1, k2, k3⟩ := two e'
        exact seqL rfl (.inl g1) g2 k1 k2 k3
      | dct kvs =>
        dsimp only at e'
        by_cases hk : keyOk da = true
        · rw [if_pos hk] at e'
          have eb := Option.some.inj e'
          obtain ⟨k, xs, rfl, k1, k2⟩ := keyOk_of hk
          obtain ⟨ys, g1, g2, g3, g4⟩ := DicR.of I hP hw (S.ob n a _ hn ho)
          cases ra with
          | tup t1 t2 t3 =>
            rename_i c vs
            cases ry
            cases rx
            have hi : (nestedKind X.prog X.w).is s.heap k c := ⟨R.nest I (.tup t1 t2 t3) k1 rfl, k2⟩
            have hb : b = (atKey ys k).isSome := by
              rcases paired_look k1 g4 with ⟨p1, p2⟩ | ⟨d', v', a', u', p1, p2, _⟩ <;> (rw [← eb, p1, p2] <;> rfl)
            have hr : (nestedKind X.prog X.w).room X.A.in1 := by show X.A.units + 1 + 8 < cLine; omega
            cases neg with
            | true => exact wpAny_notIn_heap hr hi g2 g1 ⟨.bl _, H, I.tok _, rfl, by rw [← hb]; exact q⟩
            | false => exact wpAny_in_heap hr hi g2 g1 ⟨.bl _, H, I.tok _, rfl, by rw [← hb]; exact q⟩
        · rw [if_neg hk] at e'; cases e'
      | ins c fs => cases e'
  | str y =>
    cases ra with
    | str x =>
      have eb : b = occ y x := (Option.some.inj e).symm
      cases neg with
      | true => exact op_notin_str pins s σ H _ _ v u Q I rx ry ⟨x, y, rfl, rfl, by rw [eb] at q; exact q⟩
      | false => exact op_in_str pins s σ H _ _ v u Q I rx ry ⟨x, y, rfl, rfl, by rw [eb] at q; exact q⟩
    | _ => cases e
  | _ => cases da <;> cases e
theorem scr_dp {K : PySem.W.Frag} (hK : K = W.K) {ns : List Int} {a : Addr} (h : SqS W ι H a ns) : SqL K H a (ns.map V.int) := by
  subst hK
  rcases h with ⟨h, _⟩ | h
  · exact .inl h
  · exact .inr h
theorem dp_ints {K : PySem.W.Frag} : ∀ ns : List Int, DpAll K H (ns.map V.int) (ns.map PyData.int)
  | [] => .nil
  | n :: ns => .cons (.int n) (dp_ints ns)
theorem toPs_ints : ∀ ns : List Int, toPs (ns.map D.int) = ns.map PyData.int
  | [] => rfl
  | n :: ns => by simp [toPs, D.toP, toPs_ints ns]
theorem isPs_ints : ∀ ns : List Int, isPs (ns.map D.int) = true
  | [] => rfl
  | n :: ns => by simp [isPs, D.isP, isPs_ints ns]
theorem deps_ints : ∀ ns : List Int, deps (ns.map D.int) = 0
  | [] => rfl
  | n :: ns => by simp [deps, D.dep, deps_ints ns]
theorem shaped_ints (ns : List Int) : SeqAt.shaped (.list (ns.map PyData.int)) = true := by
  have h := okp_shaped (d := .lst (ns.map D.int)) (by simp [D.okp, D.isP, D.dep, isPs_ints, deps_ints])
  simpa [D.toP, toPs_ints] using h
theorem scrEq_eq {a b : D} {v : Bool} (h : scrEq a b = some v) : ∃ ns, a = .scr ns ∧ b = .lst [] ∧ v = ns.isEmpty := by
  unfold scrEq at h
  split at h
  · cases h; exact ⟨_, rfl, rfl, rfl⟩
  · cases h
theorem op_cmp (hK : X.K = W.K) (hP : X.prog = W.P) (hw : X.w = W.w) (hu : X.A.units + 66 < cLine) (o : Cop) : OpR X (compareOp o.op) (r2 W fun a b st => oB (pCmp o a b st) st) := by
  intro pins s σ H x y v u Q I rx ry h
  obtain ⟨da, db, st, ι, S, ra, rb, post⟩ := h
  dsimp only at post
  cases eb : pCmp o da db st with
  | none => rw [eb] at post; exact post.elim
  | some b =>
    rw [eb] at post
    have q : Q (.bl b) H := PostR.here (d := .bl b) post S (.bl b)
    have eqCase : ∀ {c : Bool}, (vw st da).okp = true → (vw st db).okp = true → (neg : Bool) → c = ((vw st da).eqv (vw st db)) → Q (.bl (if neg then !c else c)) H → wpAny (model X.prog X.w) X.A (compareOp (if neg then .NotEq else .Eq) v u) (EP X pins σ Q) X.xe s := by
      intro c h1 h2 neg ec q
      have d1 := ra.vwDp (K := X.K) S (okp_isP h1)
      have d2 := rb.vwDp (K := X.K) S (okp_isP h2)
      rw [ec, ← eqv_toP _ _ (okp_isP h1) (okp_isP h2)] at q
      cases neg with
      | true => exact op_neD (by omega) pins s σ H x y v u Q I rx ry ⟨_, _, d1, d2, okp_shaped h1, okp_shaped h2, q⟩
      | false => exact op_eqD (by omega) pins s σ H x y v u Q I rx ry ⟨_, _, d1, d2, okp_shaped h1, okp_shaped h2, q⟩
    cases o with
    | eq =>
      simp only [pCmp] at eb
      cases hsc : scrEq da db with
      | some v' =>
        obtain ⟨ns, e1, e2, e3⟩ := scrEq_eq hsc
        rw [hsc] at eb
        subst e1; subst e2
        cases ra with
        | scr h1 =>
          have d2 := rb.dp (K := X.K) (by rfl)
          refine op_eqD (by omega) pins s σ H _ y v u Q I rx ry ⟨.list (ns.map PyData.int), _, .lst (scr_dp hK h1) (dp_ints ns), d2, shaped_ints ns, by rfl, ?_⟩
          have eb : v' = b := Option.some.inj eb
          have : PyData.eqv (.list (ns.map PyData.int)) (D.lst []).toP = b := by
            rw [← eb, e3]
            cases ns with
            | nil => rfl
            | cons _ _ => rfl
          rw [this]
          exact q
      | none =>
      rw [hsc] at eb
      simp only [Option.orElse] at eb
      split at eb
      · rename_i hc
        obtain ⟨h1, h2⟩ := Bool.and_eq_true_iff.mp hc
        exact eqCase h1 h2 false (Option.some.inj eb).symm q
      · cases eb
    | ne =>
      simp only [pCmp] at eb
      split at eb
      · rename_i hc
        obtain ⟨h1, h2⟩ := Bool.and_eq_true_iff.mp hc
        refine eqCase h1 h2 true rfl ?_
        rw [← Option.some.inj eb] at q
        exact q
      · cases eb
    | lt =>
      simp only [pCmp] at eb
      split at eb
      · rename_i hc
        simp only [Bool.and_eq_true] at hc
        obtain ⟨⟨h1, h2⟩, h3⟩ := hc
        obtain ⟨as, r1⟩ := Dp.reads I da.toP x v (ra.dp (okp_isP h1)) rx
        obtain ⟨bs, r2⟩ := Dp.reads I db.toP y u (rb.dp (okp_isP h2)) ry
        refine PySem.W.lt_data r1 r2 (alike_toP _ _ h3) ?_ ?_ ⟨.bl _, H, I, rfl, ?_⟩
        · cases da <;> simp [D.toP] <;> simp [D.alike] at h3
        · have := okp_dep h1
          rw [dep_toP, dep_toP]
          omega
        · rw [lt_toP _ _ h3, Option.some.inj eb]
          exact q
      · cases eb
    | gt =>
      cases ra with
      | int i =>
        cases rb with
        | int j => exact op_gt pins s σ H _ _ v u Q I rx ry ⟨i, j, rfl, rfl, by rw [← Option.some.inj eb] at q; exact q⟩
        | _ => cases eb
      | _ => cases eb
    | le =>
      cases ra with
      | int i =>
        cases rb with
        | int j => exact op_le pins s σ H _ _ v u Q I rx ry ⟨i, j, rfl, rfl, by rw [← Option.some.inj eb] at q; exact q⟩
        | _ => cases eb
      | _ => cases eb
    | ge =>
      cases ra with
      | int i =>
        cases rb with
        | int j => exact op_ge pins s σ H _ _ v u Q I rx ry ⟨i, j, rfl, rfl, by rw [← Option.some.inj eb] at q; exact q⟩
        | _ => cases eb
      | _ => cases eb
    | isin => exact in_gen false hP hw hu I rx ry S ra rb eb q
    | notin =>
      simp only [pCmp] at eb
      cases e1 : pIn da db st with
      | none => rw [e1] at eb; cases eb
      | some c =>
        rw [e1] at eb
        refine in_gen true hP hw hu I rx ry S ra rb e1 ?_
        rw [← Option.some.inj eb] at q
        exact q
end
end Mn

set_option Elab.async false
set_option linter.all false
set_option maxRecDepth 100000
set_option maxHeartbeats 4000000
/-! Snd5: sorted. -/
namespace Mn
open PySem PySem.Spec PyProof.Rows PySem.W PySem.Calls PySem.SeqAt

section
variable {prog : Program} {w : World} {A : Around} {E : Value → Shared → Prop} {s : Shared}
theorem call_tuple_lt {Q : Value → Shared → Prop} {l b : Addr} {items items2 : Array Value} {e r : Nat → Bool} (hl : s.heap.IsTuple l items) (hb : s.heap.IsTuple b items2)
    (he : ∀ j (h1 : j < items.size) (h2 : j < items2.size), EqAt A.in1 s items[j] items2[j] (e j)) (hr : ∀ j (h1 : j < items.size) (h2 : j < items2.size), e j = false → RcLt A.in1 s items[j] items2[j] (r j))
    (h : Q (.bool (firstLt e r (decide (items.size < items2.size)) (List.range (min items.size items2.size)))) s) : wpAny (model prog w) A (call (.builtin "tuple.__lt__") [.ref l, .ref b]) Q E s := by
  obtain ⟨⟨cls, dd, data, sl⟩, ho, hc, n, hd⟩ := id hl
  obtain ⟨⟨cls2, dd2, data2, sl2⟩, ho2, hc2, n2, hd2⟩ := id hb
  simp only at hc hd hc2 hd2
  subst hc hd hc2 hd2
  exact call_meets F.slot_tuple_lt ⟨_, ho, rfl⟩ F.entry_tuple_lt (F.args_tuple_lt_2 _ _) (tuple_ltAt l b items items2 n n2 dd dd2 sl sl2 e r) ⟨ho, ho2, he, hr, h⟩
/-- t < u of two tuples that hold data -/
theorem lt_data {xs ys : List PyData} {a b : Value} {as bs : List Addr} {Q : Value → Shared → Prop} (ra : Reads s.heap a (.tuple xs) as) (rb : Reads s.heap b (.tuple ys) bs) (al : alikeAll xs ys = true)
    (room : A.units + min (PyData.tuple xs).depth (PyData.tuple ys).depth < cLine) (hq : Q (.bool (dataLt (.tuple xs) (.tuple ys))) s) : wpAny (model prog w) A (call (.builtin "tuple.__lt__") [a, b]) Q E s := by
  cases ra with
  | @tuple p o us m _ pas a1 a2 a3 inA =>
    cases rb with
    | @tuple r q ws m' _ pbs b1 b2 b3 inB =>
      have lu : us.size = xs.length := (Array.length_toList).symm.trans (SeqAt.ReadsAll.length _ _ _ inA)
      have lw : ws.size = ys.length := (Array.length_toList).symm.trans (SeqAt.ReadsAll.length _ _ _ inB)
      have room' := room_in room
      have same : ∀ j (h1 : j < us.size) (h2 : j < ws.size), EqAt A.in1 s us[j] ws[j] (pairEq xs ys j) := fun j h1 h2 =>
        eqAt_alikeAll xs ys A.in1 s _ _ _ _ inA inB al room' j (by rwa [Array.length_toList]) (by rwa [Array.length_toList])
      have less : ∀ j (h1 : j < us.size) (h2 : j < ws.size), pairEq xs ys j = false → RcLt A.in1 s us[j] ws[j] (dataLt (xs.getD j .none) (ys.getD j .none)) := fun j h1 h2 no =>
        rcLt_alikeAll xs ys A.in1 s _ _ _ _ inA inB al room' j (by rwa [Array.length_toList]) (by rwa [Array.length_toList]) no
      have ans : Q (.bool (firstLt (pairEq xs ys) (fun j => dataLt (xs.getD j .none) (ys.getD j .none)) (decide (us.size < ws.size)) (List.range (min us.size ws.size)))) s := by
        rw [lu, lw, firstLt_toks xs ys al, ← dataLt_tuple]; exact hq
      exact call_tuple_lt ⟨o, a1, a2, m, a3⟩ ⟨q, b1, b2, m', b3⟩ same less ans
theorem oneLt_tuple {xs ys : List PyData} {a b : Value} {as bs : List Addr} {Q : Bool → Shared → Prop} (ra : Reads s.heap a (.tuple xs) as) (rb : Reads s.heap b (.tuple ys) bs) (h : alike (.tuple xs) (.tuple ys) = true)
    (hu : A.units + min (PyData.tuple xs).depth (PyData.tuple ys).depth < cLine) (hq : Q (dataLt (.tuple xs) (.tuple ys)) s) : wpAny (model prog w) A (oneLt' true a b) Q E s := by
  have ty : s.TypeIs a "tuple" := by
    cases ra with
    | tuple e c _ _ => exact ⟨_, e, c⟩
  have al : alikeAll xs ys = true := by simpa only [alike] using h
  rw [oneLt'_eq]
  exact wpAny_bind (wpAny_cRoomFor (room_here hu) (wpAny_bind (wpAny_callSpecialIfBound?_slot ty F.slot_tuple_lt (lt_data ra rb al hu (wpAny_truthy_bool hq)))))
theorem first_one {M : Model} {a : Addr} {o : Obj} {xs : Array Value} {n : Nat} {Q : Option Value → Shared → Prop} (ho : s.heap.get? a = some o) (hc : o.cls = .type "tuple") (hd : o.data = .seq xs n) (h : Q xs[0]? s) :
    wpAny M A (firstOfTuple' (.ref a)) Q E s := by
  have look : Looks M s.heap (typeOf (.ref a)) (.type "tuple") := hc ▸ (Looks.ld ho).andThen .now
  have isT : ¬ ((Value.type "tuple" != Value.type "tuple") = true) := by simp
  rw [kas_first_eq]
  refine wpAny_bind (look.here ?_)
  rw [if_neg isT]
  exact wpAny_bind (listItems_at ho hd (wpAny_pure h))
/-- tuples, their first items -/
theorem firsts_gen {M : Model} : ∀ (vs : List Value) (Q : List (Option Value) → Shared → Prop), (∀ v ∈ vs, ∃ a o xs n, v = .ref a ∧ s.heap.get? a = some o ∧ o.cls = .type "tuple" ∧ o.data = .seq xs n) →
    (∀ os : List (Option Value), os.length = vs.length → (∀ v a o xs n, vs.head? = some v → v = .ref a → s.heap.get? a = some o → o.data = .seq xs n → os.head? = some xs[0]?) → Q os s) → wpAny M A (vs.mapM firstOfTuple') Q E s := by
  intro vs
  induction vs with
  | nil => exact fun Q _ h => List.mapM_nil (f := firstOfTuple') ▸ wpAny_pure (h [] rfl fun _ _ _ _ _ e => by cases e)
  | cons v vs ih =>
    intro Q all h
    obtain ⟨a, o, xs, n, rfl, ho, hc, hd⟩ := all v (.head _)
    rw [List.mapM_cons]
    refine wpAny_bind (first_one ho hc hd (wpAny_bind (ih _ (fun u m => all u (.tail _ m)) fun os len _ => wpAny_pure (h _ (congrArg (· + 1) len) ?_))))
    rintro _ _ _ ys m ⟨⟩ ⟨⟩ e e'
    rw [ho] at e
    cases e
    rw [hd] at e'
    cases e'
    rfl
theorem types_all {M : Model} {vs : List Value} {Q : List Value → Shared → Prop} (all : ∀ v ∈ vs, ∃ a o xs n, v = .ref a ∧ s.heap.get? a = some o ∧ o.cls = .type "tuple" ∧ o.data = .seq xs n) (h : Q (vs.map fun _ => Value.type "tuple") s) :
    wpAny M A (vs.mapM typeOf) Q E s :=
  kas_mapM vs (fun v m Q' q => by
    obtain ⟨a, o, _, _, rfl, ho, hc, _⟩ := all v m
    have look : Looks M s.heap (typeOf (.ref a)) (.type "tuple") := hc ▸ (Looks.ld ho).andThen .now
    exact look.here q) h
theorem kind_tup0 {M : Model} {vs : List Value} {Q : SortKind → Shared → Prop} (h2 : 2 ≤ vs.length) (ht : ∀ v ∈ vs, ∃ a o xs n, v = .ref a ∧ s.heap.get? a = some o ∧ o.cls = .type "tuple" ∧ o.data = .seq xs n)
    (h0 : ∃ v a o n, vs.head? = some v ∧ v = .ref a ∧ s.heap.get? a = some o ∧ o.data = .seq #[] n) (h : Q oneType' s) : wpAny M A (keyKind' vs.toArray) Q E s := by
  have ⟨v, a, o, n, hv, ev, ho, hd⟩ := h0
  have only : wpAny M A (oneTypeOnly' vs.toArray) (fun t s' => t = some (Value.type "tuple") ∧ s' = s) E s := by
    rw [oneTypeOnly'_eq]
    simp only [List.mapM_toArray, map_eq_pure_bind]
    refine wpAny_bind (wpAny_bind (types_all ht (wpAny_pure ?_)))
    match vs, h2 with
    | u :: us, _ =>
      simp only [List.map_cons, List.getElem?_toArray, List.getElem?_cons_zero]
      rw [if_pos (by simp)]
      exact wpAny_pure ⟨rfl, rfl⟩
  rw [keyKind'_eq]
  simp only [List.mapM_toArray, map_eq_pure_bind]
  refine wpAny_bind (wpAny_bind (firsts_gen vs _ ht fun os len hh => wpAny_pure ?_))
  match os, hh v a o #[] n hv ev ho hd with
  | _ :: os', e =>
    cases e
    rw [if_neg (by simp), if_neg (by simp)]
    refine wpAny_bind (wpAny_mono only ?_ fun _ _ q => q)
    rintro _ _ ⟨rfl, rfl⟩
    exact wpAny_pure h
/-- an empty tuple holds nothing -/
theorem empty_holds {h : Heap} {v : Value} {as : List Addr} (r : Reads h v (.tuple []) as) : ∃ a o n, v = .ref a ∧ h.get? a = some o ∧ o.data = .seq #[] n := by
  cases r with
  | @tuple a o us n _ pas e _ d inA =>
    have none : us = #[] := by
      rw [← Array.toList_eq_nil_iff]
      exact List.length_eq_zero_iff.mp (SeqAt.ReadsAll.length _ _ _ inA)
    exact ⟨a, o, n, rfl, e, none ▸ d⟩
theorem tuple_holds {h : Heap} {v : Value} {xs : List PyData} {as : List Addr} (r : Reads h v (.tuple xs) as) : ∃ a o us n, v = .ref a ∧ h.get? a = some o ∧ o.cls = .type "tuple" ∧ o.data = .seq us n := by
  cases r with
  | tuple e c d _ => exact ⟨_, _, _, _, rfl, e, c, d⟩
/-- alike tuples, the first one empty, can be sorted -/
theorem sortsAt_tup0 {vs : List Value} {ds : List PyData} (e : EachIs (fun v d => ∃ as, Reads s.heap v d as) vs ds) (hal : AllAlike ds) (hk : ∀ d ∈ ds, ∃ xs, d = .tuple xs) (h0 : ds.head? = some (.tuple []))
    (hu : ∀ d, d ∈ ds → A.units + d.depth < cLine) : SortsAt prog w A s (dataKind s.heap ds) vs := by
  constructor
  · intro v m
    have ⟨_, md, _, r⟩ := e.left v m
    exact ⟨_, dataKind_some hal md r⟩
  refine ⟨oneType', fun E x y a b Q ha hb q => ?_, fun h2 E Q q => kind_tup0 h2 (fun v m => ?_) ?_ q⟩
  · have ⟨dx, _, mx, rx, ex⟩ := dataKind_inv ha
    have ⟨dy, _, my, ry, ey⟩ := dataKind_inv hb
    subst ex ey
    have like := hal dx mx dy my
    have deep : A.units + min dx.depth dy.depth < cLine := by
      have := hu dx mx
      omega
    have ⟨xs, e1⟩ := hk dx mx
    have ⟨ys, e2⟩ := hk dy my
    subst e1 e2
    rw [keyLt'_oneType]
    exact oneLt_tuple rx ry like deep q
  · have ⟨d, md, _, r⟩ := e.left v m
    have ⟨xs, e1⟩ := hk d md
    exact tuple_holds (e1 ▸ r)
  · match vs, ds, e with
    | v :: _, d :: _, .cons ⟨_, r⟩ _ =>
      have e1 : d = .tuple [] := by simpa using h0
      have ⟨a, o, n, ev, g, gd⟩ := empty_holds (e1 ▸ r)
      exact ⟨v, a, o, n, rfl, ev, g, gd⟩
end

/-! ### the order -/
mutual
theorem eqv_eq : ∀ (a b : D), a.alike b = true → a.eqv b = true → a = b
  | .int i, b, h, e => by cases b <;> simp_all [D.alike, D.eqv]
  | .str i, b, h, e => by cases b <;> simp_all [D.alike, D.eqv]
  | .tup xs, b, h, e => by
    cases b with
    | tup ys => rw [eqvs_eq xs ys (by simpa [D.alike] using h) (by simpa [D.eqv] using e)]
    | _ => simp [D.alike] at h
  | .non, b, h, _ => by simp [D.alike] at h
  | .bl _, b, h, _ => by simp [D.alike] at h
  | .lst _, b, h, _ => by simp [D.alike] at h
  | .ob _, b, h, _ => by simp [D.alike] at h
  | .fn _, b, h, _ => by simp [D.alike] at h
  | .ex _, b, h, _ => by simp [D.alike] at h
  | .scr _, b, h, _ => by simp [D.alike] at h
theorem eqvs_eq : ∀ (a b : List D), alikes a b = true → eqvs a b = true → a = b
  | [], [], _, _ => rfl
  | [], _ :: _, _, e => by simp [eqvs] at e
  | _ :: _, [], _, e => by simp [eqvs] at e
  | x :: xs, y :: ys, h, e => by
    simp only [alikes, Bool.and_eq_true] at h
    simp only [eqvs, Bool.and_eq_true] at e
    rw [eqv_eq x y h.1 e.1, eqvs_eq xs ys h.2 e.2]
end
theorem allAlike_mem {xs : List D} (h : Mn.allAlike xs = true) : ∀ a ∈ xs, ∀ b ∈ xs, a.alike b = true := fun a ha b hb =>
  List.all_eq_true.mp (List.all_eq_true.mp h a ha) b hb
theorem mem_toPs : ∀ {xs : List D} {d : PyData}, d ∈ toPs xs ↔ ∃ x ∈ xs, d = x.toP
  | [], d => by simp [toPs]
  | x :: xs, d => by
    simp only [toPs, List.mem_cons, mem_toPs (xs := xs)]
    constructor
    · rintro (rfl | ⟨y, hy, rfl⟩)
      · exact ⟨x, .inl rfl, rfl⟩
      · exact ⟨y, .inr hy, rfl⟩
    · rintro ⟨y, rfl | hy, rfl⟩
      · exact .inl rfl
      · exact .inr ⟨y, hy, rfl⟩
theorem toPs_map (xs : List D) : toPs xs = xs.map D.toP := by
  induction xs with
  | nil => rfl
  | cons x xs ih => simp [toPs, ih]
theorem ins_perm (lt : D → D → Bool) (x : D) : ∀ l : List D, (ins lt x l).Perm (x :: l)
  | [] => .refl _
  | y :: ys => by
    unfold ins
    split
    · exact ((ins_perm lt x ys).cons y).trans (.swap x y ys)
    · exact .refl _
theorem isort_perm (lt : D → D → Bool) : ∀ l : List D, (isort lt l).Perm l
  | [] => .refl _
  | x :: xs => (ins_perm lt x _).trans ((isort_perm lt xs).cons x)
theorem ins_sorted {lt : D → D → Bool} {x : D} : ∀ {l : List D}, (∀ a ∈ x :: l, ∀ b ∈ x :: l, ∀ c ∈ x :: l, lt b a = false → lt c b = false → lt c a = false) → (∀ a ∈ x :: l, ∀ b ∈ x :: l, lt a b = true → lt b a = false) →
    l.Pairwise (fun a b => lt b a = false) → (ins lt x l).Pairwise (fun a b => lt b a = false)
  | [], _, _, _ => by simp [ins]
  | y :: ys, tr, as, h => by
    obtain ⟨h1, h2⟩ := List.pairwise_cons.mp h
    unfold ins
    split
    · rename_i hl
      have mm : ∀ a, a ∈ x :: ys → a ∈ x :: y :: ys := fun a h => by
        rcases List.mem_cons.mp h with rfl | h
        · simp
        · simp [h]
      refine List.pairwise_cons.mpr ⟨fun z hz => ?_, ins_sorted (fun a ha b hb c hc => tr a (mm a ha) b (mm b hb) c (mm c hc)) (fun a ha b hb => as a (mm a ha) b (mm b hb)) h2⟩
      rcases List.mem_cons.mp ((ins_perm lt x ys).mem_iff.mp hz) with rfl | hz
      · exact as y (by simp) z (by simp) hl
      · exact h1 z hz
    · rename_i hl
      refine List.pairwise_cons.mpr ⟨fun z hz => ?_, h⟩
      have hl : lt y x = false := by simpa using hl
      rcases List.mem_cons.mp hz with rfl | hz
      · exact hl
      · exact tr x (by simp) y (by simp) z (by simp [hz]) hl (h1 z hz)
theorem isort_sorted {lt : D → D → Bool} : ∀ {l : List D}, (∀ a ∈ l, ∀ b ∈ l, ∀ c ∈ l, lt b a = false → lt c b = false → lt c a = false) → (∀ a ∈ l, ∀ b ∈ l, lt a b = true → lt b a = false) →
    (isort lt l).Pairwise (fun a b => lt b a = false)
  | [], _, _ => by simp [isort]
  | x :: xs, tr, as => by
    have mm : ∀ a, a ∈ x :: isort lt xs → a ∈ x :: xs := fun a h => by
      rcases List.mem_cons.mp h with rfl | h
      · simp
      · simp [(isort_perm lt xs).mem_iff.mp h]
    exact ins_sorted (fun a ha b hb c hc => tr a (mm a ha) b (mm b hb) c (mm c hc)) (fun a ha b hb => as a (mm a ha) b (mm b hb))
      (isort_sorted (fun a ha b hb c hc => tr a (by simp [ha]) b (by simp [hb]) c (by simp [hc])) (fun a ha b hb => as a (by simp [ha]) b (by simp [hb])))
theorem dataLe_lt {a b : D} : dataLe false D.toP a b = !dataLt b.toP a.toP := rfl
theorem isort_merge {xs : List D} (h : Mn.allAlike xs = true) : isort D.lt xs = xs.mergeSort (dataLe false D.toP) := by
  have al := allAlike_mem h
  have T : TotalLe (dataLe false D.toP) := sortLe_total _ _ _
  have lt_le : ∀ a ∈ xs, ∀ b ∈ xs, (D.lt b a = false ↔ dataLe false D.toP a b = true) := fun a ha b hb => by
    rw [dataLe_lt, lt_toP b a (al b hb a ha)]
    cases b.lt a <;> simp
  have p1 := isort_perm D.lt xs
  have p2 : (xs.mergeSort (dataLe false D.toP)).Perm xs := List.mergeSort_perm _ _
  have s1 : (isort D.lt xs).Pairwise (fun a b => D.lt b a = false) := by
    refine isort_sorted (fun a ha b hb c hc h1 h2 => ?_) (fun a ha b hb h1 => ?_)
    · exact (lt_le a ha c hc).mpr (T.trans a b c ((lt_le a ha b hb).mp h1) ((lt_le b hb c hc).mp h2))
    · rcases T.total a b with t | t
      · exact (lt_le a ha b hb).mpr t
      · have := (lt_le b hb a ha).mpr t
        rw [h1] at this
        cases this
  have s2 : (xs.mergeSort (dataLe false D.toP)).Pairwise (fun a b => dataLe false D.toP a b = true) := sort_pairwise T xs
  refine List.Perm.eq_of_pairwise (le := fun a b => dataLe false D.toP a b = true) (fun a b ha hb h1 h2 => ?_) ?_ s2 (p1.trans p2.symm)
  · have ha := p1.mem_iff.mp ha
    have hb := p2.mem_iff.mp hb
    have e1 := (lt_le a ha b hb).mpr h1
    have e2 := (lt_le b hb a ha).mpr h2
    cases hq : a.eqv b with
    | true => exact eqv_eq a b (al a ha b hb) hq
    | false =>
      exfalso
      have k := toks_eqv a.toP b.toP (alike_toP a b (al a ha b hb))
      rw [eqv_alike a b (al a ha b hb)] at k
      have l1 := lt_toP a b (al a ha b hb)
      have l2 := lt_toP b a (al b hb a ha)
      rw [e2] at l1
      rw [e1] at l2
      have e3 : keyToks a.toP = keyToks b.toP := lex_total (O := itemOrd) _ _ l1 l2
      have e4 := k.2 hq [] [Sum.inl 0]
      rw [e3, lex_pre] at e4
      have e5 : PyProof.Rows.lexLt itemOrd (keyToks b.toP) (keyToks b.toP) = false := lex_irrefl _
      rw [e5] at e4
      exact absurd e4 (by simp [PyProof.Rows.lexLt])
  · exact s1.imp_of_mem fun ha hb h => (lt_le _ (p1.mem_iff.mp ha) _ (p1.mem_iff.mp hb)).mp h

/-! ### sorted(xs) -/
open L2 in
theorem eachR {W : Wd} {ι : List Addr} {H : Hp} : ∀ {xs : List D} {vs : List V} {us : List Value}, RL W ι H xs vs → L2.Vals vs us → EachIs (fun u d => ∃ v, L2.RelV v u ∧ R W ι H d v) us xs
  | _, _, _, .nil, .nil => .nil
  | _, _, _, .cons r t, .cons q u => .cons ⟨_, q, r⟩ (eachR t u)
open L2 in
theorem each_RL {W : Wd} {ι : List Addr} {H : Hp} : ∀ {us : List Value} {xs : List D}, EachIs (fun u d => ∃ v, L2.RelV v u ∧ R W ι H d v) us xs → ∃ vs, L2.Vals vs us ∧ RL W ι H xs vs
  | _, _, .nil => ⟨[], .nil, .nil⟩
  | _, _, .cons ⟨v, q, r⟩ t => by
    obtain ⟨vs, h1, h2⟩ := each_RL t
    exact ⟨v :: vs, .cons q h1, .cons r h2⟩
theorem okps_mem : ∀ {xs : List D}, okps xs = true → ∀ d ∈ xs, d.isP = true ∧ d.dep ≤ 60
  | [], _, d, h => by simp at h
  | x :: xs, h, d, hd => by
    simp only [okps, isPs, deps, Bool.and_eq_true, decide_eq_true_eq] at h
    rcases List.mem_cons.mp hd with rfl | hd
    · exact ⟨h.1.1, (Nat.max_le.mp (of_decide_eq_true h.2)).1⟩
    · exact okps_mem (xs := xs) (by simp only [okps, Bool.and_eq_true, decide_eq_true_eq]; exact ⟨h.1.2, (Nat.max_le.mp (of_decide_eq_true h.2)).2⟩) d hd
theorem collect_tup {prog : Program} {w : World} {A : Around} {E : Value → Shared → Prop} {s : Shared} {t : Addr} {us : List Value} {Q : List Value → Shared → Prop} (ht : s.heap.IsTuple t us.toArray) (hz : us.length ≤ sizeLine)
    (q : Q us { s with heap := (s.heap.push (seqObj "list" #[] 0)).update s.heap.objs.size (Obj.mapSeq (· ++ us.toArray)) }) : wpAny (model prog w) A (collect (.ref t)) Q E s := by
  obtain ⟨o, go, co, n, dd⟩ := id ht
  unfold collect
  refine wpAny_bind (wpAny_runValue (codeAny_builtin entry_proto_collect' (show wpAny _ _ (do again (.builtin "list.__iadd__" ⟨[← newList [], .ref t], []⟩)) _ _ s from wpAny_bind (wpAny_newList (wpAny_pure ⟨Code.quiet_builtin _ (by decide +kernel), codeAny_builtin entry_list_iadd' ?_⟩)))))
  show wpAny _ _ (Builtin.List.listExtendWith (.ref s.heap.objs.size) (.ref t) (.ref s.heap.objs.size)) _ _ { s with heap := s.heap.push (seqObj "list" #[] 0) }
  unfold Builtin.List.listExtendWith
  have g2 : (s.heap.push (seqObj "list" #[] 0)).get? t = some o := Heap.get?_push_of_some _ go
  have e1 : (Value.type "tuple" == Value.type "tuple") = true := by rfl
  refine wpAny_bind (wpAny_typeOf (T := "tuple") ⟨o, g2, co⟩ ?_)
  rw [if_pos (by rw [e1]; simp)]
  refine wpAny_bind (listItems_at g2 dd (wpAny_bind (listItems_at (xs := #[]) (n := 0) (Heap.get?_push_size _ rfl) rfl ?_)))
  rw [if_neg (by simp)]
  refine wpAny_bind (listUpdate_at (xs := #[]) (n := 0) (Heap.get?_push_size _ rfl) rfl (wpAny_pure ?_) (Nat.zero_le _) (by show (#[] ++ us.toArray).size ≤ sizeLine + 1; simp only [Array.size_append, List.size_toArray, List.length_nil]; omega))
  show wpAny (model prog w) A (do
      let z ← load s.heap.objs.size
      match z.data with
      | .seq xs _ => pure xs.toList
      | _ => unsupported "internal:collect") Q E { s with heap := (s.heap.push (seqObj "list" #[] 0)).update s.heap.objs.size (Obj.mapSeq (· ++ us.toArray)) }
  refine wpAny_bind (wpAny_load (get?_update_seq (Heap.get?_push_size _ rfl) _) ?_)
  show wpAny _ _ (pure ((#[] : Array Value) ++ us.toArray).toList) Q E _
  rw [show ((#[] : Array Value) ++ us.toArray).toList = us by simp]
  exact wpAny_pure q
def SV (prog : Program) (w : World) (A : Around) (s : Shared) (a : Addr) (its : List Value) : Prop := ∀ {κ : PyProof.Rows.KeyKind} {Q : Value → Shared → Prop} {E : Value → Shared → Prop}, SortsAt prog w A.in1.in1 { s with heap := sortingHeap (copyHeap s.heap its) (s.heap.objs.size + 1) its } κ its → its.length ≤ sizeLine →
  Q (.ref (s.heap.objs.size + 1)) { s with heap := sortedAll s.heap its (sortVals κ false its its).toArray } → wpAny (model prog w) A (call (.builtin "sorted") [.ref a]) Q E s
theorem sv_tup {prog : Program} {w : World} {A : Around} {s : Shared} {a : Addr} {its : List Value} (ht : s.heap.IsTuple a its.toArray) : SV prog w A s a its := by
  intro κ Q E S hL q
  refine call_function_entry_kw kind_sorted plain_sorted entry_sorted (args_sorted1 _) ?_
  unfold Builtin.«sorted»
  refine wpAny_bind (m := checkCount "sorted" 1 1 _) (wpAny_pure (wpAny_bind (collect_tup ht hL (wpAny_bind (wpAny_newList ?_ hL)))))
  have hsz : ((s.heap.push (seqObj "list" #[] 0)).update s.heap.objs.size (Obj.mapSeq (· ++ its.toArray))).objs.size = s.heap.objs.size + 1 := by rw [Heap.size_update, size_push']
  show wpAny _ _ _ _ _ { s with heap := copyHeap s.heap its }
  rw [hsz]
  refine wpAny_bind (wpAny_holding (wpAny_call_entry_kw slot_list_sort ⟨_, copyHeap_at s.heap its, rfl⟩ entry_list_sort ?_ (args_list_sort _)))
  show wpAny (model prog w) A.in1.in1 (Builtin.«list.sort» ⟨[.ref (s.heap.objs.size + 1)], []⟩) _ _ _
  refine wpAny_mono (list_sort_vals (s := { s with heap := copyHeap s.heap its }) (P := fun f s' => f = .done (.ret .none) ∧ Q (.ref (s.heap.objs.size + 1)) s') (copyHeap_at s.heap its) S hL ⟨rfl, q⟩) (fun f s' hf => ?_) fun _ _ e => e
  obtain ⟨rfl, hq⟩ := hf
  exact ⟨_, rfl, wpAny_pure ⟨_, rfl, hq⟩⟩
open L2 in
theorem svD {prog : Program} {w : World} {A : Around} {E : Value → Shared → Prop} {s : Shared} {W : Wd} {ι : List Addr} {H : Hp} {a : Addr} {its : List Value} {xs : List D} {Q : Value → Shared → Prop} (hL : SV prog w A s a its) (e : EachIs (fun u d => ∃ v, L2.RelV v u ∧ R W ι H d v) its xs) (er : EachIs (fun v (b : D) => ∃ as, Reads s.heap v b.toP as) its xs) (hal : AllAlike (xs.map D.toP)) (hk : Sortable (xs.map D.toP)) (hz : xs.length ≤ sizeLine)
    (hu : ∀ b, b ∈ xs → A.units + 2 + b.toP.depth < cLine) (h : ∀ out, out.length = xs.length → EachIs (fun u d => ∃ v, L2.RelV v u ∧ R W ι H d v) out (xs.mergeSort (dataLe false D.toP)) → Q (.ref (s.heap.objs.size + 1)) { s with heap := sortedAll s.heap its (List.toArray out) }) : wpAny (model prog w) A (call (.builtin "sorted") [.ref a]) Q E s := by
  have e2 : EachIs (fun v (b : D) => ∃ as, Reads (sortingHeap (copyHeap s.heap its) (s.heap.objs.size + 1) its) v b.toP as) its xs := er.mono fun _ _ ⟨as, r⟩ => ⟨as, PyProof.Rows.Reads.keeps (fun _ _ => sorting_copy_old) r⟩
  refine hL (SortsAt.data (s := { s with heap := sortingHeap (copyHeap s.heap its) (s.heap.objs.size + 1) its }) (each_map (R := fun v d => ∃ as, Reads (sortingHeap (copyHeap s.heap its) (s.heap.objs.size + 1) its) v d as) D.toP e2) hal hk (bound_map hu)) (by rw [e.length]; exact hz) ?_
  exact h _ (by rw [sortVals_length false rfl]; exact e.length) (sortVals_data false e e2 hal)
open L2 in
theorem sorted_gen {W : Wd} {X : Cx} {pins : List (Addr × Obj)} {σ : L2.St} {H : Hp} {s : Shared} {ι : List Addr} {st : Store} {Q : VK} (hu : X.A.units + 80 < cLine) (I : Inv X pins σ H s) (S : Sim W ι st H) {a : Addr} {vs : List V} {xs : List D}
    {its : List Value} (hL : SV X.prog X.w X.A s a its) (rv : Vals vs its) (hlen : vs.length = its.length) (z : vs.length ≤ sizeLine) (rl : RL W ι H xs vs) (post : PostR W ι H Q (pSorted xs st)) : wpAny (model X.prog X.w) X.A (call (.builtin "sorted") [.ref a]) (EP X pins σ Q) X.xe s := by
  unfold pSorted at post
  split at post
  · rename_i hc
    simp only [Bool.and_eq_true] at hc
    obtain ⟨⟨h1, h2⟩, h3⟩ := hc
    have al := allAlike_mem h2
    have hal : AllAlike (xs.map D.toP) := fun d hd d' hd' => by
      obtain ⟨x, hx, rfl⟩ := List.mem_map.mp hd
      obtain ⟨y, hy, rfl⟩ := List.mem_map.mp hd'
      exact alike_toP x y (al x hx y hy)
    have er : EachIs (fun u b => ∃ as, Reads s.heap u b.toP as) its xs := by
      have base := each_mem (eachR rl rv)
      exact base.mono fun u d ⟨⟨v, q, r⟩, hd⟩ => Dp.reads I d.toP v u (r.dp (okps_mem h1 d hd).1) q
    have hxl : xs.length = its.length := by rw [rl.length, hlen]
    have fin : ∀ out : List Value, out.length = xs.length → EachIs (fun u d => ∃ v, L2.RelV v u ∧ R W ι H d v) out (xs.mergeSort (dataLe false D.toP)) → EP X pins σ Q (.ref (s.heap.objs.size + 1)) { s with heap := sortedAll s.heap its (List.toArray out) } := by
      intro out ho eo
      rw [← isort_merge h2] at eo
      obtain ⟨ws, hw, rw'⟩ := each_RL eo
      obtain ⟨zz, q⟩ := post.newL S rw'
      obtain ⟨ep, he'⟩ := PyProof.Rows.sortedAll_at s.heap its (List.toArray out)
      refine ⟨.ref _, upd H (s.heap.objs.size + 1) (.lst ws), I.laid (t' := s.toks) (fun _ _ => PyProof.Rows.sortedAll_old) (Nat.le_succ _) ⟨zz, out, ep, hw, he'⟩, rfl, q _ (I.hok.fresh (Nat.le_succ _))⟩
    have dep : ∀ b ∈ xs, X.A.units + 2 + b.toP.depth < cLine := fun b hb => by
      have := (okps_mem h1 b hb).2
      rw [dep_toP]
      omega
    have hz : xs.length ≤ sizeLine := by rw [hxl, ← hlen]; exact z
    unfold sortable at h3
    simp only [Bool.or_eq_true, Bool.and_eq_true] at h3
    rcases h3 with (h3 | h3) | h3
    · refine svD hL (eachR rl rv) er hal (.inl fun d hd => ?_) hz dep fin
      obtain ⟨x, hx, rfl⟩ := List.mem_map.mp hd
      have := List.all_eq_true.mp h3 x hx
      cases x with
      | tup ys =>
        cases ys with
        | nil => simp [isTupC] at this
        | cons y r => exact ⟨_, _, by simp [D.toP, toPs]; exact ⟨rfl, rfl⟩⟩
      | _ => simp [isTupC] at this
    · refine svD hL (eachR rl rv) er hal (.inr fun d hd => ?_) hz dep fin
      obtain ⟨x, hx, rfl⟩ := List.mem_map.mp hd
      have h4 := List.all_eq_true.mp h3 x hx
      have h5 := al x hx x hx
      cases x <;> simp_all [isTupD, D.toP, D.alike]
    · obtain ⟨h4, h5⟩ := h3
      have er' : EachIs (fun u b => ∃ as, Reads (sortingHeap (copyHeap s.heap its) (s.heap.objs.size + 1) its) u b.toP as) its xs := er.mono fun _ _ ⟨as, r⟩ => ⟨as, PyProof.Rows.Reads.keeps (fun _ _ => sorting_copy_old) r⟩
      have em : EachIs (fun u d => ∃ as, Reads (sortingHeap (copyHeap s.heap its) (s.heap.objs.size + 1) its) u d as) its (xs.map D.toP) := each_map (R := fun u d => ∃ as, Reads (sortingHeap (copyHeap s.heap its) (s.heap.objs.size + 1) its) u d as) D.toP er'
      refine hL (sortsAt_tup0 (s := { s with heap := sortingHeap (copyHeap s.heap its) (s.heap.objs.size + 1) its }) em hal (fun d hd => ?_) ?_ (fun d hd => ?_)) (by rw [← hxl]; exact hz)
        (fin _ (by rw [sortVals_length false rfl]; exact hxl.symm) (sortVals_data false (eachR rl rv) er' hal))
      · obtain ⟨x, hx, rfl⟩ := List.mem_map.mp hd
        have := List.all_eq_true.mp h5 x hx
        cases x with
        | tup ys => exact ⟨_, by simp [D.toP]; rfl⟩
        | _ => simp [isTupD] at this
      · cases xs with
        | nil => simp at h4
        | cons x r =>
          dsimp only at h4
          cases x with
          | tup ys =>
            cases ys with
            | nil => simp [D.toP, toPs]
            | cons y r => simp [isTup0] at h4
          | _ => simp [isTup0] at h4
      · obtain ⟨x, hx, rfl⟩ := List.mem_map.mp hd
        have := dep x hx
        show X.A.units + 1 + 1 + _ < _
        omega
  · exact post.elim
open L2 in
theorem sorted_run {W : Wd} {X : Cx} {pins : List (Addr × Obj)} {σ : L2.St} {H : Hp} {s : Shared} {ι : List Addr} {st : Store} {Q : VK} (hu : X.A.units + 80 < cLine) (I : Inv X pins σ H s) (S : Sim W ι st H) {a : Addr} {vs : List V} {xs : List D}
    (hl : Rd H a (.lst vs) ∨ TupH H a vs) (rl : RL W ι H xs vs) (post : PostR W ι H Q (pSorted xs st)) : wpAny (model X.prog X.w) X.A (call (.builtin "sorted") [.ref a]) (EP X pins σ Q) X.xe s := by
  rcases hl with hl | hl
  · obtain ⟨z, its, n, rv, hlen, e⟩ := lstR I hl
    have hL : s.heap.IsList a its.toArray := ⟨_, e, rfl, _, rfl⟩
    exact sorted_gen hu I S (fun S' h1 q => sorted_vals hL S' h1 q) rv hlen z rl post
  · obtain ⟨its, rv, pl, hz⟩ := I.tuple hl.sq
    exact sorted_gen hu I S (sv_tup (show s.heap.IsTuple a its.toArray from pl)) rv rv.length hz rl post
end Mn

set_option Elab.async false
set_option linter.all false
set_option maxRecDepth 100000
set_option maxHeartbeats 4000000
/-! Snd6: subscripts, slices, built-ins, methods. -/
namespace Mn
open PySem PySem.Spec PyProof.Rows L2

section
variable {W : Wd} {ι : List Addr} {H : Hp} {st : Store} {Q : VK}
theorem ixOf_eq (n : Nat) (i : Int) : ixOf n i = ixN n i := rfl
theorem RL.atD {xs : List D} {vs : List V} {i : Int} {d : D} (r : RL W ι H xs vs) (e : Mn.atD xs i = some d) : ∃ v, atI vs i = some v ∧ R W ι H d v := by
  unfold Mn.atD at e
  unfold atI
  rw [ixOf_eq, r.length] at e
  cases h : ixN vs.length i with
  | none => rw [h] at e; cases e
  | some j =>
    rw [h] at e
    exact r.get e
theorem PostR.opt {o : Option D} (p : PostR W ι H Q (optR o st)) : ∃ d, o = some d ∧ PostR W ι H Q (.ok d st) := by
  cases o with
  | none => exact p.elim
  | some d => exact ⟨d, rfl, p⟩
theorem bnd_eq (n d : Nat) (o : Option Int) : bnd n d o = HT.sIx n d o := by
  cases o <;> rfl
theorem RL.cut {xs : List D} {vs : List V} (r : RL W ι H xs vs) (lo hi : Option Int) : RL W ι H (Mn.cut xs lo hi) (cutV vs lo hi) := by
  unfold Mn.cut cutV
  simp only [bnd_eq, r.length]
  exact (r.drop _).take _
end

/-! ### a[i] -/
theorem ix_any {W : Wd} {X : Cx} (hK : X.K = W.K) (hP : X.prog = W.P) (hw : X.w = W.w) (hu : X.A.units + 66 < cLine) : IxR X (r2 W pIdx) := by
  intro value slice pins s σ H x y v u Q I rx ry h hs
  obtain ⟨da, db, st, ι, S, ra, rb, post⟩ := h
  have seqL : ∀ {xs : List D} {i : Int} {p : Addr} {vs : List V}, x = .ref p → y = .int i → Rd H p (.lst vs) → RL W ι H xs vs → PostR W ι H Q (optR (atD xs i) st) → wpAny (model X.prog X.w) X.A (subscriptTail value slice v u) (EP X pins σ Q) X.xe s := by
    intro xs i p vs e1 e2 h1 h2 p2
    subst e1; subst e2
    obtain ⟨d, h3, p3⟩ := p2.opt
    obtain ⟨w, h4, h5⟩ := h2.atD h3
    exact ix_list value slice pins s σ H _ _ v u Q I rx ry ⟨p, vs, i, w, rfl, rfl, .inl h1, h4, p3.here S h5⟩ hs
  have seqT : ∀ {xs : List D} {i : Int} {p : Addr} {vs : List V}, x = .ref p → y = .int i → TupH H p vs → RL W ι H xs vs → PostR W ι H Q (optR (atD xs i) st) → wpAny (model X.prog X.w) X.A (subscriptTail value slice v u) (EP X pins σ Q) X.xe s := by
    intro xs i p vs e1 e2 h1 h2 p2
    subst e1; subst e2
    obtain ⟨d, h3, p3⟩ := p2.opt
    obtain ⟨w, h4, h5⟩ := h2.atD h3
    exact ix_tup value slice pins s σ H _ _ v u Q I rx ry ⟨p, vs, i, w, rfl, rfl, h1.sq, h4, p3.here S h5⟩ hs
  cases ra with
  | scr h1 =>
    rename_i ns
    cases rb with
    | int i =>
      simp only [pIdx] at post
      split at post
      · rename_i c hc
        have hc' : atI (ns.map V.int) i = some (.int c) := by
          have hc : (ixN ns.length i).bind (fun j => ns[j]?) = some c := hc
          show (ixN (ns.map V.int).length i).bind (fun j => (ns.map V.int)[j]?) = _
          rw [List.length_map]
          cases hj : ixN ns.length i with
          | none => rw [hj] at hc; cases hc
          | some j =>
            rw [hj] at hc
            show (ns.map V.int)[j]? = _
            rw [List.getElem?_map, show ns[j]? = some c from hc]
            rfl
        exact ix_list value slice pins s σ H _ _ v u Q I rx ry ⟨_, _, i, .int c, rfl, rfl, scr_dp hK h1, hc', post.here S (.int _)⟩ hs
      · exact post.elim
    | _ => exact post.elim
  | tup h1 h2 h3 =>
    cases rb with
    | int i => exact seqT rfl rfl h1 h3 post
    | _ => exact post.elim
  | lst h1 h2 h3 =>
    cases rb with
    | int i => exact seqL rfl rfl h1 h3 post
    | _ => exact post.elim
  | str z =>
    cases rb with
    | int i =>
      simp only [pIdx] at post
      split at post
      · rename_i c hc
        split at post
        · rename_i hz
          exact ix_str value slice pins s σ H _ _ v u Q I rx ry ⟨z, i, c, rfl, rfl, by rw [← maxLen_eq]; exact hz, hc, post.here S (.str _)⟩ hs
        · exact post.elim
      · exact post.elim
    | _ => exact post.elim
  | ob hn =>
    rename_i n a
    simp only [pIdx] at post
    cases ho : st[n]? with
    | none => rw [ho] at post; exact post.elim
    | some o =>
      rw [ho] at post
      cases o with
      | lst xs =>
        obtain ⟨vs, g1, g2⟩ := S.ob n a _ hn ho
        cases rb with
        | int i => exact seqL rfl rfl (.inl g1) g2 post
        | _ => exact post.elim
      | dct kvs =>
        dsimp only at post
        split at post
        · rename_i hk
          obtain ⟨k, xs, rfl, k1, k2⟩ := keyOk_of hk
          obtain ⟨ys, g1, g2, g3, g4⟩ := DicR.of I hP hw (S.ob n a _ hn ho)
          obtain ⟨d, e, p3⟩ := post.opt
          cases rb with
          | tup t1 t2 t3 =>
            rename_i c vs
            cases ry
            cases rx
            have hi : (nestedKind X.prog X.w).is s.heap k c := ⟨R.nest I (.tup t1 t2 t3) k1 rfl, k2⟩
            have hr : (nestedKind X.prog X.w).room X.A.in1 := by show X.A.units + 1 + 8 < cLine; omega
            rcases paired_look k1 g4 with ⟨p1, _⟩ | ⟨d', v', a', u', p1, p2, p4, p5⟩
            · rw [e] at p1; cases p1
            · rw [e] at p1
              cases p1
              exact tail_any (T := "dict") g1.typeIs slot_dict_getitem.lookup (wpAny_getItem_heap hr hi g1 p2 ⟨v', H, I.tok _, p5, p3.here S p4⟩) hs
        · exact post.elim
      | ins c fs => exact post.elim
  | _ => exact post.elim

/-! ### a[lo:hi] -/
def r3 (W : Wd) (f : D → Option Int → Option Int → Store → Res D) : V → Option Int → Option Int → Hp → VK → Prop := fun x lo hi H Q => ∃ da st ι, Sim W ι st H ∧ R W ι H da x ∧ PostR W ι H Q (f da lo hi st)
theorem sl_any {W : Wd} {X : Cx} : SlR X (r3 W pSl) := by
  intro pins s σ H x v vl vu lo hi sl Q I rx hs pl pu h
  obtain ⟨da, st, ι, S, ra, post⟩ := h
  have gen : ∀ {xs : List D} {b : Bool}, asL st da = some xs → PostR W ι H Q (newL b (cut xs lo hi) st) → ∃ T id, typeLookup (.type T) "__getitem__" = pure (some (.builtin id)) ∧ s.TypeIs v T ∧ wpAny (model X.prog X.w) X.A (getItem v (.ref sl)) (EP X pins σ Q) X.xe s := by
    intro xs b e p
    obtain ⟨a, vs, rfl, h1, h2⟩ := ra.asL S e
    obtain ⟨z, q⟩ := p.newL S (h2.cut lo hi)
    exact sl_list pins s σ H _ v vl vu lo hi sl Q I rx hs pl pu ⟨a, vs, rfl, .inl h1, q⟩
  have gen' : ∀ {b : Bool}, PostR W ι H Q (match asL st da with
    | some xs => newL b (cut xs lo hi) st
    | none => .err) → ∃ T id, typeLookup (.type T) "__getitem__" = pure (some (.builtin id)) ∧ s.TypeIs v T ∧ wpAny (model X.prog X.w) X.A (getItem v (.ref sl)) (EP X pins σ Q) X.xe s := by
    intro b p
    cases e : asL st da with
    | none => rw [e] at p; exact p.elim
    | some xs => rw [e] at p; exact gen e p
  cases ra with
  | str z =>
    simp only [pSl] at post
    split at post
    · rename_i hz
      refine sl_str pins s σ H _ v vl vu lo hi sl Q I rx hs pl pu ⟨z, rfl, by rw [← maxLen_eq]; exact hz, ?_⟩
      have e : cutS z lo hi = ⟨(cut z.cps.toList lo hi).toArray⟩ := by
        unfold cutS cut
        simp only [bnd_eq]
        have : z.cps.toList.length = z.length := by simp [Str.length]
        rw [this]
      rw [e]
      exact post.here S (.str _)
    · exact post.elim
  | tup h1 h2 h3 =>
    rename_i a xs vs
    have post : PostR W ι H Q (newT (cut xs lo hi) st) := post
    obtain ⟨z, q⟩ := post.newT S (h3.cut lo hi)
    refine sl_tupF pins s σ H _ v vl vu lo hi sl Q I rx hs pl pu ⟨a, vs, rfl, h1.sq, fun hw => ?_, fun _ => q⟩
    have e : cut xs lo hi = xs := by
      unfold cut
      simp only [bnd_eq, h3.length, hw.1, hw.2]
      rw [List.drop_zero, Nat.sub_zero, ← h3.length, List.take_length]
    rw [e] at post
    unfold newT at post
    split at post
    · exact post.here S (.tup h1 h2 h3)
    · exact post.elim
  | lst h1 h2 h3 => exact gen' post
  | ob h => exact gen' post
  | _ => exact post.elim

/-! ### built-ins -/
theorem isPs_mem2 : ∀ {xs : List D}, isPs xs = true → ∀ d ∈ xs, d.isP = true
  | [], _, _, h => by cases h
  | x :: xs, h, d, hd => by
    have h : (x.isP && isPs xs) = true := h
    rw [Bool.and_eq_true] at h
    rcases List.mem_cons.mp hd with e | e
    · rw [e]; exact h.1
    · exact isPs_mem2 h.2 d e
def rC (W : Wd) (f : List D → Store → Res D) : List V → Hp → VK → Prop := fun xs H Q => ∃ ds st ι, Sim W ι st H ∧ RL W ι H ds xs ∧ PostR W ι H Q (f ds st)
section
variable {W : Wd} {X : Cx}
theorem minI_le : ∀ (m : Int) (l : List Int), minI m l ∈ m :: l ∧ ∀ y ∈ m :: l, minI m l ≤ y
  | m, [] => by simp [minI]
  | m, x :: xs => by
    obtain ⟨h1, h2⟩ := minI_le (if x < m then x else m) xs
    simp only [minI]
    by_cases hx : x < m
    · rw [if_pos hx] at h1 h2 ⊢
      refine ⟨by rcases List.mem_cons.mp h1 with h | h <;> simp [h], fun y hy => ?_⟩
      simp only [List.mem_cons] at hy
      rcases hy with rfl | rfl | hy
      · have := h2 x (by simp); omega
      · exact h2 y (by simp)
      · exact h2 y (by simp [hy])
    · rw [if_neg hx] at h1 h2 ⊢
      refine ⟨by rcases List.mem_cons.mp h1 with h | h <;> simp [h], fun y hy => ?_⟩
      simp only [List.mem_cons] at hy
      rcases hy with rfl | rfl | hy
      · exact h2 y (by simp)
      · have := h2 m (by simp); omega
      · exact h2 y (by simp [hy])
theorem maxI_le : ∀ (m : Int) (l : List Int), maxI m l ∈ m :: l ∧ ∀ y ∈ m :: l, y ≤ maxI m l
  | m, [] => by simp [maxI]
  | m, x :: xs => by
    obtain ⟨h1, h2⟩ := maxI_le (if x > m then x else m) xs
    simp only [maxI]
    by_cases hx : x > m
    · rw [if_pos hx] at h1 h2 ⊢
      refine ⟨by rcases List.mem_cons.mp h1 with h | h <;> simp [h], fun y hy => ?_⟩
      simp only [List.mem_cons] at hy
      rcases hy with rfl | rfl | hy
      · have := h2 x (by simp); omega
      · exact h2 y (by simp)
      · exact h2 y (by simp [hy])
    · rw [if_neg hx] at h1 h2 ⊢
      refine ⟨by rcases List.mem_cons.mp h1 with h | h <;> simp [h], fun y hy => ?_⟩
      simp only [List.mem_cons] at hy
      rcases hy with rfl | rfl | hy
      · exact h2 y (by simp)
      · have := h2 m (by simp); omega
      · exact h2 y (by simp [hy])
theorem vals3 {x y z : V} {us : List Value} (r : Vals [x, y, z] us) : ∃ a b c, us = [a, b, c] ∧ RelV x a ∧ RelV y b ∧ RelV z c := by
  cases r with
  | cons r1 r =>
    cases r with
    | cons r2 r =>
      cases r with
      | cons r3 r =>
        cases r
        exact ⟨_, _, _, rfl, r1, r2, r3⟩
theorem asLb {ι : List Addr} {H : Hp} {st : Store} {d : D} {v : V} {β : Type} {f : List D → Option β} {b : β} (r : R W ι H d v) (S : Sim W ι st H) (e : (asL st d).bind f = some b) : ∃ xs a vs, f xs = some b ∧ v = .ref a ∧ Rd H a (.lst vs) ∧ RL W ι H xs vs := by
  cases h : asL st d with
  | none => rw [h] at e; cases e
  | some xs =>
    rw [h] at e
    obtain ⟨a, vs, h1, h2, h3⟩ := r.asL S h
    exact ⟨xs, a, vs, e, h1, h2, h3⟩
theorem cr_len (hK : X.K = W.K) : CallR X (.builtin "len") (rC W bLen) := by
  intro pins s σ H xs us Q I r h
  obtain ⟨ds, st, ι, S, rl, post⟩ := h
  cases rl with
  | nil => exact post.elim
  | cons r1 rl =>
    cases rl with
    | cons r2 rl => cases r1 <;> exact post.elim
    | nil =>
      have gen : ∀ {d : D} {v : V}, R W ι H d v → Vals [v] us → PostR W ι H Q (match asQ st d with
          | some xs => .ok (.int xs.length) st
          | none => .err) → wpAny (model X.prog X.w) X.A (call (.builtin "len") us) (EP X pins σ Q) X.xe s := by
        intro d v rd r p
        cases e : asQ st d with
        | none => rw [e] at p; exact p.elim
        | some xs =>
          rw [e] at p
          obtain ⟨a, vs, rfl, h1, h2⟩ := rd.asQ S e
          refine call_len_seq pins s σ H _ us Q I r ⟨a, vs, rfl, ?_, ?_⟩
          · rcases h1 with h1 | h1
            · exact .inl (.inl h1)
            · exact .inr h1.sq
          · rw [← h2.length]
            exact p.here S (.int _)
      cases r1 with
      | scr h1 =>
        rename_i ns
        refine call_len_seq pins s σ H _ us Q I r ⟨_, _, rfl, .inl (scr_dp hK h1), ?_⟩
        rw [List.length_map]
        exact PostR.here (d := .int ns.length) post S (.int _)
      | str z =>
        simp only [bLen] at post
        split at post
        · rename_i hz
          exact call_len_str pins s σ H _ us Q I r ⟨z, rfl, by rw [← maxLen_eq]; exact hz, post.here S (.int _)⟩
        · exact post.elim
      | non => exact gen .non r post
      | bl b => exact gen (.bl b) r post
      | int b => exact gen (.int b) r post
      | tup h1 h2 h3 => exact gen (.tup h1 h2 h3) r post
      | lst h1 h2 h3 => exact gen (.lst h1 h2 h3) r post
      | ob h1 => exact gen (.ob h1) r post
      | fn n => exact gen (.fn n) r post
      | ex h1 => exact gen (.ex h1) r post
theorem cr_all' (hc : X.calm = true) : CallR X (.builtin "all") (rC W (bAll fun bs => bs.all id)) := by
  intro pins s σ H xs us Q I r h
  obtain ⟨ds, st, ι, S, rl, post⟩ := h
  cases rl with
  | nil => exact post.elim
  | cons r1 rl =>
    cases rl with
    | cons r2 rl => exact post.elim
    | nil =>
      simp only [bAll] at post
      split at post
      · rename_i bs hb
        obtain ⟨xs, a, vs, e, rfl, h1, h2⟩ := asLb r1 S hb
        exact cr_all hc pins s σ H _ us Q I r ⟨a, bs, rfl, by rw [← h2.dBools e]; exact .inl h1, post.here S (.bl _)⟩
      · exact post.elim
theorem cr_any' (hc : X.calm = true) : CallR X (.builtin "any") (rC W (bAll fun bs => bs.any id)) := by
  intro pins s σ H xs us Q I r h
  obtain ⟨ds, st, ι, S, rl, post⟩ := h
  cases rl with
  | nil => exact post.elim
  | cons r1 rl =>
    cases rl with
    | cons r2 rl => exact post.elim
    | nil =>
      simp only [bAll] at post
      split at post
      · rename_i bs hb
        obtain ⟨xs, a, vs, e, rfl, h1, h2⟩ := asLb r1 S hb
        exact cr_any hc pins s σ H _ us Q I r ⟨a, bs, rfl, by rw [← h2.dBools e]; exact .inl h1, post.here S (.bl _)⟩
      · exact post.elim
theorem sum_tup {prog : Program} {w : World} {A : Around} {E : Value → Shared → Prop} {s : Shared} {t : Addr} {us : List Value} {ns : List Int} {Q : Value → Shared → Prop} (hh : A.handled = none) (ht : s.heap.IsTuple t us.toArray) (hi : IntsAre us ns)
    (h : ∀ h' tk t', (∀ b o, s.heap.get? b = some o → h'.get? b = some o) → Q (.int ns.sum t') { s with heap := h', toks := tk }) : wpAny (model prog w) A (call (.builtin "sum") [.ref t]) Q E s := by
  obtain ⟨ws, ew⟩ := hi.allInts.items
  have hn : numsOf (intItems ws).toList = ns := by rw [← ew]; exact hi.numsOf
  rw [nums_intItems] at hn
  rw [ew] at ht
  refine PySem.W.ktm_sumG hh ht fun h' tk t' kp => ?_
  have fin := h h' tk t' kp
  rw [preSum_eq, List.take_of_length_le (by simp), hn]
  exact fin
theorem cr_sum' (hc : X.calm = true) : CallR X (.builtin "sum") (rC W bSum) := by
  intro pins s σ H xs us Q I r h
  obtain ⟨ds, st, ι, S, rl, post⟩ := h
  cases rl with
  | nil => exact post.elim
  | cons r1 rl =>
    cases rl with
    | cons r2 rl => cases r1 <;> exact post.elim
    | nil =>
      have one : ∀ {d : D} {v : V}, R W ι H d v → Vals [v] us → PostR W ι H Q (match (asL st d).bind dInts with
          | some is => .ok (.int is.sum) st
          | none => .err) → wpAny (model X.prog X.w) X.A (call (.builtin "sum") us) (EP X pins σ Q) X.xe s := by
        intro d v rd r p
        split at p
        · rename_i bs hb
          obtain ⟨xs, a, vs, e, rfl, h1, h2⟩ := asLb rd S hb
          exact cr_sum hc pins s σ H _ us Q I r ⟨a, bs, rfl, by rw [← h2.dInts e]; exact .inl h1, p.here S (.int _)⟩
        · exact p.elim
      cases r1 with
      | tup h1 h2 h3 =>
        rename_i a ys vs
        simp only [bSum] at post
        split at post
        · rename_i is hd
          have ev := h3.dInts hd
          subst ev
          obtain ⟨u, eu, ru⟩ := vals1 r
          subst eu
          cases ru
          obtain ⟨its, rv, pt, _⟩ := I.tuple h1.sq
          exact sum_tup (I.ok.hd hc) (show s.heap.IsTuple a its.toArray from pt) rv.ints fun h' tk t' kp => ⟨.int _, H, I.kept kp, ⟨_, rfl⟩, post.here S (.int _)⟩
        · exact post.elim
      | non => exact one .non r post
      | bl b => exact one (.bl b) r post
      | int b => exact one (.int b) r post
      | str b => exact one (.str b) r post
      | lst h1 h2 h3 => exact one (.lst h1 h2 h3) r post
      | ob h1 => exact one (.ob h1) r post
      | fn n => exact one (.fn n) r post
      | ex h1 => exact one (.ex h1) r post
      | scr h1 => exact one (.scr h1) r post
theorem minD_mem : ∀ (x : D) (xs : List D), Mn.minD x xs ∈ x :: xs
  | x, [] => by simp [Mn.minD]
  | x, y :: ys => by
    have := minD_mem (if y.lt x then y else x) ys
    unfold Mn.minD
    rcases List.mem_cons.mp this with e | e
    · rw [e]
      split <;> simp
    · simp [e]
theorem minD_toP : ∀ (x : D) (xs : List D), (∀ a ∈ x :: xs, ∀ b ∈ x :: xs, a.alike b = true) → (Mn.minD x xs).toP = PySem.W.minD x.toP (toPs xs)
  | x, [], _ => rfl
  | x, y :: ys, h => by
    have hl := lt_toP y x (h y (by simp) x (by simp))
    have ih := minD_toP (if y.lt x then y else x) ys fun a ha b hb => h a (by
      rcases List.mem_cons.mp ha with e | e
      · rw [e]; split <;> simp
      · simp [e]) b (by
      rcases List.mem_cons.mp hb with e | e
      · rw [e]; split <;> simp
      · simp [e])
    unfold Mn.minD
    rw [ih]
    show _ = PySem.W.minD x.toP (y.toP :: toPs ys)
    unfold PySem.W.minD
    rw [List.foldl_cons]
    congr 1
    cases hlt : y.lt x with
    | true =>
      rw [hlt] at hl
      have hl : PySem.W.dataLt y.toP x.toP = true := hl
      rw [if_pos rfl, if_pos hl]
    | false =>
      rw [hlt] at hl
      have hl : PySem.W.dataLt y.toP x.toP = false := hl
      rw [if_neg (by decide), if_neg (by rw [hl]; decide)]
theorem toP_inj {a b : D} (h : a.alike b = true) (e : a.toP = b.toP) (hp : a.isP = true) : a = b := by
  refine eqv_eq a b h ?_
  rw [← eqv_alike a b h, ← e]
  exact SeqAt.eqv_refl _ (isP_lay a hp)
theorem min_ts (hc : X.calm = true) (hu : X.A.units + 66 < cLine) {pins : List (Addr × Obj)} {s : Shared} {σ : L2.St} {H : Hp} {Q : VK} {us : List Value} {ι : List Addr} {st : Store} {d : D} {v : V} (I : Inv X pins σ H s) (S : Sim W ι st H) (rd : R W ι H d v) (r : Vals [v] us) (p : PostR W ι H Q (minTs st d)) : wpAny (model X.prog X.w) X.A (call (.builtin "min") us) (EP X pins σ Q) X.xe s := by
  unfold minTs at p
  split at p
  · rename_i x xs hb
    split at p
    · rename_i hk
      simp only [Bool.and_eq_true] at hk
      obtain ⟨⟨ho, hal⟩, htp⟩ := hk
      have hmem := allAlike_mem hal
      obtain ⟨a, vs, ev, h1, h2⟩ := rd.asL S hb
      subst ev
      obtain ⟨u, eu, ru⟩ := vals1 r
      subst eu
      cases ru
      obtain ⟨its, rv, pl, _⟩ := I.list (.inl h1)
      obtain ⟨as, hr⟩ := Dp.readsAll I (toPs (x :: xs)) vs its (h2.dp (okps_isP ho)) rv
      have hdp : PyData.depthAll (toPs (x :: xs)) ≤ 60 := by rw [deps_toP]; exact okps_dep ho
      have hAA : PySem.W.AlikeAll (x.toP :: toPs xs) := by
        refine ⟨fun y hy z hz => ?_, fun y hy => ?_⟩
        · obtain ⟨y', hy', e1⟩ := mem_toPs.mp (show y ∈ toPs (x :: xs) from hy)
          obtain ⟨z', hz', e2⟩ := mem_toPs.mp (show z ∈ toPs (x :: xs) from hz)
          subst e1; subst e2
          exact alike_toP _ _ (hmem y' hy' z' hz')
        · obtain ⟨y', hy', e1⟩ := mem_toPs.mp (show y ∈ toPs (x :: xs) from hy)
          have := List.all_eq_true.mp htp y' hy'
          subst e1
          cases y' with
          | tup zs => intro z; cases z
          | _ => cases this
      refine PySem.W.min_list_data (vs := its.toArray) (I.ok.hd hc) pl.isList (show ReadsAll s.heap its.toArray.toList (x.toP :: toPs xs) as from hr) hAA (by
        have : PyData.depthAll (x.toP :: toPs xs) ≤ 60 := hdp
        omega) fun i v h' tk bs hv hr' kp => ?_
      have hv' : its[i]? = some v := by simpa using hv
      obtain ⟨w, hw, rw_⟩ : ∃ w, vs[i]? = some w ∧ L2.RelV w v := by
        have hlt := (List.getElem?_eq_some_iff.mp hv').1
        have hlt2 : i < vs.length := by rw [rv.length]; exact hlt
        obtain ⟨v2, hv2, r2⟩ := rv.get (List.getElem?_eq_getElem hlt2)
        have := Option.some.inj (hv'.symm.trans hv2)
        subst this
        exact ⟨_, List.getElem?_eq_getElem hlt2, r2⟩
      obtain ⟨di, hdi, rdi⟩ := h2.get' hw
      have hdim : di ∈ x :: xs := List.mem_of_getElem? hdi
      have hmm := minD_mem x xs
      have hdp2 := isPs_mem2 (okps_isP ho)
      have I2 : Inv X pins σ H { s with heap := h', toks := tk } := I.kept kp
      obtain ⟨as2, hr2⟩ := Dp.reads I2 di.toP w v (rdi.dp (hdp2 di hdim)) rw_
      have e1 : di.toP = PySem.W.minD x.toP (toPs xs) := by
        rw [← minD_toP x xs hmem] at hr' ⊢
        exact PySem.W.alike_unique _ _ v _ _ (alike_toP _ _ (hmem di hdim _ hmm)) hr2 hr'
      rw [← minD_toP x xs hmem] at e1
      have e2 := toP_inj (hmem di hdim _ hmm) e1 (hdp2 di hdim)
      subst e2
      exact ⟨w, H, I2, rw_, p.here S rdi⟩
    · exact p.elim
  · exact p.elim
theorem cr_min' (hc : X.calm = true) (hu : X.A.units + 66 < cLine) : CallR X (.builtin "min") (rC W bMin) := by
  intro pins s σ H xs us Q I r h
  obtain ⟨ds, st, ι, S, rl, post⟩ := h
  have one : ∀ {d : D} {v : V}, R W ι H d v → Vals [v] us → PostR W ι H Q (match (asL st d).bind dInts with
      | some (i :: is) => .ok (.int (minI i is)) st
      | _ => minTs st d) → wpAny (model X.prog X.w) X.A (call (.builtin "min") us) (EP X pins σ Q) X.xe s := by
    intro d v rd r p
    split at p
    · rename_i i is hb
      obtain ⟨xs, a, vs, e, rfl, h1, h2⟩ := asLb rd S hb
      refine cr_min hc pins s σ H _ us Q I r ⟨a, i :: is, rfl, by rw [← h2.dInts e]; exact .inl h1, by simp, fun m hm hle => ?_⟩
      obtain ⟨k1, k2⟩ := minI_le i is
      have : m = minI i is := Int.le_antisymm (hle _ k1) (k2 m hm)
      rw [this]
      exact p.here S (.int _)
    · exact min_ts hc hu I S rd r p
  cases rl with
  | nil => exact post.elim
  | cons r1 rl =>
    cases rl with
    | nil =>
      cases r1 with
      | non => exact one .non r post
      | bl b => exact one (.bl b) r post
      | int b => exact one (.int b) r post
      | str b => exact one (.str b) r post
      | tup h1 h2 h3 => exact one (.tup h1 h2 h3) r post
      | lst h1 h2 h3 => exact one (.lst h1 h2 h3) r post
      | ob h1 => exact one (.ob h1) r post
      | fn n => exact one (.fn n) r post
      | ex h1 => exact one (.ex h1) r post
      | scr h1 => exact one (.scr h1) r post
    | cons r2 rl =>
      cases rl with
      | nil =>
        cases r1 with
        | int i =>
          cases r2 with
          | int j => exact call_min2 hc pins s σ H _ us Q I r ⟨i, j, rfl, post.here S (.int _)⟩
          | _ => exact post.elim
        | _ => exact post.elim
      | cons r3 rl =>
        cases rl with
        | cons r4 rl => cases r1 <;> cases r2 <;> cases r3 <;> exact post.elim
        | nil =>
          cases r1 with
          | int i =>
            cases r2 with
            | int j =>
              cases r3 with
              | int k =>
                obtain ⟨a, b, c, rfl, ⟨t1, rfl⟩, ⟨t2, rfl⟩, ⟨t3, rfl⟩⟩ := vals3 r
                refine min_three_ints (I.ok.hd hc) fun h' tk kp => ⟨.int _, H, I.kept kp, ?_, post.here S (.int _)⟩
                repeat (first | exact ⟨_, rfl⟩ | (split <;> try exact ⟨_, rfl⟩))
              | _ => exact post.elim
            | _ => exact post.elim
          | _ => exact post.elim
theorem cr_max' (hc : X.calm = true) : CallR X (.builtin "max") (rC W bMax) := by
  intro pins s σ H xs us Q I r h
  obtain ⟨ds, st, ι, S, rl, post⟩ := h
  have one : ∀ {d : D} {v : V}, R W ι H d v → Vals [v] us → PostR W ι H Q (match (asL st d).bind dInts with
      | some (i :: is) => .ok (.int (maxI i is)) st
      | _ => .err) → wpAny (model X.prog X.w) X.A (call (.builtin "max") us) (EP X pins σ Q) X.xe s := by
    intro d v rd r p
    split at p
    · rename_i i is hb
      obtain ⟨xs, a, vs, e, rfl, h1, h2⟩ := asLb rd S hb
      refine cr_max hc pins s σ H _ us Q I r ⟨a, i :: is, rfl, by rw [← h2.dInts e]; exact .inl h1, by simp, fun m hm hle => ?_⟩
      obtain ⟨k1, k2⟩ := maxI_le i is
      have : m = maxI i is := Int.le_antisymm (k2 m hm) (hle _ k1)
      rw [this]
      exact p.here S (.int _)
    · exact p.elim
  cases rl with
  | nil => exact post.elim
  | cons r1 rl =>
    cases rl with
    | nil =>
      cases r1 with
      | non => exact one .non r post
      | bl b => exact one (.bl b) r post
      | int b => exact one (.int b) r post
      | str b => exact one (.str b) r post
      | tup h1 h2 h3 => exact one (.tup h1 h2 h3) r post
      | lst h1 h2 h3 => exact one (.lst h1 h2 h3) r post
      | ob h1 => exact one (.ob h1) r post
      | fn n => exact one (.fn n) r post
      | ex h1 => exact one (.ex h1) r post
      | scr h1 => exact one (.scr h1) r post
    | cons r2 rl =>
      cases rl with
      | nil =>
        cases r1 with
        | int i =>
          cases r2 with
          | int j => exact call_max2 hc pins s σ H _ us Q I r ⟨i, j, rfl, post.here S (.int _)⟩
          | _ => exact post.elim
        | _ => exact post.elim
      | cons r3 rl =>
        cases rl with
        | cons r4 rl => cases r1 <;> cases r2 <;> cases r3 <;> exact post.elim
        | nil =>
          cases r1 with
          | int i =>
            cases r2 with
            | int j =>
              cases r3 with
              | int k =>
                obtain ⟨a, b, c, rfl, ⟨t1, rfl⟩, ⟨t2, rfl⟩, ⟨t3, rfl⟩⟩ := vals3 r
                refine max_three_ints (I.ok.hd hc) fun h' tk kp => ⟨.int _, H, I.kept kp, ?_, post.here S (.int _)⟩
                repeat (first | exact ⟨_, rfl⟩ | (split <;> try exact ⟨_, rfl⟩))
              | _ => exact post.elim
            | _ => exact post.elim
          | _ => exact post.elim
theorem cr_sorted' (hu : X.A.units + 80 < cLine) : CallR X (.builtin "sorted") (rC W bSorted) := by
  intro pins s σ H xs us Q I r h
  obtain ⟨ds, st, ι, S, rl, post⟩ := h
  cases rl with
  | nil => exact post.elim
  | cons r1 rl =>
    cases rl with
    | cons r2 rl => exact post.elim
    | nil =>
      simp only [bSorted] at post
      split at post
      · rename_i xs hb
        obtain ⟨a, vs, rfl, h1, h2⟩ := r1.asQ S hb
        rw [Vals.ref1 r]
        exact sorted_run hu I S h1 h2 post
      · exact post.elim
theorem cr_list' (m : Bool) : CallR X (.type "list") (rC W (bList m)) := by
  intro pins s σ H xs us Q I r h
  obtain ⟨ds, st, ι, S, rl, post⟩ := h
  cases rl with
  | nil => exact post.elim
  | cons r1 rl =>
    cases rl with
    | cons r2 rl => exact post.elim
    | nil =>
      simp only [bList] at post
      split at post
      · rename_i xs hb
        obtain ⟨a, vs, rfl, h1, h2⟩ := r1.asQ S hb
        obtain ⟨z, q⟩ := post.newL S h2
        refine call_list_of pins s σ H _ us Q I r ⟨a, vs, rfl, ?_, q⟩
        rcases h1 with h1 | h1
        · exact .inl (.inl h1)
        · exact .inr h1.sq
      · exact post.elim
theorem cr_tuple' : CallR X (.type "tuple") (rC W bTuple) := by
  intro pins s σ H xs us Q I r h
  obtain ⟨ds, st, ι, S, rl, post⟩ := h
  cases rl with
  | nil => exact post.elim
  | cons r1 rl =>
    cases rl with
    | cons r2 rl => cases r1 <;> exact post.elim
    | nil =>
      have one : ∀ {d : D} {v : V}, R W ι H d v → Vals [v] us → PostR W ι H Q (match asL st d with
          | some xs => newT xs st
          | none => .err) → wpAny (model X.prog X.w) X.A (call (.type "tuple") us) (EP X pins σ Q) X.xe s := by
        intro d v rd r p
        split at p
        · rename_i xs hb
          obtain ⟨a, vs, rfl, h1, h2⟩ := rd.asL S hb
          obtain ⟨z, q⟩ := p.newT S h2
          exact call_tupleF pins s σ H _ us Q I r ⟨a, vs, rfl, .inl ⟨.inl h1, q⟩⟩
        · exact p.elim
      cases r1 with
      | tup h1 h2 h3 => exact call_tupleF pins s σ H _ us Q I r ⟨_, _, rfl, .inr ⟨h1.sq, PostR.here post S (.tup h1 h2 h3)⟩⟩
      | non => exact one .non r post
      | bl b => exact one (.bl b) r post
      | int b => exact one (.int b) r post
      | str b => exact one (.str b) r post
      | lst h1 h2 h3 => exact one (.lst h1 h2 h3) r post
      | ob h1 => exact one (.ob h1) r post
      | fn n => exact one (.fn n) r post
      | ex h1 => exact one (.ex h1) r post
      | scr h1 => exact one (.scr h1) r post
theorem cr_int' : CallR X (.type "int") (rC W bInt) := by
  intro pins s σ H xs us Q I r h
  obtain ⟨ds, st, ι, S, rl, post⟩ := h
  cases rl with
  | nil => exact post.elim
  | cons r1 rl =>
    cases rl with
    | cons r2 rl => cases r1 <;> exact post.elim
    | nil =>
      cases r1 with
      | int i => exact call_int1 pins s σ H _ us Q I r (.inl ⟨i, rfl, PostR.here post S (.int _)⟩)
      | bl b => exact call_int1 pins s σ H _ us Q I r (.inr ⟨b, rfl, PostR.here post S (.int _)⟩)
      | _ => exact post.elim
theorem cr_abs' : CallR X (.builtin "abs") (rC W bAbs) := by
  intro pins s σ H xs us Q I r h
  obtain ⟨ds, st, ι, S, rl, post⟩ := h
  cases rl with
  | nil => exact post.elim
  | cons r1 rl =>
    cases rl with
    | cons r2 rl => cases r1 <;> exact post.elim
    | nil =>
      cases r1 with
      | int i => exact call_abs pins s σ H _ us Q I r ⟨i, rfl, PostR.here post S (.int _)⟩
      | _ => exact post.elim

/-! ### methods -/
def rM (W : Wd) (f : D → List D → Store → Res D) : V → List V → Hp → VK → Prop := fun x xs H Q => ∃ d ds st ι, Sim W ι st H ∧ R W ι H d x ∧ RL W ι H ds xs ∧ PostR W ι H Q (f d ds st)
theorem PostR.wr {ι : List Addr} {H : Hp} {st : Store} {Q : VK} {n : Nat} {a : Addr} {o : HO} {ob : Ob} {d : D} {v : V} (p : PostR W ι H Q (.ok d (st.set n ob))) (S : Sim W ι st H) (h : ι[n]? = some a) (q : ObR W ι (L2.upd H a o) ob a) (r : R W ι H d v) : Q v (L2.upd H a o) :=
  p ι _ v (Ext.write h) (S.write h q) (r.mono (Ext.write h))
theorem mt_append' : MtR X "list.append" (rM W mAppend) := by
  intro pins s σ H x xs v us Q I rx rxs h
  obtain ⟨d, ds, st, ι, S, rd, rl, post⟩ := h
  cases rd with
  | ob hn =>
    rename_i n a
    cases rl with
    | nil => exact post.elim
    | cons r1 rl =>
      cases rl with
      | cons r2 rl => exact post.elim
      | nil =>
        simp only [mAppend] at post
        split at post
        · rename_i ys hy
          split at post
          · rename_i hz
            obtain ⟨vs, g1, g2⟩ := S.ob n a _ hn hy
            refine mt_append pins s σ H _ _ v us Q I rx rxs ⟨a, vs, _, rfl, rfl, g1, by rw [← g2.length, ← maxLen_eq]; exact hz, ?_⟩
            exact post.wr S hn ⟨_, upd_same, (g2.mono (Ext.write hn)).append (.cons (r1.mono (Ext.write hn)) .nil)⟩ .non
          · exact post.elim
        · exact post.elim
  | _ => exact post.elim
theorem mt_extend' : MtR X "list.extend" (rM W mExtend) := by
  intro pins s σ H x xs v us Q I rx rxs h
  obtain ⟨d, ds, st, ι, S, rd, rl, post⟩ := h
  cases rd with
  | ob hn =>
    rename_i n a
    cases rl with
    | nil => exact post.elim
    | cons r1 rl =>
      cases rl with
      | cons r2 rl => exact post.elim
      | nil =>
        simp only [mExtend] at post
        split at post
        · rename_i ys hy
          split at post
          · rename_i zs hz
            split at post
            · rename_i hl
              obtain ⟨vs, g1, g2⟩ := S.ob n a _ hn hy
              obtain ⟨b, ws, rfl, h1, h2⟩ := r1.asL S hz
              refine mt_extendR pins s σ H _ _ v us Q I rx rxs ⟨a, b, vs, ws, rfl, rfl, g1, h1, by rw [← g2.length, ← h2.length, ← maxLen_eq]; exact hl, ?_⟩
              exact post.wr S hn ⟨_, upd_same, (g2.mono (Ext.write hn)).append (h2.mono (Ext.write hn))⟩ .non
            · exact post.elim
          · exact post.elim
        · exact post.elim
  | _ => exact post.elim
theorem RL.dropLast {ι : List Addr} {H : Hp} {xs : List D} {vs : List V} (r : RL W ι H xs vs) : RL W ι H xs.dropLast vs.dropLast := by
  rw [List.dropLast_eq_take, List.dropLast_eq_take, r.length]
  exact r.take _
theorem mt_pop' : MtR X "list.pop" (rM W mPop) := by
  intro pins s σ H x xs v us Q I rx rxs h
  obtain ⟨d, ds, st, ι, S, rd, rl, post⟩ := h
  cases rd with
  | ob hn =>
    rename_i n a
    cases rl with
    | cons r2 rl => exact post.elim
    | nil =>
      simp only [mPop] at post
      split at post
      · rename_i ys hy
        split at post
        · rename_i e he
          obtain ⟨vs, g1, g2⟩ := S.ob n a _ hn hy
          obtain ⟨w, hw, rw'⟩ := g2.get he
          refine mt_pop pins s σ H _ _ v us Q I rx rxs ⟨a, vs, w, rfl, rfl, g1, by rw [← g2.length]; exact hw, ?_⟩
          exact post.wr S hn ⟨_, upd_same, (g2.mono (Ext.write hn)).dropLast⟩ rw'
        · exact post.elim
      · exact post.elim
  | _ => cases ds <;> exact post.elim
theorem mt_popAt' : MtR X "list.pop" (rM W mPopAt) := by
  intro pins s σ H x xs v us Q I rx rxs h
  obtain ⟨d, ds, st, ι, S, rd, rl, post⟩ := h
  cases rd with
  | ob hn =>
    rename_i n a
    cases rl with
    | nil => exact post.elim
    | cons r1 rl =>
      cases rl with
      | cons r2 rl => cases r1 <;> exact post.elim
      | nil =>
        cases r1 with
        | int i =>
          simp only [mPopAt] at post
          split at post
          · rename_i ys hy
            split at post
            · rename_i hi
              split at post
              · rename_i e he
                obtain ⟨vs, g1, g2⟩ := S.ob n a _ hn hy
                obtain ⟨w, hw, rw'⟩ := g2.get he
                have hz := (I.lstM g1).1
                have hs := line63
                have hlen := g2.length
                refine mt_popAt pins s σ H _ _ v us Q I rx rxs ⟨a, vs, i, i.toNat, w, rfl, rfl, g1, by omega, by omega, ?_, hw, ?_⟩
                · exact seqIndex_of hi.1 (by rw [← hlen]; exact hi.2)
                · exact post.wr S hn ⟨_, upd_same, (g2.mono (Ext.write hn)).eraseIdx _⟩ rw'
              · exact post.elim
            · exact post.elim
          · exact post.elim
        | _ => exact post.elim
  | _ => cases ds with
    | nil => exact post.elim
    | cons y r => cases r <;> cases y <;> exact post.elim
theorem mt_clear' : MtR X "list.clear" (rM W mClear) := by
  intro pins s σ H x xs v us Q I rx rxs h
  obtain ⟨d, ds, st, ι, S, rd, rl, post⟩ := h
  cases rd with
  | ob hn =>
    rename_i n a
    cases rl with
    | cons r2 rl => exact post.elim
    | nil =>
      simp only [mClear] at post
      split at post
      · rename_i ys hy
        obtain ⟨vs, g1, g2⟩ := S.ob n a _ hn hy
        refine mt_clear pins s σ H _ _ v us Q I rx rxs ⟨a, vs, rfl, rfl, g1, ?_⟩
        exact post.wr S hn ⟨_, upd_same, .nil⟩ .non
      · exact post.elim
  | _ => cases ds <;> exact post.elim
end
end Mn

set_option Elab.async false
set_option linter.all false
set_option maxRecDepth 100000
set_option maxHeartbeats 4000000
/-! Snd7: index, stores, isinstance, sorted(set(..)), list(range(..)). -/
namespace Mn
open PySem PySem.Spec PyProof.Rows L2

section
variable {W : Wd} {X : Cx}
theorem toPs_get : ∀ (xs : List D) (j : Nat), (toPs xs)[j]? = (xs[j]?).map D.toP
  | [], j => by simp [toPs]
  | x :: xs, 0 => by simp [toPs]
  | x :: xs, j + 1 => by simp [toPs, toPs_get xs j]
theorem isPs_mem : ∀ {xs : List D}, isPs xs = true → ∀ d ∈ xs, d.isP = true
  | [], _, d, h => by simp at h
  | x :: xs, h, d, hd => by
    simp only [isPs, Bool.and_eq_true] at h
    rcases List.mem_cons.mp hd with rfl | hd
    · exact h.1
    · exact isPs_mem h.2 d hd
theorem findIdx_some {p : D → Bool} : ∀ {xs : List D} {j : Nat}, xs.findIdx? p = some j → ∃ z, xs[j]? = some z ∧ p z = true ∧ ∀ m z', m < j → xs[m]? = some z' → p z' = false
  | [], j, h => by simp at h
  | x :: xs, j, h => by
    rw [List.findIdx?_cons] at h
    by_cases hx : p x = true
    · rw [if_pos hx] at h
      cases h
      exact ⟨x, rfl, hx, fun m z' hm => absurd hm (Nat.not_lt_zero _)⟩
    · rw [if_neg hx] at h
      cases h2 : xs.findIdx? p with
      | none => rw [h2] at h; cases h
      | some i =>
        rw [h2] at h
        cases h
        obtain ⟨z, h3, h4, h5⟩ := findIdx_some h2
        refine ⟨z, by simpa using h3, h4, fun m z' hm hz => ?_⟩
        cases m with
        | zero => simp at hz; subst hz; simpa using hx
        | succ m => exact h5 m z' (by have hm : m + 1 < i + 1 := hm; omega) (by simpa using hz)
theorem mt_index' (hu : X.A.units + 66 < cLine) : MtR X "list.index" (rM W mIndex) := by
  intro pins s σ H x xs v us Q I rx rxs h
  obtain ⟨d, ds, st, ι, S, rd, rl, post⟩ := h
  cases rl with
  | nil => exact post.elim
  | cons r1 rl =>
    cases rl with
    | cons r2 rl => exact post.elim
    | nil =>
      rename_i y vy
      simp only [mIndex] at post
      split at post
      · rename_i ys hy
        split at post
        · rename_i hc
          obtain ⟨h1, h2⟩ := Bool.and_eq_true_iff.mp hc
          split at post
          · rename_i j hj
            obtain ⟨a, vs, rfl, h3, h4⟩ := rd.asL S hy
            obtain ⟨z, k1, k2, k3⟩ := findIdx_some hj
            have ip := isPs_mem (okps_isP h2)
            refine mt_indexD (by omega) pins s σ H _ _ v us Q I rx rxs ⟨a, vy, y.toP, toPs ys, j, z.toP, rfl, rfl, .lst (.inl h3) (h4.dp (okps_isP h2)), r1.dp (okp_isP h1), ?_, okp_shaped h1, by rw [toPs_get, k1]; rfl, ?_, fun m z' hm hz => ?_, post.here S (.int _)⟩
            · simp only [SeqAt.shaped, Bool.and_eq_true, decide_eq_true_eq, PyData.canLay0, PyData.depth, deps_toP]
              exact ⟨isPs_lay _ (okps_isP h2), by have := okps_dep h2; omega⟩
            · rw [eqv_toP z y (ip z (List.mem_of_getElem? k1)) (okp_isP h1)]
              exact k2
            · rw [toPs_get] at hz
              cases hq : ys[m]? with
              | none => rw [hq] at hz; cases hz
              | some z'' =>
                rw [hq] at hz
                cases hz
                rw [eqv_toP z'' y (ip z'' (List.mem_of_getElem? hq)) (okp_isP h1)]
                exact k3 m z'' hm hq
          · exact post.elim
        · exact post.elim
      · exact post.elim

theorem count_eqv {y : D} (hy : y.isP = true) : ∀ {xs : List D}, isPs xs = true → (toPs xs).countP (fun z => PyData.eqv z y.toP) = xs.countP fun z => z.eqv y
  | [], _ => rfl
  | x :: xs, h => by
    have hx := isPs_mem h x List.mem_cons_self
    simp only [isPs, Bool.and_eq_true] at h
    rw [toPs, List.countP_cons, List.countP_cons, count_eqv hy h.2, eqv_toP x y hx hy]
theorem mt_count' (hu : X.A.units + 66 < cLine) : MtR X "list.count" (rM W mCount) := by
  intro pins s σ H x xs v us Q I rx rxs h
  obtain ⟨d, ds, st, ι, S, rd, rl, post⟩ := h
  cases rl with
  | nil => exact post.elim
  | cons r1 rl =>
    cases rl with
    | cons r2 rl => exact post.elim
    | nil =>
      rename_i y vy
      simp only [mCount] at post
      split at post
      · rename_i ys hy
        split at post
        · rename_i hc
          obtain ⟨h1, h2⟩ := Bool.and_eq_true_iff.mp hc
          obtain ⟨a, vs, rfl, h3, h4⟩ := rd.asL S hy
          cases rx
          obtain ⟨uy, rfl, ry⟩ := rxs.one
          have hdy := r1.dp (K := X.K) (okp_isP h1)
          have hda := h4.dp (K := X.K) (okps_isP h2)
          obtain ⟨bs, q1⟩ := Dp.reads I y.toP vy uy hdy ry
          obtain ⟨its, rv, ⟨⟨cls, dd, data, sls⟩, n, ho, hcl, hdn, hdt⟩, hlen⟩ := I.list (.inl h3)
          simp only at hcl hdt
          subst hcl hdt
          obtain ⟨as, q2⟩ := Dp.readsAll I (toPs ys) _ its hda rv
          have sl : SeqAt.shaped (.list (toPs ys)) = true := by
            simp only [SeqAt.shaped, Bool.and_eq_true, decide_eq_true_eq, PyData.canLay0, PyData.depth, deps_toP]
            exact ⟨isPs_lay _ (okps_isP h2), by have := okps_dep h2; omega⟩
          have lay : PyData.canLayAll0 (toPs ys) = true := SeqAt.canLay_of_shaped sl
          have hm : its.map (SeqAt.readOf s.heap) = toPs ys := SeqAt.readsAll_map _ its as lay q2
          refine call_meets PySem.F.slot_list_count ⟨_, ho, rfl⟩ PySem.F.entry_list_count (PySem.F.args_list_count_2 _ _)
            (SeqAt.list_countAt a its.toArray n dd sls uy fun u => PyData.eqv (SeqAt.readOf s.heap u) y.toP) ⟨ho, SeqAt.items_eqAt (vs := its.toArray) (xs := toPs ys) (as := as) q2 q1 lay (SeqAt.canLay_of_shaped (okp_shaped h1)) (room_in_shaped (okp_shaped h1) (by omega)), ?_⟩
          have ec : its.toArray.toList.countP (fun u => PyData.eqv (SeqAt.readOf s.heap u) y.toP) = ys.countP fun z => z.eqv y := by
            rw [← count_eqv (okp_isP h1) (okps_isP h2), ← hm, List.countP_map]
            rfl
          refine ⟨.int ((ys.countP fun z => z.eqv y : Nat)), H, I.tok _, ⟨s.toks, ?_⟩, post.here S (.int _)⟩
          show Value.int ((its.toArray.toList.countP (fun u => PyData.eqv (SeqAt.readOf s.heap u) y.toP) : Nat) : Int) s.toks = _
          rw [ec]
        · exact post.elim
      · exact post.elim

/-! ### o[i] = d -/
theorem paired_put {ι : List Addr} {H : Hp} {kvs : List (D × D)} {xs : List (NestedKey × Addr × Value)} {d e : D} {k : NestedKey} {a : Addr} {v : V} {u : Value} (hk : keyN d = some k) (h8 : k.depth ≤ 8) (rd : R W ι H d (.ref a)) (re : R W ι H e v) (ru : RelV v u) (nd : (xs.map (·.1)).Nodup)
    (hp : Paired (fun (p : D × D) (x : NestedKey × Addr × Value) => keyN p.1 = some x.1 ∧ x.1.depth ≤ 8 ∧ R W ι H p.1 (.ref x.2.1) ∧ ∃ v, R W ι H p.2 v ∧ RelV v x.2.2) kvs xs) :
    Paired (fun (p : D × D) (x : NestedKey × Addr × Value) => keyN p.1 = some x.1 ∧ x.1.depth ≤ 8 ∧ R W ι H p.1 (.ref x.2.1) ∧ ∃ v, R W ι H p.2 v ∧ RelV v x.2.2) (kPut d e kvs) (storedH xs k a u) := by
  -- where the key is not there
  have nomap : ∀ {ys : List (NestedKey × Addr × Value)}, (∀ y ∈ ys, y.1 ≠ k) → ys.map (putAt k u) = ys := fun {ys} h => by
    induction ys with
    | nil => rfl
    | cons y ys ih =>
      rw [List.map_cons, ih fun z hz => h z (List.mem_cons_of_mem _ hz)]
      unfold putAt
      rw [if_neg (h y List.mem_cons_self)]
  induction hp with
  | nil =>
    simp only [kPut, storedH, atKey]
    exact .cons ⟨hk, h8, rd, v, re, ru⟩ .nil
  | cons r hr ih =>
    rename_i p x ps ys
    obtain ⟨r1, r2, r3, v', r4, r5⟩ := r
    have ee := keyN_eqv p.1 d _ _ r1 hk
    obtain ⟨p1, p2⟩ := p
    obtain ⟨x1, x2, x3⟩ := x
    dsimp only at r1 r2 r3 r4 r5 ee
    have nd' : x1 ∉ ys.map (·.1) ∧ (ys.map (·.1)).Nodup := by simpa using nd
    by_cases hx : x1 = k
    · rw [decide_eq_true hx] at ee
      have e1 : kPut d e ((p1, p2) :: ps) = (p1, e) :: ps := by simp [kPut, ee]
      have e2 : storedH ((x1, x2, x3) :: ys) k a u = (x1, x2, u) :: ys := by
        unfold storedH
        rw [if_pos (by simp [atKey, hx]), List.map_cons, nomap (ys := ys) fun y hy e => nd'.1 (by rw [hx, ← e]; exact List.mem_map.mpr ⟨y, hy, rfl⟩)]
        unfold putAt
        rw [if_pos hx]
      rw [e1, e2]
      exact .cons ⟨r1, r2, r3, v, re, ru⟩ hr
    · rw [decide_eq_false hx] at ee
      have e1 : kPut d e ((p1, p2) :: ps) = (p1, p2) :: kPut d e ps := by simp [kPut, ee]
      have e2 : storedH ((x1, x2, x3) :: ys) k a u = (x1, x2, x3) :: storedH ys k a u := by
        have ea : atKey ((x1, x2, x3) :: ys) k = atKey ys k := by simp [atKey, hx]
        unfold storedH
        rw [ea]
        by_cases hs : (atKey ys k).isSome = true
        · rw [if_pos hs, if_pos hs, List.map_cons]
          unfold putAt
          rw [if_neg hx]
        · rw [if_neg hs, if_neg hs, List.cons_append]
      rw [e1, e2]
      exact .cons ⟨r1, r2, r3, v', r4, r5⟩ (ih nd'.2)
def PostS (W : Wd) (ι : List Addr) (H : Hp) (Q : Hp → Prop) : Option Store → Prop
  | some st' => ∀ ι' H', Ext ι H ι' H' → Sim W ι' st' H' → Q H'
  | none => False
def rS (W : Wd) : V → V → V → Hp → (Hp → Prop) → Prop := fun o i v H Q => ∃ da di dv st ι, Sim W ι st H ∧ R W ι H da o ∧ R W ι H di i ∧ R W ι H dv v ∧ PostS W ι H Q (pSetI da di dv st)
theorem set_any (hP : X.prog = W.P) (hw : X.w = W.w) (hu : X.A.units + 66 < cLine) : PSet X (rS W) := by
  intro pins s σ H o i v ov iv u Q I ro ri rv h
  obtain ⟨da, di, dv, st, ι, S, ra, rdi, rdv, post⟩ := h
  cases ra with
  | ob hn =>
    rename_i n a
    simp only [pSetI] at post
    cases ho : st[n]? with
    | none => rw [ho] at post; exact post.elim
    | some ob =>
      rw [ho] at post
      cases ob with
      | lst xs =>
        obtain ⟨vs, g1, g2⟩ := S.ob n a _ hn ho
        cases rdi with
        | int k =>
          dsimp only at post
          split at post
          · rename_i j hj
            refine set_list pins s σ H _ _ v ov iv u Q I ro ri rv ⟨a, vs, k, j, rfl, rfl, g1, by rw [← g2.length]; exact hj, ?_⟩
            exact post ι _ (Ext.write hn) (S.write hn ⟨_, upd_same, (g2.mono (Ext.write hn)).set (rdv.mono (Ext.write hn)) j⟩)
          · exact post.elim
        | _ => exact post.elim
      | dct kvs =>
        dsimp only at post
        split at post
        · rename_i hc
          obtain ⟨hk, hz⟩ := Bool.and_eq_true_iff.mp hc
          obtain ⟨k, xs, rfl, k1, k2⟩ := keyOk_of hk
          obtain ⟨ys, g1, g2, g3, g4⟩ := DicR.of I hP hw (S.ob n a _ hn ho)
          cases rdi with
          | tup t1 t2 t3 =>
            rename_i c vs
            cases ro
            cases ri
            have hi : (nestedKind X.prog X.w).is s.heap k c := ⟨R.nest I (.tup t1 t2 t3) k1 rfl, k2⟩
            have hr : (nestedKind X.prog X.w).room X.A.in1 := by show X.A.units + 1 + 8 < cLine; omega
            have hlen : kvs.length = ys.length := Paired.length g4
            have hzl : ys.length ≤ sizeLine := by
              have := of_decide_eq_true hz
              rw [← hlen, ← maxLen_eq]; omega
            refine wpAny_setItem_heap (hsz := hzl) hr hi g1 fun h' hm hs => ?_
            obtain ⟨o', es, ep, e1, e2, e3, e4, e5, e6⟩ := hm
            have x := Ext.write (H := H) (o := .ext fun h => h.get? a = some o') hn
            have nd := g1.nodup
            refine ⟨upd H a (.ext fun h => h.get? a = some o'), I.write (e := a) (t' := _) g3 (.inl rfl) (fun b ub hb hu => (hs.2 b hb).trans hu) ⟨o', e1⟩ ⟨e1, ⟨o', e1⟩, fun h1 h2 p kk => kk o' p⟩, ?_⟩
            refine post ι _ x (S.write hn ⟨o', es, ep, storedH ys k c u, upd_same, g2, e2, e3, by rw [← hP, ← hw]; exact e4, e6, ?_⟩)
            have := paired_put (W := W) (ι := ι) (H := upd H a (.ext fun h => h.get? a = some o')) (d := .tup xs) (e := dv) k1 k2 ((R.tup t1 t2 t3).mono x) (rdv.mono x) rv nd (Paired.impP g4 fun p q ⟨j1, j2, j3, v', j4, j5⟩ => ⟨j1, j2, j3.mono x, v', j4.mono x, j5⟩)
            exact this
        · exact post.elim
      | ins c fs => exact post.elim
  | _ => exact post.elim
/-! ### dict(..) -/
def KvR (W : Wd) (ι : List Addr) (H : Hp) (p : D × D) (x : NestedKey × Addr × Value) : Prop := keyN p.1 = some x.1 ∧ x.1.depth ≤ 8 ∧ R W ι H p.1 (.ref x.2.1) ∧ ∃ v, R W ι H p.2 v ∧ RelV v x.2.2
theorem R.tupI {ι : List Addr} {H : Hp} {xs : List D} {v : V} (r : R W ι H (.tup xs) v) : ∃ c ws, v = .ref c ∧ TupH H c ws ∧ Fz W ι c ∧ RL W ι H xs ws := by
  cases r with
  | tup h1 h2 h3 => exact ⟨_, _, rfl, h1, h2, h3⟩
theorem pairs_held {ι : List Addr} {H : Hp} (I : Inv X pins σ H s) : ∀ {xs : List D} {vs : List V} {us : List Value} {kvs : List (D × D)}, RL W ι H xs vs → Vals vs us → pairsOf xs = some kvs →
    ∃ (Ts : List Addr) (ps : List (NestedKey × Addr × Value)), Ts.length = us.length ∧ ps.length = us.length ∧ (∀ (j : Nat) k c v, ps[j]? = some (k, c, v) → us[j]? = some (.ref (Ts.getD j 0)) ∧ PairAt s.heap (Ts.getD j 0) (.ref c) v) ∧ Paired (KvR W ι H) kvs ps
  | _, _, _, _, .nil, .nil, e => by
    cases e
    exact ⟨[], [], rfl, rfl, fun j k c v h => by simp at h, .nil⟩
  | _ :: xs, _, _, kvs, .cons r rl, .cons ru rus, e => by
    cases r with
    | tup h1 h2 h3 =>
      rename_i a ys vs
      cases h3 with
      | nil => cases e
      | cons r1 h3 =>
        cases h3 with
        | nil => cases e
        | cons r2 h3 =>
          cases h3 with
          | cons _ _ => cases e
          | nil =>
            rename_i d1 v1 d2 v2
            simp only [pairsOf] at e
            split at e
            · rename_i hk
              cases hp : pairsOf xs with
              | none => rw [hp] at e; cases e
              | some kv =>
                rw [hp] at e
                cases e
                obtain ⟨k, ks, ek, k1, k2⟩ := keyOk_of hk
                subst ek
                obtain ⟨Ts, ps, l1, l2, hps, hpr⟩ := pairs_held I rl rus hp
                cases ru
                obtain ⟨its, rv, pt, _⟩ := I.tuple h1.sq
                obtain ⟨c, ws, ec, t1, t2, t3⟩ := r1.tupI
                subst ec
                · cases rv with
                  | cons q1 rv =>
                    cases rv with
                    | cons q2 rv =>
                      cases rv
                      cases q1
                      rename_i u2
                      refine ⟨a :: Ts, (k, c, u2) :: ps, by simp [l1], by simp [l2], fun j k' c' v' h => ?_, .cons ⟨k1, k2, .tup t1 t2 t3, v2, r2, q2⟩ hpr⟩
                      cases j with
                      | zero =>
                        simp at h
                        obtain ⟨rfl, rfl, rfl⟩ := h
                        exact ⟨rfl, .inl (show s.heap.IsTuple a #[.ref c, u2] from pt)⟩
                      | succ j =>
                        have := hps j k' c' v' (by simpa using h)
                        simpa using this
            · cases e
    | _ => cases e
theorem nd_stored {xs : List (NestedKey × Addr × Value)} {k : NestedKey} {a : Addr} {v : Value} (nd : (xs.map (·.1)).Nodup) : ((storedH xs k a v).map (·.1)).Nodup := by
  cases hk : atKey xs k with
  | some p => rw [storedH_old hk, keys_map_putAt]; exact nd
  | none =>
    rw [storedH_new hk, List.map_append, List.nodup_append]
    refine ⟨nd, by simp, fun y hy z hz e => ?_⟩
    simp at hz
    subst e; subst hz
    obtain ⟨q, hq, eq⟩ := List.mem_map.mp hy
    obtain ⟨i, hi⟩ := List.getElem?_of_mem hq
    obtain ⟨q1, q2⟩ := q
    dsimp only at eq
    subst eq
    rw [atKey_of_get nd hi] at hk
    cases hk
theorem paired_all {ι : List Addr} {H : Hp} : ∀ {kvs : List (D × D)} {ps : List (NestedKey × Addr × Value)} {acc : List (D × D)} {xs : List (NestedKey × Addr × Value)}, Paired (KvR W ι H) kvs ps → (xs.map (·.1)).Nodup → Paired (KvR W ι H) acc xs → Paired (KvR W ι H) (putAll acc kvs) (storedAllH xs ps)
  | _, _, _, _, .nil, _, h => h
  | (p1, p2) :: kvs, (q1, q2, q3) :: ps, acc, xs, .cons r rr, nd, h => by
    obtain ⟨r1, r2, r3, v, r4, r5⟩ := r
    have h2 := paired_put (W := W) (ι := ι) (H := H) r1 r2 r3 r4 r5 nd h
    have nd2 : ((storedH xs q1 q2 q3).map (·.1)).Nodup := nd_stored nd
    show Paired _ (putAll (kPut p1 p2 acc) kvs) (storedAllH (storedH xs q1 q2 q3) ps)
    exact paired_all rr nd2 h2
theorem Paired.getR {α β : Type} {r : α → β → Prop} : ∀ {xs : List α} {ys : List β}, Paired r xs ys → ∀ y ∈ ys, ∃ x, r x y
  | _, _, .nil, y, h => by cases h
  | _, _, .cons r1 rr, y, h => by
    rcases List.mem_cons.mp h with e | h
    · subst e; exact ⟨_, r1⟩
    · exact Paired.getR rr y h
theorem cr_dict' (hP : X.prog = W.P) (hw : X.w = W.w) (hc : X.calm = true) (hu : X.A.units + 66 < cLine) : CallR X (.type "dict") (rC W bDict) := by
  intro pins s σ H xs us Q I r h
  obtain ⟨ds, st, ι, S, rl, post⟩ := h
  cases rl with
  | nil => exact post.elim
  | cons r1 rl =>
    cases rl with
    | cons r2 rl => exact post.elim
    | nil =>
      simp only [bDict] at post
      split at post
      · rename_i items hb
        split at post
        · rename_i kvs hkv
          split at post
          · rename_i hz
            obtain ⟨a, vs, ex, h1, h2⟩ := r1.asQ S hb
            subst ex
            obtain ⟨u, eu, ru⟩ := vals1 r
            subst eu
            cases ru
            have hh := I.ok.hd hc
            have hr : (nestedKind X.prog X.w).room X.A.in1.in1 := by show X.A.units + 1 + 1 + 8 < cLine; omega
            have hz2 : items.length ≤ sizeLine := by rw [← maxLen_eq]; exact hz
            -- what the argument holds
            have fin : ∀ (its : List Value) (T : String) (fp : List Addr) (OK : Heap → Prop) (ps : List (NestedKey × Addr × Value)), Vals vs its → ps.length = its.length → Paired (KvR W ι H) kvs ps →
                PairArg X.prog X.w T a fp [] ps.length (PairRel (ps.map fun p => (Value.ref p.2.1, p.2.2))) OK → OK s.heap → wpAny (model X.prog X.w) X.A (call (.type "dict") [.ref a]) (EP X pins σ Q) X.xe s := by
              intro its T fp OK ps rv lp hpr PA ok
              have hlen : items.length = its.length := by rw [h2.length, rv.length]
              refine call_dict_pairsH (knd := nestedKind X.prog X.w) (ps := ps) PA hh hr ok ⟨rfl, fun i key v hrel => ?_⟩ (fun h' kk x hx => ?_) (by rw [lp, ← hlen]; exact hz2) fun h' tk hd hk => ?_
              · have hrel : (ps.map fun p => (Value.ref p.2.1, p.2.2))[i]? = some (key, v) := hrel
                rw [List.getElem?_map] at hrel
                cases hi : ps[i]? with
                | none => rw [hi] at hrel; cases hrel
                | some q =>
                  rw [hi] at hrel
                  obtain ⟨k, c, v'⟩ := q
                  simp at hrel
                  exact ⟨k, c, by rw [hrel.2], hrel.1.symm⟩
              · obtain ⟨p, k1, k2, k3, _⟩ := Paired.getR hpr x hx
                have e0 : (nestedKind X.prog X.w).is s.heap x.1 x.2.1 := ⟨R.nest I k3 k1 rfl, k2⟩
                refine nestedKind_stays.stays (fun b o vs m e q => kk b o (Nat.ne_of_lt (Heap.lt_size e)) (fun z => nomatch z) e) e0
              · obtain ⟨o', es, ep, e1, e2, e3, e4, e5, e6⟩ := hd
                have hf : H s.heap.objs.size = none := I.hok.fresh (Nat.le_refl _)
                have hnew : (s.heap.objs.size == sysModules) = false := (dk_empty (P := X.prog) (w := X.w) (H := upd H s.heap.objs.size (.dK [])) s.heap I.big).2.1
                refine ⟨.ref s.heap.objs.size, upd H s.heap.objs.size (.ext fun h => h.get? s.heap.objs.size = some o'), I.laid (t' := tk) (fun b o q => hk b o (fun z => nomatch z) q) (Nat.le_refl _) ⟨e1, ⟨o', e1⟩, fun a1 a2 p k => k o' p⟩, rfl, ?_⟩
                have x := Ext.push S (o := .ext fun h => h.get? s.heap.objs.size = some o') hf
                have pp := paired_all (acc := []) (xs := []) hpr (by simp) .nil
                refine post _ _ _ x (S.push hf ⟨o', es, ep, storedAllH [] ps, upd_same, hnew, e2, e3, by rw [← hP, ← hw]; exact e4, e6, ?_⟩) (.ob ?_)
                · exact Paired.impP pp fun p q ⟨j1, j2, j3, v', j4, j5⟩ => ⟨j1, j2, j3.mono x, v', j4.mono x, j5⟩
                · rw [List.getElem?_append_right (by rw [S.len]; exact Nat.le_refl _), S.len]
                  simp
            have itm : ∀ {its : List Value} {Ts : List Addr} {ps : List (NestedKey × Addr × Value)}, ps.length = its.length → (∀ (j : Nat) k c v, ps[j]? = some (k, c, v) → its[j]? = some (.ref (Ts.getD j 0)) ∧ PairAt s.heap (Ts.getD j 0) (.ref c) v) → PairItems s.heap its.toArray (fun j => Ts.getD j 0) (ps.map fun p => (Value.ref p.2.1, p.2.2)) := by
              intro its Ts ps lp hps
              refine ⟨by simp [lp], fun j k v hj => ?_⟩
              rw [List.getElem?_map] at hj
              cases hi : ps[j]? with
              | none => rw [hi] at hj; cases hj
              | some q =>
                rw [hi] at hj
                obtain ⟨k', c, v'⟩ := q
                simp at hj
                obtain ⟨rfl, rfl⟩ := hj
                have := hps j k' c v' hi
                exact ⟨by simpa using this.1, this.2⟩
            rcases h1 with h1 | ⟨o, h1, hd⟩
            · obtain ⟨its, rv, pl, _⟩ := I.list (.inl h1)
              obtain ⟨Ts, ps, l1, l2, hps, hpr⟩ := pairs_held I h2 rv hkv
              have PA := PairArg.list (prog := X.prog) (w := X.w) a its.toArray (fun j => Ts.getD j 0) (ps.map fun p => (Value.ref p.2.1, p.2.2))
              rw [List.length_map] at PA
              obtain ⟨o, n, g1, g2, g3, g4⟩ := pl
              exact fin its _ _ _ ps rv l2 hpr PA ⟨⟨o, n, g1, g2, g3, g4⟩, itm l2 hps⟩
            · obtain ⟨g0, _, its, rv, ⟨o2, g1, g2, n, g4⟩⟩ := I.hok a _ h1
              obtain ⟨Ts, ps, l1, l2, hps, hpr⟩ := pairs_held I h2 rv hkv
              have PA := PairArg.tuple (prog := X.prog) (w := X.w) a its.toArray (fun j => Ts.getD j 0) (ps.map fun p => (Value.ref p.2.1, p.2.2))
              rw [List.length_map] at PA
              have eo : o2 = o := Option.some.inj (g1.symm.trans g0)
              subst eo
              exact fin its _ _ _ ps rv l2 hpr PA ⟨⟨o2, n, g1, g2, hd, g4⟩, itm l2 hps⟩
          · exact post.elim
        · exact post.elim
      · exact post.elim
end
end Mn

set_option Elab.async false
set_option linter.all false
set_option maxRecDepth 100000
set_option maxHeartbeats 4000000
/-! Snd8: zip of two things, each a list or a tuple. -/
namespace Mn
open PySem PySem.Spec PyProof.Rows L2

def SqB (K : PySem.W.Frag) (t : Bool) (H : Hp) (a : Addr) (xs : List V) : Prop := match t with
  | true => SqT K H a xs
  | false => SqL K H a xs
def ItB (t : Bool) (h : Heap) (it a : Addr) (i : Nat) : Prop := match t with
  | true => h.IsTupleIter it a i
  | false => h.IsListIter it a i
theorem ItB.obj {t : Bool} {h : Heap} {it a : Addr} {i : Nat} (x : ItB t h it a i) : ∃ o, h.get? it = some o ∧ ∀ v, o.data ≠ .cell v := by
  cases t with
  | true => obtain ⟨o, e, _, d⟩ := x; exact ⟨o, e, fun v z => by rw [d] at z; cases z⟩
  | false => obtain ⟨o, e, _, d⟩ := x; exact ⟨o, e, fun v z => by rw [d] at z; cases z⟩
theorem ItB.at {t : Bool} {h h' : Heap} {it a : Addr} {i : Nat} (x : ItB t h it a i) (k : ∀ o, h.get? it = some o → h'.get? it = some o) : ItB t h' it a i := by
  cases t with
  | true => exact Heap.IsTupleIter.at x k
  | false => exact Heap.IsListIter.at x k
section
variable {X : Cx} {pins : List (Addr × Obj)} {σ : L2.St} {H : Hp} {s : Shared}
theorem SqB.inj {t : Bool} {a : Addr} {xs ys : List V} (I : Inv X pins σ H s) (h : SqB X.K t H a xs) (h' : SqB X.K t H a ys) : xs = ys := by
  cases t with
  | true => exact I.tuple_inj h h'
  | false => exact I.list_inj h h'
theorem SqB.draws {t : Bool} {a it : Addr} {xs : List V} (hh : X.A.handled = none) (I : Inv X pins σ H s) (h : SqB X.K t H a xs) (ne : a ≠ it) :
    ∃ its : List Value, Vals xs its ∧ a < s.heap.objs.size ∧ ∃ StX : Nat → Heap → Prop, Draws X.prog X.w X.A.in1 it [it, a] its.length (fun i v => its[i]? = some v) StX ∧ (∀ i, ItB t s.heap it a i → StX i s.heap) ∧ ∀ i h, StX i h → ItB t h it a i := by
  cases t with
  | true =>
    obtain ⟨its, rv, p, hz⟩ := I.tuple h
    refine ⟨its, rv, p.lt, (fun i h => h.IsTupleIter it a i ∧ h.IsTuple a its.toArray), ?_, fun i st => ⟨st, (show s.heap.IsTuple a its.toArray from p)⟩, fun i h st => st.1⟩
    have D := Draws.tuple (prog := X.prog) (w := X.w) (A := X.A.in1) hh it a ne its.toArray
    simpa using D
  | false =>
    obtain ⟨its, rv, p, hz⟩ := I.list h
    refine ⟨its, rv, p.lt, (fun i h => h.IsListIter it a i ∧ h.IsList a its.toArray), ?_, fun i st => ⟨st, p.isList⟩, fun i h st => st.1⟩
    have D := Draws.list (prog := X.prog) (w := X.w) (A := X.A.in1) hh it a ne its.toArray
    simpa using D
end
def ItzB (K : PySem.W.Frag) (t u : Bool) (a b : Addr) : It :=
  ⟨fun i H => ∃ (xs ys : List V) (x y : V), SqB K t H a xs ∧ SqB K u H b ys ∧ xs[i]? = some x ∧ ys[i]? = some y,
    fun i H v H' => ∃ (T : Addr) (o : Obj) (x y : V), v = .ref T ∧ H T = none ∧ o.dict = none ∧ H' = upd H T (.frz o (.tup [x, y])) ∧ (∀ xs, SqB K t H a xs → xs[i]? = some x) ∧ ∀ ys, SqB K u H b ys → ys[i]? = some y,
    fun i H => ∃ xs ys : List V, SqB K t H a xs ∧ SqB K u H b ys ∧ i ≤ xs.length ∧ i ≤ ys.length ∧ (i = xs.length ∨ i = ys.length)⟩
/-- a pair is new on the heap -/
theorem pair_newO {X : Cx} {pins : List (Addr × Obj)} {σ : L2.St} {H : Hp} {s : Shared} {h : Heap} {tk : Nat} {ch : List Addr} {x y : V} {u v : Value} (I : Inv X pins σ H s) (fr : ∀ c ∈ ch, FpOk X pins H c) (rx : RelV x u) (ry : RelV y v)
    (k : ∀ c o, c ∉ ch → s.heap.get? c = some o → h.get? c = some o) (e : h.get? s.heap.objs.size = some (tupO [u, v])) :
    Inv X pins σ (upd H s.heap.objs.size (.frz (tupO [u, v]) (.tup [x, y]))) { s with heap := h, toks := tk } :=
  I.turnedNew k fr (Nat.le_refl _) (tup_frz (show 2 ≤ sizeLine by decide) (.cons rx (.cons ry .nil)) e)
/-- what stood stays free of the new thing -/
theorem free_updO {X : Cx} {pins : List (Addr × Obj)} {H : Hp} {h : Heap} {ob : HO} {ch : List Addr} (fr : ∀ c ∈ ch, FpOk X pins H c) (old : ∀ c ∈ ch, ∃ o, h.get? c = some o ∧ ∀ v, o.data ≠ .cell v) :
    ∀ c ∈ ch, upd H h.objs.size ob c = none := fun c m => by
  have ⟨o, e, _⟩ := old c m
  rw [upd_ne (Nat.ne_of_lt (Heap.lt_size e))]
  exact (fr c m).1
/-- a zip's own things as the walk finds them -/
def ZpB (t u : Bool) (a b z TI TO i1 i2 : Addr) (i : Nat) (h : Heap) : Prop := IsZip h z TI TO .none ∧ IsTupOf2 h TI (.ref i1) (.ref i2) ∧ (∃ x y, IsTupOf2 h TO x y) ∧ ItB t h i1 a i ∧ ItB u h i2 b i
theorem ZpB.old {t u : Bool} {a b z TI TO i1 i2 : Addr} {i : Nat} {h : Heap} (S : ZpB t u a b z TI TO i1 i2 i h) : ∀ c ∈ [z, TI, TO, i1, i2], ∃ o, h.get? c = some o ∧ ∀ v, o.data ≠ .cell v := by
  have ⟨hz, hT, ⟨x, y, hO⟩, l, r⟩ := S
  simp only [List.forall_mem_cons, List.not_mem_nil, false_imp_iff, implies_true, and_true]
  exact ⟨⟨_, hz, by intro v q; cases q⟩, ⟨_, hT, by intro v q; cases q⟩, ⟨_, hO, by intro v q; cases q⟩, l.obj, r.obj⟩
theorem ZpB.stay {t u : Bool} {a b z TI TO i1 i2 : Addr} {i : Nat} {h h' : Heap} (S : ZpB t u a b z TI TO i1 i2 i h) (k : ∀ c ∈ [z, TI, TO, i1, i2], ∀ o, h.get? c = some o → h'.get? c = some o) : ZpB t u a b z TI TO i1 i2 i h' := by
  simp only [List.forall_mem_cons, List.not_mem_nil, false_imp_iff, implies_true, and_true] at k
  have ⟨kz, kT, kO, kl, kr⟩ := k
  have ⟨hz, hT, ⟨x, y, hO⟩, l, r⟩ := S
  exact ⟨kz _ hz, kT _ hT, ⟨x, y, kO _ hO⟩, l.at kl, r.at kr⟩
theorem zip_not {z TI TO i1 i2 c : Addr} (n : c ∉ [z, TI, TO, i1, i2]) : c ≠ z ∧ c ≠ TO ∧ c ≠ i1 ∧ c ≠ i2 := by
  simp only [List.mem_cons, List.not_mem_nil, or_false, not_or] at n
  exact ⟨n.1, n.2.2.1, n.2.2.2⟩
theorem zip_item {P : Program} {w : World} {K : PySem.W.Frag} {elts : List Expr} {kk : Nat} {tpos : Pos} {t u : Bool} {a b z TI TO i1 i2 : Addr} (D : ZipSep2 z TI TO i1 i2 [i1, a] [i2, b]) (na : a ≠ i1) (nb : b ≠ i2)
    {X : Cx} (hh : X.A.handled = none) {i : Nat} {pins : List (Addr × Obj)} {s : Shared} {σ : L2.St} {H : Hp} {E : Value → Shared → Prop} (I : Inv X pins σ H s) (fr : ∀ c ∈ [z, TI, TO, i1, i2], FpOk X pins H c)
    (S : ZpB t u a b z TI TO i1 i2 i s.heap) (g : (ItzB X.K t u a b).go i H) : wpAny (model X.prog X.w) X.A (pyNext (.ref z)) (fun r s1 => ∃ v, r = some v ∧
      wpAny (model X.prog X.w) X.A (letOwnedTupleGo (.Tuple elts kk tpos) (.ref z) v) (fun _ s2 => ∃ x H', Inv X pins σ H' s2 ∧ RelV x v ∧ (ItzB X.K t u a b).yld i H x H' ∧ ZpB t u a b z TI TO i1 i2 (i + 1) s2.heap ∧ ∀ c ∈ [z, TI, TO, i1, i2], H' c = none) E s1) E s := by
  have old := S.old
  have ⟨xs, ys, x, y, ha, hb, hx, hy⟩ := g
  have ⟨hz, hT, ⟨_, _, hO⟩, l, r⟩ := S
  have ⟨us, ra, _, Sa, Da, toA, ofA⟩ := ha.draws hh I na
  have ⟨vs, rb, _, Sb, Db, toB, ofB⟩ := hb.draws hh I nb
  have ⟨p, ep, rp⟩ := ra.get hx
  have ⟨q, eq, rq⟩ := rb.get hy
  have lz : z ≠ s.heap.objs.size := Nat.ne_of_lt (Heap.lt_size hz)
  refine wpAny_pyNext_zipD2_item D Da Db hz hT hO (toA i l) (toB i r) (List.getElem?_eq_some_iff.mp ep).1 (List.getElem?_eq_some_iff.mp eq).1 ?_
  intro p' q' h1 tk gp gq z1 O1 l1 r1 n1 _ k1
  obtain rfl : p' = p := by have := gp.symm.trans ep; injection this
  obtain rfl : q' = q := by have := gq.symm.trans eq; injection this
  refine ⟨_, rfl, wpAny_letOwnedTupleGo_zip (s := { s with heap := h1, toks := tk }) z1 fun h2 z2 sb => ?_⟩
  have k2 : ∀ c o, c ≠ z → h1.get? c = some o → h2.get? c = some o := fun c o n e => (sb.2 c n).trans e
  have J : Inv X pins σ _ { s with heap := h2, toks := tk } := pair_newO (tk := tk) I fr rp rq (fun c o n e => have ⟨n1, n2, n3, n4⟩ := zip_not n; k2 c o n1 (k1 c o n1 n2 n3 n4 e)) (k2 _ _ lz.symm n1)
  have S2 : ZpB t u a b z TI TO i1 i2 (i + 1) h2 := ⟨z2, k2 _ _ D.TIz (k1 _ _ D.TIz D.TITO D.TIi1 D.TIi2 hT), ⟨_, _, k2 _ _ D.TOz O1⟩, (ofA _ _ l1).at fun o => k2 _ o D.zi1.symm, (ofB _ _ r1).at fun o => k2 _ o D.zi2.symm⟩
  exact ⟨.ref _, _, J, rfl, ⟨_, _, x, y, rfl, I.fresh, rfl, rfl, fun zs h => (h.inj I ha) ▸ hx, fun zs h => (h.inj I hb) ▸ hy⟩, S2, free_updO fr old⟩
theorem turn_zipB {P : Program} {w : World} {K : PySem.W.Frag} {elts : List Expr} {kk : Nat} {tpos : Pos} {t u : Bool} {a b z TI TO i1 i2 : Addr} (D : ZipSep2 z TI TO i1 i2 [i1, a] [i2, b]) (na : a ≠ i1) (nb : b ≠ i2) :
    Turn P w K (.Tuple elts kk tpos) (ItzB K t u a b) [z, TI, TO, i1, i2] z (fun i h => IsZip h z TI TO .none ∧ IsTupOf2 h TI (.ref i1) (.ref i2) ∧ (∃ x y, IsTupOf2 h TO x y) ∧ ItB t h i1 a i ∧ ItB u h i2 b i) where
  mem := List.mem_cons_self
  obj := fun _ _ S => ZpB.old S
  keep := fun _ _ _ S => ZpB.stay S
  item := fun X eP ew eK hc i pins s σ H E I fr S g => by
    subst eP ew eK
    exact zip_item (P := X.prog) (w := X.w) (K := X.K) D na nb (I.ok.hd hc) I fr S g
  done := fun X eP ew eK hc i pins s σ H E I fr S g => by
    subst eP ew eK
    have ⟨xs, ys, ha, hb, la, lb, stop⟩ := g
    have ⟨hz, hT, ⟨_, _, hO⟩, l, r⟩ := S
    have ⟨us, ra, _, Sa, Da, toA, _⟩ := ha.draws (I.ok.hd hc) I na
    have ⟨vs, rb, _, Sb, Db, toB, _⟩ := hb.draws (I.ok.hd hc) I nb
    refine wpAny_pyNext_zipD2_end D Da Db hz hT hO (toA i l) (toB i r) (ra.length ▸ la) (rb.length ▸ lb) (ra.length ▸ rb.length ▸ stop) ?_
    intro h1 tk k1
    exact ⟨rfl, I.turnedL (t' := tk) (fun c o n e => have ⟨n1, n2, n3, n4⟩ := zip_not n; k1 c o n1 n2 n3 n4 e) fr⟩
  self := fun _ _ _ _ _ S => wpAny_pyIter_zip S.1
theorem nin2 {z x y : Addr} (h1 : z ≠ x) (h2 : z ≠ y) : z ∉ [x, y] := fun h => by
  rcases List.mem_cons.mp h with e | h
  · exact h1 e
  · exact h2 (by simpa using h)
theorem sep (n a b : Nat) (h1 : a < n) (h2 : b < n) : ZipSep2 (n + 4) (n + 2) (n + 3) n (n + 1) [n, a] [n + 1, b] := by
  have A : ∀ i j : Nat, i ≠ j → (n + i : Nat) ≠ n + j := fun i j h => by omega
  have A0 : ∀ i : Nat, 0 ≠ i → (n + i : Nat) ≠ n := fun i h => by omega
  have B : ∀ i : Nat, (n + i : Nat) ≠ a := fun i => by omega
  have C : ∀ i : Nat, (n + i : Nat) ≠ b := fun i => by omega
  exact ⟨A 2 4 (by decide), A 3 4 (by decide), A 2 3 (by decide), A0 2 (by decide), List.mem_cons_self, nin2 (A0 4 (by decide)) (B 4), nin2 (A0 3 (by decide)) (B 3), A 2 1 (by decide), List.mem_cons_self, nin2 (A 4 1 (by decide)) (C 4), nin2 (A 3 1 (by decide)) (C 3),
    nin2 (Ne.symm (A0 1 (by decide))) (C 0), nin2 (A0 1 (by decide)) (B 1)⟩
def iZipB (K : PySem.W.Frag) (ta : TA) : TI := fun σ H R => ta σ H fun vs H1 => ∃ t u a b xs ys, vs = [.ref a, .ref b] ∧ SqB K t H1 a xs ∧ SqB K u H1 b ys ∧ R (ItzB K t u a b) H1
theorem SqB.begins {X : Cx} {pins : List (Addr × Obj)} {σ : L2.St} {H : Hp} {s : Shared} {t : Bool} {a : Addr} {xs : List V} (I : Inv X pins σ H s) (h : SqB X.K t H a xs) :
    a < s.heap.objs.size ∧ ∃ (o : Obj) (HH : Heap → Prop), Begins (.ref a) o HH ∧ HH s.heap ∧ ∀ h' it, h'.get? it = some o → ItB t h' it a 0 := by
  cases t with
  | true =>
    obtain ⟨its, rv, p, hz⟩ := I.tuple h
    exact ⟨p.lt, _, _, begins_tuple a its.toArray, (show s.heap.IsTuple a its.toArray from p), fun h' it e => ⟨_, e, rfl, rfl⟩⟩
  | false =>
    obtain ⟨its, rv, p, hz⟩ := I.list h
    exact ⟨p.lt, _, _, begins_list a its.toArray, p.isList, fun h' it e => ⟨_, e, rfl, rfl⟩⟩
theorem pi_zipB {X : Cx} {e e2 : Expr} {ta : TA} {p pos tpos : Pos} {elts : List Expr} {kk : Nat} (hg : Gl X "zip") (hm : X.mg "zip" = none) (ha : PA X [e, e2] ta)
    (hs : starEach [e, e2] X.env = (false, eval e X.env) :: starEach [e2] X.env) (hpl : (backTo pos (starEach [e2] X.env)).any (·.1) = false) :
    PI X (.Tuple elts kk tpos) (.Call (.Name "zip" p) [e, e2] [] pos) (iZipB X.K ta) := by
  constructor
  intro pins s σ H R I h
  refine Call_ (ld_blt I hg hm PyProof.Rows.boot_zip (PyProof.Rows.callWith_type1 (thn (ha.run pos pins s σ H _ I h) ?_) hs hpl))
  rintro _ s1 ⟨_, H1, J, rv, t, u, a, b, xs, ys, rfl, hx, hy, q⟩
  obtain ⟨v, v', rfl, rv0, rv1⟩ := rv.two
  cases rv0; cases rv1
  have ⟨la, _, _, Ba, ka, toA⟩ := hx.begins J
  have ⟨lb, _, _, Bb, kb, toB⟩ := hy.begins J
  refine zip_begins2 Ba Bb ka kb fun h1 hz hT hO ea eb _ k1 => wpAny_pyIter_zip hz ?_
  have fr : ∀ c ∈ [s1.heap.objs.size + 4, s1.heap.objs.size + 2, s1.heap.objs.size + 3, s1.heap.objs.size, s1.heap.objs.size + 1], FpOk X pins H1 c := by
    have at_ : ∀ j : Nat, FpOk X pins H1 (s1.heap.objs.size + j) := fun j => J.fpOk (Nat.le_add_right _ _) (J.hok.fresh (Nat.le_add_right _ _))
    simp only [List.forall_mem_cons, List.not_mem_nil, false_imp_iff, implies_true, and_true]
    exact ⟨at_ 4, at_ 2, at_ 3, at_ 0, at_ 1⟩
  exact ⟨_, _, _, _, H1, rfl, J.kept (t' := s1.toks) k1, turn_zipB (t := t) (u := u) (sep _ a b la lb) (Nat.ne_of_lt la) (Nat.ne_of_lt (Nat.lt_succ_of_lt lb)), ⟨hz, hT, ⟨_, _, hO⟩, toA _ _ ea, toB _ _ eb⟩, fr, q⟩
/-! ### enumerate of a list or a tuple -/
set_option maxHeartbeats 1000000 in
theorem new_enum {v : Value} {o : Obj} {HH : Heap → Prop} (B : Begins v o HH) :
    Meets (Builtin.«enumerate.__new__» ⟨[.type "enumerate", v], []⟩) (fun _ R s => HH s.heap ∧
      R (.ok (.ret (.ref (s.heap.push o).objs.size))) { s with heap := (s.heap.push o).push { cls := .type "enumerate", data := .fields #[.none, .bool false, .ref s.heap.objs.size, rawInt 0, .none, .none] } }) :=
  .of_wp fun prog w A R s hh => by
    obtain ⟨hp, gg, dd, tk, os⟩ := s
    obtain ⟨b1, fin⟩ := hh
    have sub := sub_enumerate
    have itr : ∀ {A' : Around} {E : Value → Shared → Prop} {Q : Value → Shared → Prop}, Q (.ref hp.objs.size) ⟨hp.push o, gg, dd, tk, os⟩ → wpAny (model prog w) A' (pyIter v) Q E ⟨hp, gg, dd, tk, os⟩ :=
      fun q => B.iter prog w _ _ ⟨hp, gg, dd, tk, os⟩ _ b1 q
    wp_walk using itr
    refine wpAny_stack_any fun sk => wpAny_pure ?_
    split
    · rename_i c _ _ _ _ _
      cases (c == Value.type "enumerate") <;> (wp_walk using itr; exact ⟨_, rfl, fin⟩)
    · wp_walk using itr
      exact ⟨_, rfl, fin⟩
theorem call_enum1 {prog : Program} {w : World} {A : Around} {E : Value → Shared → Prop} {s : Shared} {v : Value} {o : Obj} {HH : Heap → Prop} {Q : Value → Shared → Prop} (B : Begins v o HH) (h1 : HH s.heap)
    (h : ∀ h', IsEnum h' (s.heap.objs.size + 1) s.heap.objs.size 0 .none → h'.get? s.heap.objs.size = some o → (∀ b o, s.heap.get? b = some o → h'.get? b = some o) → Q (.ref (s.heap.objs.size + 1)) { s with heap := h' }) :
    wpAny (model prog w) A (call (.type "enumerate") [v]) Q E s := by
  refine callType_new F.called_enumerate (by decide) (F.typeCall_enumerate_1 _) (F.newCall_enumerate_1 _) (fun ob => F.args_object_init_2 ob _) F.entry_enumerate_new (new_enum B) ⟨h1, ?_⟩
  have sz : (s.heap.push o).objs.size = s.heap.objs.size + 1 := Heap.size_push ..
  have en : IsEnum ((s.heap.push o).push { cls := .type "enumerate", data := .fields #[.none, .bool false, .ref s.heap.objs.size, rawInt 0, .none, .none] }) (s.heap.objs.size + 1) s.heap.objs.size 0 .none := by
    have e := Heap.get?_push_size (s.heap.push o) (o := { cls := .type "enumerate", data := .fields #[.none, .bool false, .ref s.heap.objs.size, rawInt 0, .none, .none] }) rfl
    rw [sz] at e
    exact e
  show _ ∧ _
  rw [sz]
  exact ⟨⟨_, en, rfl⟩, h _ en (Heap.get?_push_of_some _ (Heap.get?_push_size _ B.free)) fun b ob e => Heap.get?_push_of_some _ (Heap.get?_push_of_some _ e)⟩
def IteB (K : PySem.W.Frag) (t : Bool) (a : Addr) : It :=
  ⟨fun i H => ∃ (xs : List V) (x : V), SqB K t H a xs ∧ xs[i]? = some x,
    fun i H v H' => ∃ (T : Addr) (o : Obj) (x : V), v = .ref T ∧ H T = none ∧ o.dict = none ∧ H' = upd H T (.frz o (.tup [.int (i : Nat), x])) ∧ ∀ xs, SqB K t H a xs → xs[i]? = some x,
    fun i H => ∃ xs : List V, SqB K t H a xs ∧ xs.length = i⟩
theorem turn_enumB {P : Program} {w : World} {K : PySem.W.Frag} {elts : List Expr} {kk : Nat} {tpos : Pos} {t : Bool} {a e it : Addr} (na : a ≠ it) (ne : e ≠ it) (nea : e ≠ a) :
    Turn P w K (.Tuple elts kk tpos) (IteB K t a) [e, it] e (fun i h => (∃ old, IsEnum h e it ((i : Nat) : Int) old) ∧ ItB t h it a i) where
  mem := List.mem_cons_self
  obj := fun i h S => by
    have ⟨⟨_, he⟩, r⟩ := S
    simp only [List.forall_mem_cons, List.not_mem_nil, false_imp_iff, implies_true, and_true]
    exact ⟨⟨_, he, by intro v q; cases q⟩, r.obj⟩
  keep := fun i h h' S k => by
    simp only [List.forall_mem_cons, List.not_mem_nil, false_imp_iff, implies_true, and_true] at k
    exact ⟨S.1.imp fun _ he => k.1 _ he, S.2.at k.2⟩
  item := fun X eP ew eK hc i pins s σ H E I fr S g => by
    subst eP ew eK
    have ⟨⟨_, he⟩, r⟩ := S
    have ⟨xs, x, ha, hx⟩ := g
    have ⟨us, ra, _, Sa, Da, toA, ofA⟩ := ha.draws (I.ok.hd hc) I na
    have ⟨p, ep, rp⟩ := ra.get hx
    have le : e ≠ s.heap.objs.size := Nat.ne_of_lt (Heap.lt_size he)
    refine wpAny_pyNext_enum_itemD Da he (toA i r) (List.getElem?_eq_some_iff.mp ep).1 ne (by simp [ne, nea]) ?_
    intro p' h1 tk gp e1 r1 n1 _ k1
    obtain rfl : p' = p := by have := gp.symm.trans ep; injection this
    refine ⟨_, rfl, wpAny_letOwnedTupleGo_enum (s := { s with heap := h1, toks := tk + 1 }) e1 fun h2 e2 sb => ?_⟩
    have k2 : ∀ c o, c ≠ e → h1.get? c = some o → h2.get? c = some o := fun c o n q => (sb.2 c n).trans q
    have ri : RelV (.int (i : Nat)) (.int i tk) := ⟨tk, rfl⟩
    have J : Inv X pins σ _ { s with heap := h2, toks := tk + 1 } := pair_newO (tk := tk + 1) I fr ri rp (fun c o n q => by
      simp only [List.mem_cons, List.not_mem_nil, or_false, not_or] at n
      exact k2 c o n.1 (k1 c o n.1 n.2 q)) (k2 _ _ le.symm n1)
    refine ⟨.ref _, _, J, rfl, ⟨_, _, x, rfl, I.fresh, rfl, rfl, fun zs h => (h.inj I ha) ▸ hx⟩, ⟨⟨_, by exact_mod_cast e2⟩, (ofA _ _ r1).at fun o => k2 _ o ne.symm⟩, ?_⟩
    refine free_updO fr ?_
    simp only [List.forall_mem_cons, List.not_mem_nil, false_imp_iff, implies_true, and_true]
    exact ⟨⟨_, he, by intro v q; cases q⟩, r.obj⟩
  done := fun X eP ew eK hc i pins s σ H E I fr S g => by
    subst eP ew eK
    have ⟨⟨_, he⟩, r⟩ := S
    have ⟨xs, ha, l⟩ := g
    have ⟨us, ra, _, Sa, Da, toA, _⟩ := ha.draws (I.ok.hd hc) I na
    obtain rfl : us.length = i := ra.length.symm.trans l
    refine wpAny_pyNext_enum_endD Da he (toA _ r) fun h1 k1 => ⟨rfl, I.turnedL (t' := s.toks) (fun c o n q => k1 c o (fun z => n (by simp [z])) q) fr⟩
  self := fun _ _ _ _ _ S h => S.1.elim fun _ he => wpAny_pyIter_enum he h
def iEnumB (K : PySem.W.Frag) (ta : TA) : TI := fun σ H R => ta σ H fun vs H1 => ∃ t a xs, vs = [.ref a] ∧ SqB K t H1 a xs ∧ R (IteB K t a) H1
theorem pi_enumB {X : Cx} {e : Expr} {ta : TA} {p pos tpos : Pos} {elts : List Expr} {kk : Nat} (hg : Gl X "enumerate") (hm : X.mg "enumerate" = none) (ha : PA X [e] ta) (hs : starEach [e] X.env = [(false, eval e X.env)]) :
    PI X (.Tuple elts kk tpos) (.Call (.Name "enumerate" p) [e] [] pos) (iEnumB X.K ta) := by
  constructor
  intro pins s σ H R I h
  refine Call_ (ld_blt I hg hm boot_enumerate (PyProof.Rows.callWith_type1 (thn (ha.run pos pins s σ H _ I h) ?_) hs rfl))
  rintro _ s1 ⟨_, H1, J, rv, t, a, xs, rfl, hx, q⟩
  obtain ⟨v, rfl, rv0⟩ := rv.one
  cases rv0
  have ⟨la, _, _, Ba, ka, toA⟩ := hx.begins J
  refine call_enum1 Ba ka fun h1 he ea k1 => wpAny_pyIter_enum he ?_
  have fr : ∀ c ∈ [s1.heap.objs.size + 1, s1.heap.objs.size], FpOk X pins H1 c := by
    have at_ : ∀ j : Nat, FpOk X pins H1 (s1.heap.objs.size + j) := fun j => J.fpOk (Nat.le_add_right _ _) (J.hok.fresh (Nat.le_add_right _ _))
    simp only [List.forall_mem_cons, List.not_mem_nil, false_imp_iff, implies_true, and_true]
    exact ⟨at_ 1, at_ 0⟩
  have na : s1.heap.objs.size + 1 ≠ a := fun z => Nat.lt_irrefl _ (Nat.lt_of_lt_of_le la (Nat.le_of_lt (z ▸ Nat.lt_succ_self _)))
  exact ⟨_, _, _, _, H1, rfl, J.kept (t' := s1.toks) k1, turn_enumB (t := t) (Nat.ne_of_lt la) (Nat.succ_ne_self _) na, ⟨⟨_, he⟩, toA _ _ ea⟩, fr, q⟩
end Mn

set_option Elab.async false
set_option linter.all false
set_option maxRecDepth 100000
set_option maxHeartbeats 4000000
/-! Snd9: names, targets, walks. -/
namespace Mn
open PySem PySem.Spec PyProof.Rows L2

def Wd.wh (W : Wd) (h : List Addr) : Wd := { W with hid := h }
/-- the module as the checker knows it -/
structure Gt where
  fns : List (Nat × Str)
  cls : List (Nat × Str)
  cons : List (Str × D)
  bis : List Str
  hots : List Nat
/-- a place in the text: the names by slot, the scope, whose cells are ours, whether an exception is handled -/
structure Ck where
  N : List Str
  sc : Scope
  fnb : Str → Bool
  hot : Bool
def visB (sc : Scope) (x : Str) : Bool := match sc.names.lookup x with
  | some .local => true
  | some .cell => true
  | some .free => true
  | _ => false
theorem visB_ok {sc : Scope} {x : Str} (h : visB sc x = true) : Vis sc x := by
  unfold visB at h
  unfold Vis
  split at h
  · exact .inl (by assumption)
  · exact .inr (.inl (by assumption))
  · exact .inr (.inr (by assumption))
  · cases h
def glB (sc : Scope) (x : Str) : Bool := match sc.names.lookup x with
  | some .globalImplicit => true
  | _ => false
theorem glB_ok {sc : Scope} {x : Str} (h : glB sc x = true) : sc.names.lookup x = some .globalImplicit := by
  unfold glB at h
  split at h
  · assumption
  · cases h
def storeB (c : Ck) (x : Str) : Bool := match c.sc.names.lookup x with
  | some .local => true
  | some .cell => c.fnb x
  | _ => false
theorem storeB_ok {c : Ck} {x : Str} (h : storeB c x = true) : Loc c.sc x ∧ (c.fnb x = true ∨ c.sc.names.lookup x = some .local) := by
  unfold storeB at h
  split at h
  · exact ⟨.inl (by assumption), .inr (by assumption)⟩
  · exact ⟨.inr (by assumption), .inl h⟩
  · cases h
def isStar : Expr → Bool
  | .Starred _ _ => true
  | _ => false
theorem starEach_cons {e : Expr} {es : List Expr} {env : PySem.Env} (h : isStar e = false) : starEach (e :: es) env = (false, eval e env) :: starEach es env := by
  cases e <;> first | rfl | (simp [isStar] at h)
theorem assignEach_cons {e : Expr} {es : List Expr} {env : PySem.Env} (h : isStar e = false) : assignEach (e :: es) env = (false, assign e env) :: assignEach es env := by
  cases e <;> first | rfl | (simp [isStar] at h)

/-! ### the context fits -/
structure Gd (c : Ck) (X : Cx) : Prop where
  N : X.N = c.N
  nd : c.N.Nodup
  sc : X.env.scope = c.sc
  fn : X.fn = c.fnb
  calm : X.calm = !c.hot
theorem Gd.gl {c : Ck} {X : Cx} (g : Gd c X) {x : Str} (h : glB c.sc x = true) : Gl X x := by
  have := glB_ok h
  rw [← g.sc] at this
  exact this

/-! ### targets -/
mutual
def chkT (c : Ck) : Tg → Expr → Bool
  | .name i, .Name x _ => decide (c.N[i]? = some x) && storeB c x
  | .tup ts, .Tuple es _ _ => !c.hot && chkTs c ts es
  | _, _ => false
def chkTs (c : Ck) : Tg → List Expr → Bool
  | .nil, [] => true
  | .cons t ts, e :: es => chkT c t e && chkTs c ts es
  | _, _ => false
end
def gEv (W : Wd) (t : Tg) : TG := fun v σ H Q => ∃ hid d env st ι, Sim (W.wh hid) ι st H ∧ SimE (W.wh hid) ι H σ env ∧ R (W.wh hid) ι H d v ∧ ∃ env', asgT t d env = some env' ∧
  ∀ σ', SimE (W.wh hid) ι H σ' env' → (∀ i, i ∉ t.slots → σ'[i]? = σ[i]?) → Q σ' H
def gsEv (W : Wd) (t : Tg) : TGs := fun vs σ H Q => ∃ hid ds env st ι, Sim (W.wh hid) ι st H ∧ SimE (W.wh hid) ι H σ env ∧ RL (W.wh hid) ι H ds vs ∧ ∃ env', asgTs t ds env = some env' ∧
  ∀ σ', SimE (W.wh hid) ι H σ' env' → (∀ i, i ∉ t.slots → σ'[i]? = σ[i]?) → Q σ' H
theorem PG.imp {X : Cx} {e : Expr} {t t' : TG} (h : PG X e t) (i : ∀ v σ H Q, t' v σ H Q → t v σ H Q) : PG X e t' := ⟨fun pins s σ H v u Q I r q => h.run pins s σ H v u Q I r (i _ _ _ _ q)⟩
theorem PGs.imp {X : Cx} {e : List Expr} {t t' : TGs} (h : PGs X e t) (i : ∀ v σ H Q, t' v σ H Q → t v σ H Q) : PGs X e t' := ⟨fun pins s σ H v u Q I r q => h.run pins s σ H v u Q I r (i _ _ _ _ q)⟩
theorem PG.or {X : Cx} {e : Expr} {t t' : TG} (h : PG X e t) (h' : PG X e t') : PG X e (fun v σ H Q => t v σ H Q ∨ t' v σ H Q) := ⟨fun pins s σ H v u Q I r q => by
  rcases q with q | q
  · exact h.run pins s σ H v u Q I r q
  · exact h'.run pins s σ H v u Q I r q⟩
theorem chkTs_each {c : Ck} : ∀ {ts : Tg} {es : List Expr} {env : PySem.Env}, chkTs c ts es = true → (assignEach es env).findIdx? (·.1) = none ∧ (assignEach es env).length = es.length
  | .nil, [], env, _ => ⟨rfl, rfl⟩
  | .cons t ts, e :: es, env, h => by
    simp only [chkTs, Bool.and_eq_true] at h
    have hs : isStar e = false := by
      cases e <;> first | rfl | (cases t <;> simp [chkT] at h)
    obtain ⟨h1, h2⟩ := chkTs_each (env := env) h.2
    rw [assignEach_cons hs]
    exact ⟨by rw [List.findIdx?_cons, h1]; rfl, by rw [List.length_cons, h2, List.length_cons]⟩
  | .nil, _ :: _, _, h => by simp [chkTs] at h
  | .cons _ _, [], _, h => by simp [chkTs] at h
  | .name _, es, _, h => by cases es <;> simp [chkTs] at h
  | .tup _, es, _, h => by cases es <;> simp [chkTs] at h
theorem asgTs_len {W : Wd} : ∀ {c : Ck} {ts : Tg} {es : List Expr} {ds : List D} {env env' : En}, chkTs c ts es = true → asgTs ts ds env = some env' → ds.length = es.length
  | c, .nil, [], ds, env, env', _, h => by
    cases ds with
    | nil => rfl
    | cons _ _ => simp [asgTs] at h
  | c, .cons t ts, e :: es, ds, env, env', hc, h => by
    simp only [chkTs, Bool.and_eq_true] at hc
    cases ds with
    | nil => simp [asgTs] at h
    | cons d ds =>
      simp only [asgTs] at h
      cases ha : asgT t d env with
      | none => rw [ha] at h; cases h
      | some env1 =>
        rw [ha] at h
        have := asgTs_len (W := W) hc.2 (show asgTs ts ds env1 = some env' from h)
        simp [this]
  | c, .nil, _ :: _, _, _, _, h, _ => by simp [chkTs] at h
  | c, .cons _ _, [], _, _, _, h, _ => by simp [chkTs] at h
  | c, .name _, es, _, _, _, h, _ => by cases es <;> simp [chkTs] at h
  | c, .tup _, es, _, _, _, h, _ => by cases es <;> simp [chkTs] at h
mutual
theorem tg_ok {W : Wd} {c : Ck} {X : Cx} (g : Gd c X) : ∀ (t : Tg) (e : Expr), chkT c t e = true → PG X e (gEv W t)
  | .name i, e, h => by
    cases e with
    | Name x pos =>
      simp only [chkT, Bool.and_eq_true, decide_eq_true_eq] at h
      obtain ⟨h1, h2⟩ := storeB_ok h.2
      refine PG.imp (pg_name (i := i) (by rw [g.N]; exact g.nd) (by rw [g.N]; exact h.1) (by rw [g.sc]; exact h1) (by rw [g.fn, g.sc]; exact h2)) fun v σ H Q q => ?_
      obtain ⟨hid, d, env, st, ι, S, E, r, env', ea, k⟩ := q
      simp only [asgT] at ea
      split at ea
      · cases ea
        refine k _ (E.set r) fun j hj => ?_
        have : i ≠ j := fun z => hj (by rw [z]; simp [Tg.slots])
        exact List.getElem?_set_ne this
      · cases ea
    | _ => simp [chkT] at h
  | .tup ts, e, h => by
    cases e with
    | Tuple es k pos =>
      simp only [chkT, Bool.and_eq_true, Bool.not_eq_true'] at h
      have hc : X.calm = true := by rw [g.calm, h.1]; rfl
      obtain ⟨f1, f2⟩ := chkTs_each (env := X.env) h.2
      have P := tgs_ok g ts es h.2 (W := W)
      refine PG.imp (PG.or (pg_tup (k := k) (pos := pos) hc P f2 f1) (pg_unl (k := k) (pos := pos) hc P f2 f1)) fun v σ H Q q => ?_
      obtain ⟨hid, d, env, st, ι, S, E, r, env', ea, kk⟩ := q
      cases r with
      | tup h1 h2 h3 =>
        simp only [asgT] at ea
        exact .inl ⟨_, _, rfl, h1.sq, by rw [← h3.length]; exact asgTs_len (W := W) h.2 ea, hid, _, env, st, ι, S, E, h3, env', ea, kk⟩
      | lst h1 h2 h3 =>
        simp only [asgT] at ea
        exact .inr ⟨_, _, rfl, .inl h1, by rw [← h3.length]; exact asgTs_len (W := W) h.2 ea, hid, _, env, st, ι, S, E, h3, env', ea, kk⟩
      | _ => simp [asgT] at ea
    | _ => simp [chkT] at h
  | .nil, e, h => by cases e <;> simp [chkT] at h
  | .cons _ _, e, h => by cases e <;> simp [chkT] at h
theorem tgs_ok {W : Wd} {c : Ck} {X : Cx} (g : Gd c X) : ∀ (t : Tg) (es : List Expr), chkTs c t es = true → PGs X es (gsEv W t)
  | .nil, [], _ => by
    refine PGs.imp pgs_nil fun vs σ H Q q => ?_
    obtain ⟨hid, ds, env, st, ι, S, E, r, env', ea, k⟩ := q
    cases ds with
    | nil =>
      simp only [asgTs, Option.some.injEq] at ea
      subst ea
      cases r
      exact ⟨rfl, k σ E fun _ _ => rfl⟩
    | cons _ _ => simp [asgTs] at ea
  | .cons t ts, e :: es, h => by
    simp only [chkTs, Bool.and_eq_true] at h
    have hs : isStar e = false := by
      cases e <;> first | rfl | (cases t <;> simp [chkT] at h)
    refine PGs.imp (pgs_cons (tg_ok g t e h.1 (W := W)) (tgs_ok g ts es h.2 (W := W)) (by rw [assignEach_cons hs]; rfl)) fun vs σ H Q q => ?_
    obtain ⟨hid, ds, env, st, ι, S, E, r, env', ea, k⟩ := q
    cases r with
    | nil => simp [asgTs] at ea
    | cons r1 r2 =>
      simp only [asgTs] at ea
      cases ha : asgT t _ env with
      | none => rw [ha] at ea; cases ea
      | some env1 =>
        rw [ha] at ea
        refine ⟨_, _, rfl, hid, _, env, st, ι, S, E, r1, env1, ha, fun σ' E' k' => ?_⟩
        refine ⟨hid, _, env1, st, ι, S, E', r2, env', ea, fun σ2 E2 k2 => k σ2 E2 fun i hi => ?_⟩
        simp only [Tg.slots, List.mem_append, not_or] at hi
        rw [k2 i hi.2, k' i hi.1]
  | .nil, _ :: _, h => by simp [chkTs] at h
  | .cons _ _, [], h => by simp [chkTs] at h
  | .name _, es, h => by cases es <;> simp [chkTs] at h
  | .tup _, es, h => by cases es <;> simp [chkTs] at h
end
theorem wipe_eq {σ σ' : L2.St} : ∀ {vs : List Nat}, σ'.length = σ.length → (∀ i, i ∉ vs → σ'[i]? = σ[i]?) → wipe σ' vs = wipe σ vs := by
  intro vs hl h
  apply List.ext_getElem?
  intro i
  by_cases hi : i ∈ vs
  · have key : ∀ (τ : L2.St) (vs : List Nat), i ∈ vs → (wipe τ vs)[i]? = if i < τ.length then some none else none := by
      intro τ vs
      induction vs with
      | nil => intro h; simp at h
      | cons v vs ih =>
        intro hm
        unfold wipe
        by_cases hv : v = i
        · subst hv
          by_cases hl : v < τ.length
          · rw [List.getElem?_set_self (by rw [wipe_length]; exact hl), if_pos hl]
          · rw [List.getElem?_eq_none (by rw [List.length_set, wipe_length]; omega), if_neg hl]
        · rw [List.getElem?_set_ne hv]
          exact ih (by rcases List.mem_cons.mp hm with z | z; exact absurd z.symm hv; exact z)
    rw [key σ' vs hi, key σ vs hi, hl]
  · have key : ∀ (τ : L2.St) (vs : List Nat), i ∉ vs → (wipe τ vs)[i]? = τ[i]? := by
      intro τ vs
      induction vs with
      | nil => intro _; rfl
      | cons v vs ih =>
        intro hm
        unfold wipe
        rw [List.getElem?_set_ne fun z => hm (by rw [z]; exact List.mem_cons_self)]
        exact ih fun z => hm (List.mem_cons_of_mem _ z)
    rw [key σ' vs hi, key σ vs hi]
    exact h i hi

/-! ### walks -/
/-- more is hidden, of what was not there -/
def HidX (W : Wd) (h : List Addr) (H0 : Hp) : Prop := ∀ p ∈ h, p ∈ W.hid ∨ H0 p = none
theorem HidX.refl (W : Wd) (H0 : Hp) : HidX W W.hid H0 := fun _ h => .inl h
theorem Fz.hidx {W : Wd} {ι : List Addr} {H : Hp} {h : List Addr} (x : HidX W h H) {a : Addr} {o : HO} (e : H a = some o) (n : Fz W ι a) : Fz (W.wh h) ι a := ⟨n.1, fun m => by
  rcases x a m with z | z
  · exact n.2 z
  · rw [e] at z; cases z⟩
mutual
theorem R.hidx {W : Wd} {ι : List Addr} {H : Hp} {h : List Addr} (x : HidX W h H) : ∀ {d : D} {v : V}, R W ι H d v → R (W.wh h) ι H d v
  | _, _, .non => .non
  | _, _, .bl b => .bl b
  | _, _, .int i => .int i
  | _, _, .str z => .str z
  | _, _, .tup ⟨o, k, d⟩ n r => .tup ⟨o, k, d⟩ (n.hidx x k) (r.hidx x)
  | _, _, .lst k n r => .lst k (by
      rcases k with k | ⟨o, k⟩
      · exact n.hidx x k
      · exact n.hidx x k) (r.hidx x)
  | _, _, .ob k => .ob k
  | _, _, .fn n => .fn (W := W.wh h) n
  | _, _, .ex k => .ex (W := W.wh h) k
  | _, _, .scr k => .scr (by
      rcases k with ⟨k, n⟩ | k
      · refine .inl ⟨k, ?_⟩
        rcases k with k | ⟨o, k⟩
        · exact n.hidx x k
        · exact n.hidx x k
      · exact .inr k)
theorem RL.hidx {W : Wd} {ι : List Addr} {H : Hp} {h : List Addr} (x : HidX W h H) : ∀ {ds : List D} {vs : List V}, RL W ι H ds vs → RL (W.wh h) ι H ds vs
  | _, _, .nil => .nil
  | _, _, .cons r t => .cons (r.hidx x) (t.hidx x)
end
/-- J walks the items of w from (ι0, H0) on -/
structure Wok (W : Wd) (ι0 : List Addr) (H0 : Hp) (w : Wk) (J : It) : Prop where
  go : ∀ (i : Nat) h ι H st, HidX W h H0 → Ext ι0 H0 ι H → Sim (W.wh h) ι st H → still st w.src = true → i < w.items.length → J.go i H
  stop : ∀ (i : Nat) h ι H st, HidX W h H0 → Ext ι0 H0 ι H → Sim (W.wh h) ι st H → still st w.src = true → i = w.items.length → J.stop i H
  yld : ∀ (i : Nat) h ι H st d x H', HidX W h H0 → Ext ι0 H0 ι H → Sim (W.wh h) ι st H → still st w.src = true → w.items[i]? = some d → J.yld i H x H' → Ext ι H ι H' ∧ Sim (W.wh h) ι st H' ∧ R (W.wh h) ι H' d x
theorem still_app {st : Store} : ∀ {a b : List (Nat × List D)}, still st (a ++ b) = true → still st a = true ∧ still st b = true
  | [], b, h => ⟨rfl, h⟩
  | (n, xs) :: a, b, h => by
    have h' : ((match obL st n with
      | some ys => beqs ys xs
      | none => false) && still st (a ++ b)) = true := h
    obtain ⟨h1, h2⟩ := Bool.and_eq_true_iff.mp h'
    obtain ⟨h3, h4⟩ := still_app h2
    exact ⟨by show (_ && _) = true; rw [h3, Bool.and_true]; exact h1, h4⟩
theorem still_one {st : Store} {n : Nat} {xs : List D} (h : still st [(n, xs)] = true) : obL st n = some xs := by
  have h' : ((match obL st n with
    | some ys => beqs ys xs
    | none => false) && true) = true := h
  rw [Bool.and_true] at h'
  cases e : obL st n with
  | none => rw [e] at h'; cases h'
  | some ys => rw [e] at h'; rw [beqs_eq h']
/-- a thing that is walked: what stands there while it stands still -/
theorem src_ok {W : Wd} {K : PySem.W.Frag} {ι0 : List Addr} {H0 : Hp} {st0 : Store} {d : D} {x : V} {w : Wk} (S0 : Sim W ι0 st0 H0) (r : R W ι0 H0 d x) (e : wkOf st0 d = some w) :
    ∃ t a, t = isTupD d ∧ x = .ref a ∧ ∀ h ι H st, HidX W h H0 → Ext ι0 H0 ι H → Sim (W.wh h) ι st H → still st w.src = true → ∃ vs, SqB K t H a vs ∧ RL (W.wh h) ι H w.items vs := by
  cases r with
  | tup h1 h2 h3 =>
    simp only [wkOf, Option.some.injEq] at e
    subst e
    exact ⟨true, _, rfl, rfl, fun h ι H st hx X S _ => ⟨_, (let ⟨o, e, _⟩ := h1; .inl (.inr ⟨o, X.keep _ _ e h2.1⟩)), (h3.hidx hx).mono X⟩⟩
  | lst h1 h2 h3 =>
    simp only [wkOf, Option.some.injEq] at e
    subst e
    exact ⟨false, _, rfl, rfl, fun h ι H st hx X S _ => ⟨_, .inl (X.rd h1 h2.1).1, (h3.hidx hx).mono X⟩⟩
  | ob hn =>
    rename_i n a
    simp only [wkOf] at e
    cases ho : obL st0 n with
    | none => rw [ho] at e; cases e
    | some xs =>
      rw [ho] at e
      cases e
      refine ⟨false, a, rfl, rfl, fun h ι H st hx X S hs => ?_⟩
      have := still_one hs
      obtain ⟨a', vs, k1, k2, k3⟩ := R.asL (W := W.wh h) (H := H) (.ob (X.get hn)) S (show asL st (.ob n) = some xs from this)
      cases k1
      exact ⟨vs, .inl k2, k3⟩
  | _ => simp [wkOf] at e
theorem wok_list {W : Wd} {K : PySem.W.Frag} {ι0 : List Addr} {H0 : Hp} {w : Wk} {t : Bool} {a : Addr} (h : ∀ h ι H st, HidX W h H0 → Ext ι0 H0 ι H → Sim (W.wh h) ι st H → still st w.src = true → ∃ vs, SqB K t H a vs ∧ RL (W.wh h) ι H w.items vs) :
    Wok W ι0 H0 w (match t with | true => Itt K a | false => Itl K a) := by
  cases t with
  | true =>
    refine ⟨fun i hh ι H st hx X S hs hi => ?_, fun i hh ι H st hx X S hs hi => ?_, fun i hh ι H st d x H' hx X S hs hd hy => ?_⟩
    · obtain ⟨vs, q, r⟩ := h hh ι H st hx X S hs
      exact ⟨vs, vs[i]'(by rw [← r.length]; exact hi), q, List.getElem?_eq_getElem _⟩
    · obtain ⟨vs, q, r⟩ := h hh ι H st hx X S hs
      exact ⟨vs, q, by rw [← r.length, hi]; exact Nat.le_refl _⟩
    · obtain ⟨vs, q, r⟩ := h hh ι H st hx X S hs
      obtain ⟨e, f⟩ := hy
      subst e
      obtain ⟨v, hv, rv⟩ := r.get hd
      rw [Option.some.inj ((f vs q).symm.trans hv)]
      exact ⟨Ext.refl _ _, S, rv⟩
  | false =>
    refine ⟨fun i hh ι H st hx X S hs hi => ?_, fun i hh ι H st hx X S hs hi => ?_, fun i hh ι H st d x H' hx X S hs hd hy => ?_⟩
    · obtain ⟨vs, q, r⟩ := h hh ι H st hx X S hs
      exact ⟨vs, vs[i]'(by rw [← r.length]; exact hi), q, List.getElem?_eq_getElem _⟩
    · obtain ⟨vs, q, r⟩ := h hh ι H st hx X S hs
      exact ⟨vs, q, by rw [← r.length, hi]; exact Nat.le_refl _⟩
    · obtain ⟨vs, q, r⟩ := h hh ι H st hx X S hs
      obtain ⟨e, f⟩ := hy
      subst e
      obtain ⟨v, hv, rv⟩ := r.get hd
      rw [Option.some.inj ((f vs q).symm.trans hv)]
      exact ⟨Ext.refl _ _, S, rv⟩
theorem rangeD_get : ∀ (lo : Int) (n i : Nat), (rangeD lo n)[i]? = if i < n then some (.int (lo + i)) else none
  | lo, 0, i => by simp [rangeD]
  | lo, n + 1, 0 => by simp [rangeD]
  | lo, n + 1, i + 1 => by
    simp only [rangeD, List.getElem?_cons_succ, rangeD_get (lo + 1) n i]
    by_cases h : i < n
    · rw [if_pos h, if_pos (by omega)]
      congr 2
      omega
    · rw [if_neg h, if_neg (by omega)]
theorem rangeD_len : ∀ (lo : Int) (n : Nat), (rangeD lo n).length = n
  | lo, 0 => rfl
  | lo, n + 1 => by simp [rangeD, rangeD_len (lo + 1) n]
theorem wok_range {W : Wd} {ι0 : List Addr} {H0 : Hp} (lo : Int) (n : Nat) : Wok W ι0 H0 ⟨rangeD lo n, []⟩ (Itr lo n) := by
  refine ⟨fun i hh ι H st hx X S hs hi => ?_, fun i hh ι H st hx X S hs hi => ?_, fun i hh ι H st d x H' hx X S hs hd hy => ?_⟩
  · rw [rangeD_len] at hi; exact hi
  · rw [rangeD_len] at hi; exact Nat.le_of_eq hi.symm
  · obtain ⟨e, ex⟩ := hy
    subst e; subst ex
    rw [rangeD_get] at hd
    split at hd
    · cases hd
      exact ⟨Ext.refl _ _, S, .int _⟩
    · cases hd
theorem enuD_get : ∀ (xs : List D) (k i : Nat), (enuD k xs)[i]? = (xs[i]?).map fun x => D.tup [.int ((k + i : Nat) : Int), x]
  | [], k, i => by simp [enuD]
  | x :: xs, k, 0 => by simp [enuD]
  | x :: xs, k, i + 1 => by
    simp only [enuD, List.getElem?_cons_succ, enuD_get xs (k + 1) i]
    congr 1
    funext y
    rw [show k + 1 + i = k + (i + 1) by omega]
theorem enuD_len : ∀ (xs : List D) (k : Nat), (enuD k xs).length = xs.length
  | [], k => rfl
  | x :: xs, k => by simp [enuD, enuD_len xs (k + 1)]
theorem pair_new {W : Wd} {ι : List Addr} {H : Hp} {st : Store} {T : Addr} {a b : D} {x y : V} {o : Obj} (S : Sim W ι st H) (hT : H T = none) (hd : o.dict = none) (ra : R W ι H a x) (rb : R W ι H b y) : Ext ι H ι (upd H T (.frz o (.tup [x, y]))) ∧ Sim W ι st (upd H T (.frz o (.tup [x, y]))) ∧ R W ι (upd H T (.frz o (.tup [x, y]))) (.tup [a, b]) (.ref T) := by
  have X := Ext.upd S (o := .frz o (.tup [x, y])) hT
  exact ⟨X, S.upd hT, .tup ⟨o, upd_same, hd⟩ (S.fresh hT) (.cons (ra.mono X) (.cons (rb.mono X) .nil))⟩
theorem wok_enum {W : Wd} {K : PySem.W.Frag} {ι0 : List Addr} {H0 : Hp} {w : Wk} {t : Bool} {a : Addr} (h : ∀ h ι H st, HidX W h H0 → Ext ι0 H0 ι H → Sim (W.wh h) ι st H → still st w.src = true → ∃ vs, SqB K t H a vs ∧ RL (W.wh h) ι H w.items vs) :
    Wok W ι0 H0 ⟨enuD 0 w.items, w.src⟩ (IteB K t a) := by
  refine ⟨fun i hh ι H st hx X S hs hi => ?_, fun i hh ι H st hx X S hs hi => ?_, fun i hh ι H st d x H' hx X S hs hd hy => ?_⟩
  · obtain ⟨vs, q, r⟩ := h hh ι H st hx X S hs
    rw [enuD_len] at hi
    exact ⟨vs, vs[i]'(by rw [← r.length]; exact hi), q, List.getElem?_eq_getElem _⟩
  · obtain ⟨vs, q, r⟩ := h hh ι H st hx X S hs
    rw [enuD_len] at hi
    exact ⟨vs, q, by rw [← r.length, hi]⟩
  · obtain ⟨vs, q, r⟩ := h hh ι H st hx X S hs
    obtain ⟨T, o, y, e1, e2, ed, e3, f⟩ := hy
    subst e1; subst e3
    dsimp only at hd
    rw [enuD_get] at hd
    cases hg : w.items[i]? with
    | none => rw [hg] at hd; cases hd
    | some z =>
      rw [hg] at hd
      cases hd
      obtain ⟨v, hv, rv⟩ := r.get hg
      rw [Option.some.inj ((f vs q).symm.trans hv)]
      rw [Nat.zero_add]
      exact pair_new S e2 ed (.int _) rv
theorem zipD_get : ∀ (xs ys : List D) (i : Nat) (d : D), (zipD xs ys)[i]? = some d → ∃ x y, xs[i]? = some x ∧ ys[i]? = some y ∧ d = .tup [x, y]
  | [], _, i, d, h => by simp [zipD] at h
  | _ :: _, [], i, d, h => by simp [zipD] at h
  | x :: xs, y :: ys, 0, d, h => by simp [zipD] at h; exact ⟨x, y, rfl, rfl, h.symm⟩
  | x :: xs, y :: ys, i + 1, d, h => by
    obtain ⟨a, b, h1, h2, h3⟩ := zipD_get xs ys i d (by simpa [zipD] using h)
    exact ⟨a, b, by simpa using h1, by simpa using h2, h3⟩
theorem zipD_len : ∀ (xs ys : List D), (zipD xs ys).length = min xs.length ys.length
  | [], _ => by simp [zipD]
  | _ :: _, [] => by simp [zipD]
  | x :: xs, y :: ys => by simp only [zipD, List.length_cons, zipD_len xs ys]; omega
theorem wok_zip {W : Wd} {K : PySem.W.Frag} {ι0 : List Addr} {H0 : Hp} {w v : Wk} {t u : Bool} {a b : Addr} (h : ∀ h ι H st, HidX W h H0 → Ext ι0 H0 ι H → Sim (W.wh h) ι st H → still st w.src = true → ∃ vs, SqB K t H a vs ∧ RL (W.wh h) ι H w.items vs)
    (k : ∀ h ι H st, HidX W h H0 → Ext ι0 H0 ι H → Sim (W.wh h) ι st H → still st v.src = true → ∃ vs, SqB K u H b vs ∧ RL (W.wh h) ι H v.items vs) : Wok W ι0 H0 ⟨zipD w.items v.items, w.src ++ v.src⟩ (ItzB K t u a b) := by
  refine ⟨fun i hh ι H st hx X S hs hi => ?_, fun i hh ι H st hx X S hs hi => ?_, fun i hh ι H st d x H' hx X S hs hd hy => ?_⟩
  · obtain ⟨s1, s2⟩ := still_app hs
    obtain ⟨vs, q, r⟩ := h hh ι H st hx X S s1
    obtain ⟨us, q2, r2⟩ := k hh ι H st hx X S s2
    rw [zipD_len] at hi
    exact ⟨vs, us, vs[i]'(by rw [← r.length]; omega), us[i]'(by rw [← r2.length]; omega), q, q2, List.getElem?_eq_getElem _, List.getElem?_eq_getElem _⟩
  · obtain ⟨s1, s2⟩ := still_app hs
    obtain ⟨vs, q, r⟩ := h hh ι H st hx X S s1
    obtain ⟨us, q2, r2⟩ := k hh ι H st hx X S s2
    rw [zipD_len] at hi
    exact ⟨vs, us, q, q2, by rw [← r.length]; omega, by rw [← r2.length]; omega, by rw [← r.length, ← r2.length]; omega⟩
  · obtain ⟨s1, s2⟩ := still_app hs
    obtain ⟨vs, q, r⟩ := h hh ι H st hx X S s1
    obtain ⟨us, q2, r2⟩ := k hh ι H st hx X S s2
    obtain ⟨T, o, x', y', e1, e2, ed, e3, f1, f2⟩ := hy
    subst e1; subst e3
    obtain ⟨p, p', g1, g2, rfl⟩ := zipD_get _ _ _ _ hd
    obtain ⟨z, hz, rz⟩ := r.get g1
    obtain ⟨z', hz', rz'⟩ := r2.get g2
    rw [Option.some.inj ((f1 vs q).symm.trans hz), Option.some.inj ((f2 us q2).symm.trans hz')]
    exact pair_new S e2 ed rz rz'
end Mn

set_option Elab.async false
set_option linter.all false
set_option maxRecDepth 100000
set_option maxHeartbeats 4000000
/-! Snd10: readings of expressions by the evaluator. -/
namespace Mn
open PySem PySem.Spec PyProof.Rows L2

def PostG {α β : Type} (W : Wd) (RA : List Addr → Hp → α → β → Prop) (E : Nat → Hp → Prop) (ι : List Addr) (H : Hp) (Q : β → Hp → Prop) : Res α → Prop
  | .ok a st' => ∀ ι' H' b, Ext ι H ι' H' → Sim W ι' st' H' → RA ι' H' a b → Q b H'
  | .exc c st' => ∀ ι' H', Ext ι H ι' H' → Sim W ι' st' H' → E c H'
  | .err => False
section
variable {α β α' β' : Type} {W : Wd} {RA : List Addr → Hp → α → β → Prop} {RB : List Addr → Hp → α' → β' → Prop} {E : Nat → Hp → Prop} {ι ι1 : List Addr} {H H1 : Hp}
theorem PostG.imp {Q Q' : β → Hp → Prop} {r : Res α} (p : PostG W RA E ι H Q r) (h : ∀ b H, Q b H → Q' b H) : PostG W RA E ι H Q' r := by
  cases r with
  | ok a st => exact fun ι' H' b x s ra => h _ _ (p ι' H' b x s ra)
  | exc c st => exact p
  | err => exact p
theorem PostG.ext {Q : β → Hp → Prop} {r : Res α} (p : PostG W RA E ι H Q r) (x : Ext ι H ι1 H1) : PostG W RA E ι1 H1 Q r := by
  cases r with
  | ok a st => exact fun ι' H' b x' s ra => p ι' H' b (x.trans x') s ra
  | exc c st => exact fun ι' H' x' s => p ι' H' (x.trans x') s
  | err => exact p
theorem PostG.bind {Q : β' → Hp → Prop} {r : Res α} {f : α → Store → Res α'} (p : PostG W RB E ι H Q (r.bind f)) :
    PostG W RA E ι H (fun b H1 => ∃ a ι1 st1, Ext ι H ι1 H1 ∧ Sim W ι1 st1 H1 ∧ RA ι1 H1 a b ∧ PostG W RB E ι1 H1 Q (f a st1)) r := by
  cases r with
  | ok a st => exact fun ι' H' b x s ra => ⟨a, ι', st, x, s, ra, p.ext x⟩
  | exc c st => exact p
  | err => exact p
theorem PostG.now {Q : β → Hp → Prop} {a : α} {st : Store} {b : β} (p : PostG W RA E ι H Q (.ok a st)) (s : Sim W ι st H) (r : RA ι H a b) : Q b H := p ι H b (Ext.refl _ _) s r
theorem PostG.prim {Q : V → Hp → Prop} {r : Res D} (p : PostG W (R W) E ι H Q (Mn.prim r)) : PostR W ι H Q r := by
  cases r with
  | ok a st => exact p
  | exc c st => exact p
  | err => exact p
end
abbrev EqR {α : Type} : List Addr → Hp → α → α → Prop := fun _ _ a b => a = b
abbrev XW (W : Wd) (Wx : WX) (σ : L2.St) : Nat → Hp → Prop := fun c H => Wx (.ref (W.ca c)) none σ H
def tEv (W : Wd) (C : Calls) (Wx : WX) (m : E) : TE := fun σ H Q => ∃ hid env st ι, Sim (W.wh hid) ι st H ∧ SimE (W.wh hid) ι H σ env ∧ PostG (W.wh hid) (R (W.wh hid)) (XW W Wx σ) ι H Q (ev C m env st)
def tEs (W : Wd) (C : Calls) (Wx : WX) (m : E) : TA := fun σ H Q => ∃ hid env st ι, Sim (W.wh hid) ι st H ∧ SimE (W.wh hid) ι H σ env ∧ PostG (W.wh hid) (RL (W.wh hid)) (XW W Wx σ) ι H Q (evs C m env st)
def tEo (W : Wd) (C : Calls) (Wx : WX) (m : E) : TO := fun σ H Q => ∃ hid env st ι, Sim (W.wh hid) ι st H ∧ SimE (W.wh hid) ι H σ env ∧ PostG (W.wh hid) EqR (XW W Wx σ) ι H Q (evo C m env st)
def tEb (W : Wd) (C : Calls) (Wx : WX) (m : E) : TT := fun σ H Q => ∃ hid env st ι, Sim (W.wh hid) ι st H ∧ SimE (W.wh hid) ι H σ env ∧ PostG (W.wh hid) EqR (XW W Wx σ) ι H Q (evB C m env st)
def iEv (W : Wd) (C : Calls) (Wx : WX) (m : E) : TI := fun σ H Q => ∃ hid env st ι, Sim (W.wh hid) ι st H ∧ SimE (W.wh hid) ι H σ env ∧ PostG (W.wh hid) (Wok (W.wh hid)) (XW W Wx σ) ι H Q (evw C m env st)
section
variable {X : Cx}
theorem PE.imp {e : Expr} {t t' : TE} (h : PE X e t) (i : ∀ σ H Q, t' σ H Q → t σ H Q) : PE X e t' := ⟨fun pins s σ H Q I q => h.run pins s σ H Q I (i _ _ _ q)⟩
theorem PT.imp {e : Expr} {t t' : TT} (h : PT X e t) (i : ∀ σ H Q, t' σ H Q → t σ H Q) : PT X e t' := ⟨fun pins s σ H Q I q => h.run pins s σ H Q I (i _ _ _ q)⟩
theorem PW.imp {e : Expr} {t t' : TT} (h : PW X e t) (i : ∀ σ H Q, t' σ H Q → t σ H Q) : PW X e t' := ⟨fun wh pins s σ H Q I q => h.run wh pins s σ H Q I (i _ _ _ q)⟩
theorem PA.imp {e : List Expr} {t t' : TA} (h : PA X e t) (i : ∀ σ H Q, t' σ H Q → t σ H Q) : PA X e t' := ⟨fun p pins s σ H Q I q => h.run p pins s σ H Q I (i _ _ _ q)⟩
theorem PO.imp {e : Option Expr} {t t' : TO} (h : PO X e t) (i : ∀ σ H Q, t' σ H Q → t σ H Q) : PO X e t' := ⟨fun pins s σ H Q I q => h.run pins s σ H Q I (i _ _ _ q)⟩
theorem PI.imp {tg e : Expr} {t t' : TI} (h : PI X tg e t) (i : ∀ σ H Q, t' σ H Q → t σ H Q) : PI X tg e t' := ⟨fun pins s σ H Q I q => h.run pins s σ H Q I (i _ _ _ q)⟩
end

/-! ### the module's facts -/
def spEv (W : Wd) (C : Calls) (f : Nat) : Sp := fun vs H Q E => ∃ hid ds st ι, Sim (W.wh hid) ι st H ∧ RL (W.wh hid) ι H ds vs ∧ PostG (W.wh hid) (R (W.wh hid)) (fun c H' => E (.ref (W.ca c)) none H') ι H Q (C f ds st)
/-- what a def promises when it is called with the exception that is handled -/
structure FnZ (P : Program) (w : World) (K : PySem.W.Frag) (mg : Str → Option Value) (base : Heap) (CX : CXT) (k : Nat) (f : Addr) (fd : FuncData) (ps : List Str) (sp : Addr → Sp) (cl : Addr) : Prop where
  len : ∀ a vs H Q E, sp a vs H Q E → vs.length = ps.length
  run : ∀ (A : Around) (outer : List PySem.Env) (s : Shared) (H : Hp) (args : Args) (us : List Value) (vs : List V) (Q : VK) (E : XK) (p : Addr × Obj),
    L2H.RoomH k A → L2H.Hot1 A p → Zc (.ref cl) none p.2 → L2H.PinOk outer H s p → Env0 P w K mg base A outer s H →
    BindsTo s fd args (ps.zip us) → Vals vs us → sp p.1 vs H Q E → codeAny (model P w) A (.call (.ref f) args) (CR CX outer P w H s Q E) s
structure Glb (W : Wd) (G : Gt) (C : Calls) (k : Nat) (X : Cx) : Prop where
  hP : X.prog = W.P
  hw : X.w = W.w
  hK : X.K = W.K
  un : X.A.units + 200 < cLine
  room : X.calm = true → Room k X.A
  fn : ∀ id x, (id, x) ∈ G.fns → X.mg x = some (.ref (W.fa id)) ∧ PySem.W.keepIn X.K (.ref (W.fa id)) = true ∧ ∃ fd ps, Binds X.K fd ps [] ∧ (X.calm = true → FnOk X.prog X.w X.K X.mg X.base (L2N.CX X.prog X.w) k (W.fa id) fd ps (spEv W C id)) ∧ (id ∈ G.hots → ∀ cid y, (cid, y) ∈ G.cls → FnZ X.prog X.w X.K X.mg X.base (L2N.CX X.prog X.w) k (W.fa id) fd ps (fun a => spEv { W with hx := some (a, cid) } C id) (W.ca cid))
  con : ∀ x d, (x, d) ∈ G.cons → ∃ v u, X.mg x = some u ∧ RelV v u ∧ ∀ hid ι H, R (W.wh hid) ι H d v
  bi : ∀ x ∈ G.bis, X.mg x = none
  cls : ∀ id x, (id, x) ∈ G.cls → X.mg x = some (.ref (W.ca id)) ∧ PySem.W.keepIn X.K (.ref (W.ca id)) = true ∧ Raises X (.ref (W.ca id)) ∧ ∃ B newId initId bmB, ExcBaseFacts B newId initId bmB ∧ PySem.W.excIn X.K (W.ca id) bmB newId = true
  exc : ∀ id x, (id, x) ∈ G.cls → L2.ExcC X.K (W.ca id) ∧ PySem.W.kitOne X.K (.ref (W.ca id)) (.type "ValueError") = some true ∧ (∀ id' x', (id', x') ∈ G.cls → id' ≠ 0 → PySem.W.kitOne X.K (.ref (W.ca id)) (.ref (W.ca id')) = some (decide (id = id'))) ∧ (∀ x', (0, x') ∈ G.cls → PySem.W.exmOne X.K (.ref (W.ca id)) (.ref (W.ca 0)) = some true)
  calmx : X.calm = true → W.hx = none
  hx : ∀ a id, W.hx = some (a, id) → ∃ oe x, (a, oe) ∈ X.pn ∧ Zc (.ref (W.ca id)) none oe ∧ (∃ vs, oe.data = .fields vs) ∧ (id, x) ∈ G.cls

/-! ### the checker -/
def cstB : D → Const → Bool
  | .non, .none => true
  | .bl b, .bool c => b == c
  | .int i, .int j => decide (i = j)
  | .str x, .str y => decide (x = y)
  | _, _ => false
def plainName (x : Str) : Bool := !(x == ("__debug__" : Str)) && !(x == ("__classdict__" : Str)) && decide (x ≠ "__name__")
def Bop.b : Bop → Operator → Bool
  | .add, .Add => true
  | .sub, .Sub => true
  | .mul _, .Mult => true
  | .fdiv, .FloorDiv => true
  | .mod, .Mod => true
  | .pow, .Pow => true
  | _, _ => false
def Cop.b : Cop → CmpOp → Bool
  | .lt, .Lt => true
  | .le, .LtE => true
  | .gt, .Gt => true
  | .ge, .GtE => true
  | .eq, .Eq => true
  | .ne, .NotEq => true
  | .isin, .In => true
  | .notin, .NotIn => true
  | _, _ => false
def isSlice : Expr → Bool
  | .Slice .. => true
  | _ => false
def isSet : Expr → Bool
  | .Set .. => true
  | _ => false
theorem folded {e : Expr} {env : PySem.Env} (h : isSet e = false) : ∀ x, foldedSetIterable e env x = pure x := by
  intro x
  cases e <;> first | rfl | (simp [isSet] at h)
def plainTest : Expr → Bool
  | .UnaryOp .. => false
  | .BoolOp .. => false
  | .IfExp .. => false
  | .Compare .. => false
  | _ => true
def isCall0 : Expr → Bool
  | .Call _ [] _ _ => true
  | _ => false
def Bi.nm : Bi → Str
  | .len => "len"
  | .all => "all"
  | .any => "any"
  | .sum => "sum"
  | .min => "min"
  | .max => "max"
  | .sorted => "sorted"
  | .list _ => "list"
  | .tuple => "tuple"
  | .int => "int"
  | .str => "str"
  | .abs => "abs"
  | .dict => "dict"
  | .sset => "sorted"
  | .lset => "len"
  | .lrng _ => "list"
  | .trng => "tuple"
  | .setM => "set"
def Bi.plain : Bi → Bool
  | .len | .all | .any | .sum | .min | .max | .sorted | .list _ | .tuple | .int | .abs | .dict => true
  | _ => false
def Me.nm : Me → Str
  | .append => "append"
  | .extend => "extend"
  | .pop => "pop"
  | .popAt => "pop"
  | .count => "count"
  | .index => "index"
  | .tindex => "index"
  | .clear => "clear"
  | .setdef => "setdefault"
  | .join => "join"
  | .split => "split"
  | .strip => "strip"
  | .part => "partition"
  | .items => "items"
def Me.known : Me → Bool
  | .append | .extend | .pop | .popAt | .index | .clear | .count => true
  | _ => false
def Ty.nm : Ty → Str
  | .int => "int"
  | .bool => "bool"
  | .tuple => "tuple"
  | .list => "list"
  | .str => "str"
  | _ => ""
def Ty.plain : Ty → Bool
  | .int | .bool | .tuple | .list | .str => true
  | _ => false
def biB (G : Gt) (c : Ck) (x : Str) : Bool := glB c.sc x && decide (x ∈ G.bis) && plainName x
def ownsB (scope : Scope) (own : List (Str × Nat)) (t : Tg) : Bool := t.slots.all fun i => decide (i ∈ own.map (·.2))
def nest : Expr → Option (Str × Str × Expr)
  | .Call (.Name x _) [.Call (.Name y _) [a] [] _] [] _ => some (x, y, a)
  | _ => none
theorem nest_eq {e : Expr} {x y : Str} {a : Expr} (h : nest e = some (x, y, a)) : ∃ p1 p2 p3 p4, e = .Call (.Name x p1) [.Call (.Name y p2) [a] [] p3] [] p4 := by
  unfold nest at h
  split at h
  · cases h
    exact ⟨_, _, _, _, rfl⟩
  · cases h
def Bi.pair : Bi → Str → Str → Bool
  | .sset, x, y => decide (x = "sorted") && decide (y = "set")
  | .lrng _, x, y => decide (x = "list") && decide (y = "range")
  | .trng, x, y => decide (x = "tuple") && decide (y = "range")
  | _, _, _ => false
def nonPat : Bool → List CmpOp → List Expr → Bool
  | false, [.Is], [.Constant .none _ _] => true
  | true, [.IsNot], [.Constant .none _ _] => true
  | _, _, _ => false
theorem nonPat_eq {b : Bool} {ops : List CmpOp} {ys : List Expr} (h : nonPat b ops ys = true) : ∃ j p, ops = [if b then .IsNot else .Is] ∧ ys = [.Constant .none j p] := by
  unfold nonPat at h
  split at h
  · exact ⟨_, _, rfl, rfl⟩
  · exact ⟨_, _, rfl, rfl⟩
  · cases h
def isBoolOp : Expr → Bool
  | .BoolOp .. => true
  | _ => false
/-- a form whose truth is that of its value -/
def plainTr : Expr → Bool
  | .Call .. => true
  | .Subscript .. => true
  | .Dict .. => true
  | .Attribute .. => true
  | .Name .. => true
  | _ => false
mutual
def chkE (G : Gt) : Ck → E → Expr → Bool
  | c, .var i, .Name x _ => decide (c.N[i]? = some x) && visB c.sc x && plainName x
  | _, .con d, .Constant k _ _ => cstB d k
  | c, .glo x d, .Name y _ => decide (x = y) && glB c.sc x && (G.cons.any fun p => decide (p.1 = x) && p.2.beq d) && plainName x
  | c, .tup es, .Tuple xs _ _ => chkL G c es xs
  | c, .lst _ es, .List xs _ => chkL G c es xs
  | c, .bin o a b, .BinOp x op y _ => o.b op && chkE G c a x && chkE G c b y
  | c, .neg a, .UnaryOp .USub x _ => chkE G c a x
  | c, .not a, .UnaryOp .Not x _ => chkE G c a x
  | c, .and a b, .BoolOp .And (x :: y :: r) p => chkE G c a x && chkE G c b (match r with
    | [] => y
    | z :: r => .BoolOp .And (y :: z :: r) p)
  | c, .or a b, .BoolOp .Or (x :: y :: r) p => chkE G c a x && chkE G c b (match r with
    | [] => y
    | z :: r => .BoolOp .Or (y :: z :: r) p)
  | c, .orV a b, .BoolOp .Or [x, y] _ => chkE G c a x && chkE G c b y && plainTest x
  | c, .cmp o a b, .Compare x [op] [y] _ => o.b op && chkE G c a x && chkE G c b y && !behindInMarks op y
  | c, .chain o p a b d, .Compare x [op, op2] [y, z] _ => o.b op && p.b op2 && chkE G c a x && chkE G c b y && chkE G c d z && !behindInMarks op y && !behindInMarks op2 z
  | c, .chn o p q a b d f, .Compare x [op, op2, op3] [y, z, w] _ => o.b op && p.b op2 && q.b op3 && chkE G c a x && chkE G c b y && chkE G c d z && chkE G c f w && !behindInMarks op3 w
  | c, .isN a, .Compare x ops ys _ => nonPat false ops ys && chkE G c a x
  | c, .notN a, .Compare x ops ys _ => nonPat true ops ys && chkE G c a x
  | c, .ite t a b, .IfExp x y z _ => chkE G c t x && chkE G c a y && chkE G c b z
  | c, .call f es, .Call (.Name x _) (a :: as) [] _ => !c.hot && glB c.sc x && decide ((f, x) ∈ G.fns) && plainName x && chkL G c es (a :: as)
  | c, .bi2 b m, e => (match nest e with
    | some (x, y, a) => !c.hot && b.pair x y && biB G c x && biB G c y && chkE G c m a && !isStar a
    | none => false)
  | c, .bi b es, .Call (.Name x _) (a :: as) [] _ => !c.hot && b.plain && decide (x = b.nm) && biB G c x && chkL G c es (a :: as)
  | c, .isi t e, .Call (.Name x _) [a, .Name y _] [] _ => decide (x = "isinstance") && biB G c x && chkE G c e a && !isStar a && (match t with
    | .exc id => decide (id ≠ 0) && glB c.sc y && decide ((id, y) ∈ G.cls) && plainName y
    | .valerr => decide (y = "ValueError") && biB G c y
    | t => t.plain && decide (y = t.nm) && biB G c y)
  | c, .fnv f, .Name x _ => !c.hot && glB c.sc x && decide ((f, x) ∈ G.fns) && plainName x
  | c, .callV fs f es, .Call (.Subscript x y p) (a :: as) [] _ => !c.hot && (fs.all fun n => G.fns.any fun q => q.1 == n) && chkE G c f (.Subscript x y p) && chkL G c es (a :: as)
  | c, .me m o es, .Call (.Attribute x nm ap) as [] cp => m.known && decide (nm = m.nm) && chkE G c o x && !isCall0 x && chkL G c es as && (ap.endLine == cp.line) && decide (as.length < 20)
  | c, .idx a i, .Subscript x y _ => chkE G c a x && chkE G c i y && !isSlice y
  | c, .sl a lo hi, .Subscript x (.Slice l u none _) _ => chkE G c a x && chkO G c lo l && chkO G c hi u
  | c, .lc _ own t it cc e, .ListComp elt [⟨tg, iter, ifs, as⟩] scope _ => !c.hot && decide (as = 0) && chkW G c it iter tg &&
      (let pairs : List (Str × Nat) := own.map fun i => ((c.N[i]?).getD ("" : Str), i)
       let c' : Ck := ⟨c.N, relS scope c.sc, fun x => scope.names.lookup x == some .cell, c.hot⟩
       blkC c.N c.sc scope pairs && (t.slots.all fun i => decide (i ∈ own)) && chkT c' t tg && chkC G c' cc ifs && chkE G c' e elt)
  | _, .dic, .Dict [] [] _ => true
  | _, .nev, e => !isBoolOp e && plainTr e
  | _, _, _ => false
def chkL (G : Gt) : Ck → E → List Expr → Bool
  | _, .nil, [] => true
  | c, .cons e es, x :: xs => !isStar x && chkE G c e x && chkL G c es xs
  | _, _, _ => false
def chkO (G : Gt) : Ck → E → Option Expr → Bool
  | _, .nil, none => true
  | c, .cons e .nil, some x => chkE G c e x
  | _, _, _ => false
def chkC (G : Gt) : Ck → E → List Expr → Bool
  | _, .nil, [] => true
  | c, .cons e .nil, [x] => chkE G c e x
  | _, _, _ => false
def chkW (G : Gt) : Ck → E → Expr → Expr → Bool
  | c, .rng a, .Call (.Name x _) [y] [] _, _ => decide (x = "range") && biB G c x && chkE G c a y && !isStar y
  | c, .rng2 a b, .Call (.Name x _) [y, z] [] _, _ => decide (x = "range") && biB G c x && chkE G c a y && chkE G c b z && !isStar y && !isStar z
  | c, .enu a, .Call (.Name x _) [y] [] _, .Tuple _ _ _ => decide (x = "enumerate") && biB G c x && chkE G c a y && !isStar y
  | c, .zip a b, .Call (.Name x _) [y, z] [] _, .Tuple _ _ _ => decide (x = "zip") && biB G c x && chkE G c a y && chkE G c b z && !isStar y && !isStar z
  | c, .cons a .nil, x, _ => chkE G c a x && !isSet x
  | _, _, _, _ => false
end
end Mn

set_option Elab.async false
set_option linter.all false
set_option maxRecDepth 100000
set_option maxHeartbeats 4000000
/-! Snd11: comprehensions. -/
namespace Mn
open PySem PySem.Spec PyProof.Rows L2

theorem wh_hide (W : Wd) (h : List Addr) (p : Addr) : (W.wh h).hide p = W.wh (p :: h) := rfl
section
variable {W : Wd} {ι : List Addr} {H : Hp} {st : Store} {p : Addr}
theorem ObR.hide {o : Ob} {a : Addr} (hp : H p = none) (h : ObR W ι H o a) : ObR (W.hide p) ι H o a := by
  cases o with
  | lst xs => obtain ⟨vs, h1, r⟩ := h; exact ⟨vs, h1, r.hide hp⟩
  | dct kvs =>
    obtain ⟨o, es, ep, xs, h1, h2, h3, h4, h5, h6, h7⟩ := h
    exact ⟨o, es, ep, xs, h1, h2, h3, h4, h5, h6, Paired.impP h7 fun p q ⟨k1, k2, k3, v, k4, k5⟩ => ⟨k1, k2, k3.hide hp, v, k4.hide hp, k5⟩⟩
  | ins c fs => exact h.elim
theorem ObR.updH {o : Ob} {a : Addr} {u : HO} (ha : a ≠ p) (h : ObR (W.hide p) ι H o a) : ObR (W.hide p) ι (upd H p u) o a := by
  cases o with
  | lst xs => obtain ⟨vs, h1, r⟩ := h; exact ⟨vs, by rw [upd_ne ha]; exact h1, r.updH⟩
  | dct kvs =>
    obtain ⟨o, es, ep, xs, h1, h2, h3, h4, h5, h6, h7⟩ := h
    exact ⟨o, es, ep, xs, by rw [upd_ne ha]; exact h1, h2, h3, h4, h5, h6, Paired.impP h7 fun p q ⟨k1, k2, k3, v, k4, k5⟩ => ⟨k1, k2, k3.updH, v, k4.updH, k5⟩⟩
  | ins c fs => exact h.elim
theorem ObR.show (m : Bool) {o : Ob} {a : Addr} (h : ObR (W.hide p) ι H o a) : ObR W (if m then ι ++ [p] else ι) H o a := by
  cases o with
  | lst xs => obtain ⟨vs, h1, r⟩ := h; exact ⟨vs, h1, r.show m⟩
  | dct kvs =>
    obtain ⟨o, es, ep, xs, h1, h2, h3, h4, h5, h6, h7⟩ := h
    exact ⟨o, es, ep, xs, h1, h2, h3, h4, h5, h6, Paired.impP h7 fun p q ⟨k1, k2, k3, v, k4, k5⟩ => ⟨k1, k2, k3.show m, v, k4.show m, k5⟩⟩
  | ins c fs => exact h.elim
/-- a new object, hidden -/
theorem Sim.hideNew (s : Sim W ι st H) (hp : H p = none) (o : HO) : Sim (W.hide p) ι st (L2.upd H p o) := by
  have fr := s.fresh hp
  refine ⟨s.len, s.nd, fun n a ob h1 h2 => ((s.ob n a ob h1 h2).hide hp).updH fun z => fr.1 (by rw [← z]; exact List.mem_of_getElem? h1), fun a ha => ?_⟩
  rcases List.mem_cons.mp ha with z | z
  · rw [z]; exact ⟨fr.1, o, upd_same⟩
  · obtain ⟨h1, u, h2⟩ := s.hid a z
    exact ⟨h1, u, by rw [upd_ne (ne_of_none h2 hp)]; exact h2⟩
/-- the hidden one changes -/
theorem Sim.updH (s : Sim (W.hide p) ι st H) (o : HO) : Sim (W.hide p) ι st (L2.upd H p o) := by
  have fr := (s.hid p List.mem_cons_self).1
  refine ⟨s.len, s.nd, fun n a ob h1 h2 => (s.ob n a ob h1 h2).updH fun z => fr (by rw [← z]; exact List.mem_of_getElem? h1), fun a ha => ?_⟩
  obtain ⟨h1, u, h2⟩ := s.hid a ha
  by_cases hap : a = p
  · rw [hap]; exact ⟨fr, o, upd_same⟩
  · exact ⟨h1, u, by rw [upd_ne hap]; exact h2⟩
theorem Sim.unhide (s : Sim (W.hide p) ι st H) : Sim W ι st H := ⟨s.len, s.nd, fun n a ob h1 h2 => (s.ob n a ob h1 h2).show false, fun a ha => s.hid a (List.mem_cons_of_mem _ ha)⟩
theorem Sim.showL (s : Sim (W.hide p) ι st H) (hp : p ∉ W.hid) {xs : List D} {vs : List V} (h : H p = some (.lst vs)) (r : RL (W.hide p) ι H xs vs) : Sim W (ι ++ [p]) (st ++ [.lst xs]) H := by
  have fr := (s.hid p List.mem_cons_self).1
  refine ⟨by simp [s.len], ?_, fun n a o' h1 h2 => ?_, fun a ha => ?_⟩
  · rw [List.nodup_append]
    exact ⟨s.nd, by simp, fun a ha b hb => by
      have : b = p := by simpa using hb
      subst this
      intro e; subst e; exact fr ha⟩
  · by_cases hn : n < ι.length
    · rw [List.getElem?_append_left hn] at h1
      rw [List.getElem?_append_left (by rw [← s.len]; exact hn)] at h2
      exact (s.ob n a o' h1 h2).show true
    · rw [List.getElem?_append_right (by omega)] at h1
      rw [List.getElem?_append_right (by rw [← s.len]; omega)] at h2
      have e0 : n - ι.length = 0 := by
        rcases Nat.eq_zero_or_pos (n - ι.length) with z | z
        · exact z
        · rw [List.getElem?_eq_none (by simp; omega)] at h1; cases h1
      rw [e0] at h1
      rw [← s.len, e0] at h2
      simp at h1 h2
      subst h1; subst h2
      exact ⟨vs, h, r.show true⟩
  · obtain ⟨h1, u, h2⟩ := s.hid a (List.mem_cons_of_mem _ ha)
    refine ⟨fun m => ?_, u, h2⟩
    rcases List.mem_append.mp m with z | z
    · exact h1 z
    · exact hp (by rw [← show a = p by simpa using z]; exact ha)
theorem SimE.hide {σ : L2.St} {env : En} (hp : H p = none) (s : SimE W ι H σ env) : SimE (W.hide p) ι H σ env := ⟨s.len, fun i d e => let ⟨v, h1, h2⟩ := s.get i d e; ⟨v, h1, h2.hide hp⟩⟩
theorem SimE.updH {σ : L2.St} {env : En} {o : HO} (s : SimE (W.hide p) ι H σ env) : SimE (W.hide p) ι (upd H p o) σ env := ⟨s.len, fun i d e => let ⟨v, h1, h2⟩ := s.get i d e; ⟨v, h1, h2.updH⟩⟩
end
theorem Ext.hidden {ι0 ι : List Addr} {H0 H : Hp} {p : Addr} {o : HO} (x : Ext ι0 H0 ι H) (hp : H0 p = none) : Ext ι0 H0 ι (L2.upd H p o) :=
  ⟨x.pre, fun a u h n => by rw [upd_ne (ne_of_none h hp)]; exact x.keep a u h n, x.new⟩

theorem wipe_get {σ : L2.St} {i : Nat} : ∀ {vs : List Nat}, i ∉ vs → (wipe σ vs)[i]? = σ[i]?
  | [], _ => rfl
  | v :: vs, h => by
    unfold wipe
    rw [List.getElem?_set_ne fun z => h (by rw [z]; exact List.mem_cons_self)]
    exact wipe_get fun z => h (List.mem_cons_of_mem _ z)
mutual
theorem asgT_len : ∀ {t : Tg} {d : D} {env env' : En}, asgT t d env = some env' → env'.length = env.length
  | .name i, d, env, env', h => by
    simp only [asgT] at h
    split at h
    · cases h; simp
    · cases h
  | .tup ts, d, env, env', h => by
    cases d with
    | tup ds => exact asgTs_len' (t := ts) (by simpa [asgT] using h)
    | lst ds => exact asgTs_len' (t := ts) (by simpa [asgT] using h)
    | _ => simp [asgT] at h
  | .nil, d, env, env', h => by simp [asgT] at h
  | .cons _ _, d, env, env', h => by simp [asgT] at h
theorem asgTs_len' : ∀ {t : Tg} {ds : List D} {env env' : En}, asgTs t ds env = some env' → env'.length = env.length
  | .nil, ds, env, env', h => by
    cases ds with
    | nil => simp [asgTs] at h; rw [h]
    | cons _ _ => simp [asgTs] at h
  | .cons t ts, ds, env, env', h => by
    cases ds with
    | nil => simp [asgTs] at h
    | cons d ds =>
      simp only [asgTs] at h
      cases ha : asgT t d env with
      | none => rw [ha] at h; cases h
      | some env1 =>
        rw [ha] at h
        rw [asgTs_len' (t := ts) (show asgTs ts ds env1 = some env' from h), asgT_len ha]
  | .name _, ds, env, env', h => by cases ds <;> simp [asgTs] at h
  | .tup _, ds, env, env', h => by cases ds <;> simp [asgTs] at h
end
theorem lcLoop_len {src : List (Nat × List D)} {body : D → Store → Res (Option D)} : ∀ {xs acc : List D} {st st' : Store} {ds : List D}, lcLoop src body xs acc st = .ok ds st' → acc.length ≤ ds.length
  | [], acc, st, st', ds, h => by
    simp only [lcLoop] at h
    split at h
    · cases h; simp
    · cases h
  | x :: xs, acc, st, st', ds, h => by
    simp only [lcLoop] at h
    split at h
    · split at h
      · have := lcLoop_len h
        rw [List.length_cons] at this
        omega
      · exact lcLoop_len h
      · cases h
    · cases h
theorem lcLoop_noexc {src : List (Nat × List D)} {body : D → Store → Res (Option D)} : ∀ {xs acc : List D} {st st' : Store} {c : Nat}, lcLoop src body xs acc st = .exc c st' → False
  | [], acc, st, st', c, h => by
    simp only [lcLoop] at h
    split at h <;> cases h
  | x :: xs, acc, st, st', c, h => by
    simp only [lcLoop] at h
    split at h
    · split at h
      · exact lcLoop_noexc h
      · exact lcLoop_noexc h
      · cases h
    · cases h
theorem lc_len {W : Wd} {E : Nat → Hp → Prop} {ι : List Addr} {H : Hp} {Q : VK} {m : Bool} {src : List (Nat × List D)} {body : D → Store → Res (Option D)} {xs acc : List D} {st : Store}
    (p : PostG W (R W) E ι H Q ((lcLoop src body xs acc st).bind fun ds st5 => prim (newL m ds st5))) : acc.length ≤ maxLen := by
  cases h : lcLoop src body xs acc st with
  | err => rw [h] at p; exact p.elim
  | exc c st' => exact (lcLoop_noexc h).elim
  | ok ds st' =>
    rw [h] at p
    have l := lcLoop_len h
    have p2 := PostG.prim (r := newL m ds st') p
    unfold newL at p2
    split at p2
    · omega
    · exact p2.elim
/-- one turn's work of a comprehension -/
def lcBody (C : Calls) (own : List Nat) (t : Tg) (c e : E) (env : En) : D → Store → Res (Option D) := fun x st2 => match asgT t x (wipeE env own) with
  | none => .err
  | some env' => (evt C c env' st2).bind fun k st3 => if k then (ev C e env' st3).bind fun d st4 => .ok (some d) st4 else .ok none st3
def tEt (W : Wd) (C : Calls) (Wx : WX) (m : E) : TT := fun σ H Q => ∃ hid env st ι, Sim (W.wh hid) ι st H ∧ SimE (W.wh hid) ι H σ env ∧ PostG (W.wh hid) EqR (XW W Wx σ) ι H Q (evt C m env st)
abbrev noX : WX := fun _ _ _ _ => False
theorem lc_ok {W : Wd} {C : Calls} {Wx : WX} {m : Bool} {own : List Nat} {t : Tg} {it c e : E} (hsl : ∀ i ∈ t.slots, i ∈ own) (σ : L2.St) (H : Hp) (Q : VK) (h : tEv W C Wx (.lc m own t it c e) σ H Q) :
    tLc (iEv W C Wx it) (gEv W t) (tEt W C noX c) (tEv W C noX e) own σ H Q := by
  obtain ⟨hid, env, st, ι, S, SE, post⟩ := h
  have post : PostG (W.wh hid) (R (W.wh hid)) (XW W Wx σ) ι H Q ((evw C it env st).bind fun w st1 => (lcLoop w.src (lcBody C own t c e env) w.items [] st1).bind fun ds st5 => prim (newL m ds st5)) := by
    simp only [ev] at post
    exact post
  refine ⟨hid, env, st, ι, S, SE, post.bind.imp fun J H1 ⟨w, ι1, st1, X1, S1, wok, p1⟩ => ?_⟩
  intro Dd hD
  have nh : Dd ∉ hid := (S1.fresh hD).2
  have hx : HidX (W.wh hid) (Dd :: hid) H1 := fun p hp => by
    rcases List.mem_cons.mp hp with z | z
    · rw [z]; exact .inr hD
    · exact .inl z
  have SE1 := ((SE.mono X1).wipe own).hide hD
  -- the state between two turns
  let Inv' : Nat → Hp → Prop := fun i Hc => ∃ ι2 st2 acc vs, i ≤ w.items.length ∧ Ext ι1 H1 ι2 Hc ∧ Sim (W.wh (Dd :: hid)) ι2 st2 Hc ∧ Hc Dd = some (.lst vs) ∧ RL (W.wh (Dd :: hid)) ι2 Hc acc.reverse vs ∧
    PostG (W.wh hid) (R (W.wh hid)) (XW W Wx σ) ι1 H1 Q ((lcLoop w.src (lcBody C own t c e env) (w.items.drop i) acc st2).bind fun ds st5 => prim (newL m ds st5))
  refine ⟨fun i n Hc => n = w.items.length - i ∧ Inv' i Hc, ⟨_, rfl, ι1, st1, [], [], Nat.zero_le _, Ext.upd S1 hD, S1.hideNew hD _, upd_same, .nil, p1⟩, ?_⟩
  rintro i n Hc ⟨rfl, ι2, st2, acc, vs, hi, X2, S2, hDc, rl, p2⟩
  have SE2 : SimE (W.wh (Dd :: hid)) ι2 Hc (wipe σ own) (wipeE env own) := by
    refine ⟨SE1.len, fun j d ej => ?_⟩
    obtain ⟨v, h1, h2⟩ := SE1.get j d ej
    have xx : Ext ι1 (upd H1 Dd (.lst vs)) ι2 Hc := ⟨X2.pre, fun a o ha n => by
      by_cases hz : a = Dd
      · rw [hz, upd_same] at ha; cases ha; rw [hz]; exact hDc
      · rw [upd_ne hz] at ha; exact X2.keep a o ha n, fun a ha => by
      rcases X2.new a ha with z | z
      · exact .inl z
      · refine .inr ?_
        by_cases hz : a = Dd
        · exact absurd ha (by rw [hz]; exact (S2.hid Dd List.mem_cons_self).1)
        · rw [upd_ne hz]; exact z⟩
    exact ⟨v, h1, (R.updH (o := .lst vs) h2).mono xx⟩
  by_cases hs : still st2 w.src = true
  · by_cases hlt : i < w.items.length
    · -- a turn
      have ed : w.items.drop i = w.items[i] :: w.items.drop (i + 1) := List.drop_eq_getElem_cons hlt
      have p3 := p2
      rw [ed] at p3
      simp only [lcLoop, hs, if_true] at p3
      refine .inr ⟨wok.go i _ ι2 Hc st2 hx X2 S2 hs hlt, Inv' (i + 1), fun H' q => ⟨w.items.length - (i + 1), by omega, rfl, q⟩, fun x H' hy => ?_⟩
      obtain ⟨X3, S3, rx⟩ := wok.yld i _ ι2 Hc st2 _ x H' hx X2 S2 hs (List.getElem?_eq_getElem hlt) hy
      have hD3 : H' Dd = some (.lst vs) := X3.keep _ _ hDc (S2.hid Dd List.mem_cons_self).1
      have rl3 := rl.mono X3
      have X23 := X2.trans X3
      cases ha : asgT t w.items[i] (wipeE env own) with
      | none =>
        simp only [lcBody, ha] at p3
        exact p3.elim
      | some env' =>
        have eb : lcBody C own t c e env w.items[i] st2 = (evt C c env' st2).bind fun k st3 => if k then (ev C e env' st3).bind fun d st4 => .ok (some d) st4 else .ok none st3 := by
          simp only [lcBody, ha]
        rw [eb] at p3
        refine ⟨Dd :: hid, _, _, st2, ι2, S3, SE2.mono X3, rx, env', ha, fun σ2 E2 hsame => ?_⟩
        refine ⟨wipe_eq (by rw [← E2.len, asgT_len ha, (SE2.mono X3).len, wipe_length]) (fun j hj => ?_), ?_⟩
        · have hjs : j ∉ t.slots := fun z => hj (hsl j z)
          rw [hsame j hjs, wipe_get hj]
        · cases hk : evt C c env' st2 with
          | err => rw [hk] at p3; exact p3.elim
          | exc cc st3 => rw [hk] at p3; exact p3.elim
          | ok k st3 =>
            rw [hk] at p3
            refine ⟨Dd :: hid, env', st2, ι2, S3, E2, ?_⟩
            rw [hk]
            intro ι4 H4 b X4 S4 ekb
            have ekb : k = b := ekb
            subst ekb
            have hD4 : H4 Dd = some (.lst vs) := X4.keep _ _ hD3 (S2.hid Dd List.mem_cons_self).1
            cases k with
            | false =>
              refine iteF ?_
              exact ⟨ι4, st3, acc, vs, hlt, X23.trans X4, S4, hD4, rl3.mono X4, p3⟩
            | true =>
              refine iteT ?_
              refine ⟨Dd :: hid, env', st3, ι4, S4, E2.mono X4, ?_⟩
              simp only [Res.bind, if_true] at p3
              cases he : ev C e env' st3 with
              | err => rw [he] at p3; exact p3.elim
              | exc cc st4 => rw [he] at p3; exact p3.elim
              | ok d st4 =>
                rw [he] at p3
                intro ι5 H5 y X5 S5 ry
                have nD5 := (S4.hid Dd List.mem_cons_self).1
                have hD5 : H5 Dd = some (.lst vs) := X5.keep _ _ hD4 nD5
                have rl5 := (rl3.mono X4).mono X5
                refine ⟨vs, hD5, ?_, ι5, st4, d :: acc, vs ++ [y], hlt, ((X23.trans X4).trans X5).hidden hD, Sim.updH (W := W.wh hid) (p := Dd) S5 _, upd_same, ?_, p3⟩
                · have := lc_len p3
                  rw [List.length_cons] at this
                  rw [← rl5.length, List.length_reverse, ← maxLen_eq]
                  omega
                · rw [List.reverse_cons]
                  exact (RL.updH (W := W.wh hid) (p := Dd) rl5).append (.cons (R.updH (W := W.wh hid) (p := Dd) ry) .nil)
    · -- the end
      have ei : i = w.items.length := by omega
      subst ei
      rw [List.drop_length] at p2
      simp only [lcLoop, hs, if_true, Res.bind] at p2
      refine .inl ⟨wok.stop _ _ ι2 Hc st2 hx X2 S2 hs rfl, ?_⟩
      have p3 := PostG.prim p2
      unfold newL at p3
      split at p3
      · cases m with
        | false => exact p3 ι2 Hc _ X2 (Sim.unhide (W := W.wh hid) (p := Dd) S2) (.lst (.inl hDc) ⟨(S2.hid Dd List.mem_cons_self).1, nh⟩ (RL.show (W := W.wh hid) (p := Dd) false rl))
        | true =>
          have len : ι2.length = st2.length := S2.len
          refine p3 (ι2 ++ [Dd]) Hc _ ⟨?_, X2.keep, fun a ha => ?_⟩ (Sim.showL (W := W.wh hid) (p := Dd) S2 nh hDc rl) (.ob ?_)
          · obtain ⟨r, e⟩ := X2.pre
            exact ⟨r ++ [Dd], by rw [e, List.append_assoc]⟩
          · rcases List.mem_append.mp ha with z | z
            · exact X2.new a z
            · rw [show a = Dd by simpa using z]; exact .inr hD
          · rw [List.getElem?_append_right (by rw [len]; exact Nat.le_refl _), len]
            simp
      · exact p3.elim
  · -- it does not stand still
    exfalso
    cases hd : w.items.drop i with
    | nil => rw [hd] at p2; simp only [lcLoop, hs] at p2; exact p2.elim
    | cons y r => rw [hd] at p2; simp only [lcLoop, hs] at p2; exact p2.elim
end Mn

set_option Elab.async false
set_option linter.all false
set_option maxRecDepth 100000
set_option maxHeartbeats 4000000
/-! Snd12: helpers for the induction over expressions. -/
namespace Mn
open PySem PySem.Spec PyProof.Rows L2

section
variable {X : Cx}
theorem OpR.ex {f : Value → Value → Sem Value} {r : List Addr → R2} (h : ∀ hid, OpR X f (r hid)) : OpR X f (fun x y H Q => ∃ hid, r hid x y H Q) := fun pins s σ H x y v u Q I rx ry ⟨hid, q⟩ => h hid pins s σ H x y v u Q I rx ry q
theorem IxR.ex {r : List Addr → R2} (h : ∀ hid, IxR X (r hid)) : IxR X (fun x y H Q => ∃ hid, r hid x y H Q) := fun a b pins s σ H x y v u Q I rx ry ⟨hid, q⟩ hs => h hid a b pins s σ H x y v u Q I rx ry q hs
theorem SlR.ex {r : List Addr → V → Option Int → Option Int → Hp → VK → Prop} (h : ∀ hid, SlR X (r hid)) : SlR X (fun x lo hi H Q => ∃ hid, r hid x lo hi H Q) := fun pins s σ H x v vl vu lo hi sl Q I rx hs pl pu ⟨hid, q⟩ => h hid pins s σ H x v vl vu lo hi sl Q I rx hs pl pu q
theorem CallR.ex {f : Value} {r : List Addr → List V → Hp → VK → Prop} (h : ∀ hid, CallR X f (r hid)) : CallR X f (fun xs H Q => ∃ hid, r hid xs H Q) := fun pins s σ H xs us Q I r ⟨hid, q⟩ => h hid pins s σ H xs us Q I r q
theorem MtR.ex {id : String} {r : List Addr → V → List V → Hp → VK → Prop} (h : ∀ hid, MtR X id (r hid)) : MtR X id (fun x xs H Q => ∃ hid, r hid x xs H Q) := fun pins s σ H x xs v us Q I rx r ⟨hid, q⟩ => h hid pins s σ H x xs v us Q I rx r q
theorem PSet.ex {r : List Addr → TSet} (h : ∀ hid, PSet X (r hid)) : PSet X (fun o i v H Q => ∃ hid, r hid o i v H Q) := fun pins s σ H o i v ov iv u Q I r1 r2 r3 ⟨hid, q⟩ => h hid pins s σ H o i v ov iv u Q I r1 r2 r3 q
end
theorem Bop.b_eq {o : Bop} {op : Operator} (h : o.b op = true) : op = o.op := by
  cases o <;> cases op <;> first | rfl | (simp [Bop.b] at h)
theorem Cop.b_eq {o : Cop} {op : CmpOp} (h : o.b op = true) : op = o.op := by
  cases o <;> cases op <;> first | rfl | (simp [Cop.b] at h)
theorem plainName_ok {x : Str} (h : plainName x = true) : (x == ("__debug__" : Str)) = false ∧ (x == ("__classdict__" : Str)) = false ∧ x ≠ "__name__" := by
  simp only [plainName, Bool.and_eq_true, Bool.not_eq_true', decide_eq_true_eq] at h
  exact ⟨h.1.1, h.1.2, h.2⟩
theorem PostR.ext {W : Wd} {ι ι1 : List Addr} {H H1 : Hp} {Q : VK} {r : Res D} (p : PostR W ι H Q r) (x : Ext ι H ι1 H1) : PostR W ι1 H1 Q r := by
  cases r with
  | ok a st => exact fun ι' H' b x' s ra => p ι' H' b (x.trans x') s ra
  | exc c st => exact p
  | err => exact p
theorem PostG.boolR {α β : Type} {W : Wd} {RB : List Addr → Hp → α → β → Prop} {E : Nat → Hp → Prop} {ι : List Addr} {H : Hp} {Q : β → Hp → Prop} {r : Res D} {f : Bool → Store → Res α} (p : PostG W RB E ι H Q ((Mn.boolR r).bind f)) :
    PostG W (R W) E ι H (fun x H1 => ∃ b ι1 st1, x = .bl b ∧ Ext ι H ι1 H1 ∧ Sim W ι1 st1 H1 ∧ PostG W RB E ι1 H1 Q (f b st1)) r := by
  cases r with
  | ok a st =>
    intro ι' H' v x s ra
    cases ra with
    | bl b => exact ⟨b, ι', st, rfl, x, s, PostG.ext p x⟩
    | _ => exact p.elim
  | exc c st => exact p
  | err => exact p
theorem PostG.boolE {W : Wd} {E : Nat → Hp → Prop} {ι : List Addr} {H : Hp} {Q : Bool → Hp → Prop} {r : Res D} (p : PostG W EqR E ι H Q (Mn.boolR r)) :
    PostG W (R W) E ι H (fun x H1 => ∃ b, x = .bl b ∧ Q b H1) r := by
  cases r with
  | ok a st =>
    intro ι' H' v x s ra
    cases ra with
    | bl b => exact ⟨b, rfl, p ι' H' b x s rfl⟩
    | _ => exact p.elim
  | exc c st => exact p
  | err => exact p
/-- isinstance of plain things -/
def tyS : Ty → String
  | .bool => "bool"
  | .int => "int"
  | .str => "str"
  | .tuple => "tuple"
  | .list => "list"
  | _ => "NoneType"
theorem kind_tyx {W : Wd} {K : PySem.W.Frag} {ι : List Addr} {H : Hp} {st : Store} {d : D} {x : V} {k : Ty} (r : R W ι H d x) (S : Sim W ι st H) (e : kindOf st d = some k) : TyX K H x (.type (tyS k)) := by
  have rd : ∀ {a : Addr} {vs : List V}, Rd H a (.lst vs) → TyX K H (.ref a) (.type "list") := fun {a vs} h => by
    rcases h with h | ⟨o, h⟩
    · exact .base (.lst h)
    · exact .base (.frz h)
  cases r with
  | non => cases e; exact .base .non
  | bl b => cases e; exact .base (.bl b)
  | int i => cases e; exact .base (.int i)
  | str z => cases e; exact .base (.str z)
  | tup h1 h2 h3 => cases e; exact (let ⟨o, e, _⟩ := h1; .fTuple e)
  | lst h1 h2 h3 => cases e; exact rd h1
  | ob hn =>
    rename_i n a
    simp only [kindOf] at e
    split at e
    · rename_i xs ho
      cases e
      obtain ⟨a', vs, e1, h1, _⟩ := R.asL (W := W) (H := H) (.ob hn) S (show asL st (.ob n) = some xs from ho)
      cases e1
      exact rd h1
    · cases e
  | fn n => cases e
  | ex h => cases e
  | scr h => cases e
theorem isK_kit {K : PySem.W.Frag} {t k : Ty} {b : Bool} (hp : t.plain = true) (e : isK t k = some b) : PySem.W.kitOne K (.type (tyS k)) (.type (tyS t)) = some b := by
  cases t <;> first | (cases hp; done) | (cases k <;> first | (cases e; done) | (cases e; exact kit_ty (by decide +kernel)))
theorem boot_ty {t : Ty} (hp : t.plain = true) : bootBuiltins t.nm = some (.type (tyS t)) := by
  cases t <;> first | (cases hp; done) | (show bootBuiltins _ = _; decide +kernel)

/-! ### set(t), t a tuple of ints -/
theorem cr_setTup {X : Cx} (hc : X.calm = true) : CallR X (.type "set") (fun xs H Q => ∃ (a : Addr) (ns : List Int), xs = [.ref a] ∧ SqT X.K H a (ns.map V.int) ∧ ns.length + 1 < scanBound ∧
    ∀ p c, H p = none → c ≤ ns.length → Q (.ref p) (upd H p (SetO X.w p (fun j => decide (j ∈ ns)) c))) := by
  intro pins s σ H xs us Q I r h
  obtain ⟨a, ns, rfl, hq, hb, q⟩ := h
  obtain ⟨its, rv, pl, hz⟩ := I.tuple hq
  rw [Vals.ref1 r]
  refine call_set_tupI ns (I.ok.hd hc) (show s.heap.IsTuple a its.toArray from pl) (by simpa using rv.ints) hb fun h' tk c R hle hk => ?_
  exact ⟨.ref _, upd H s.heap.objs.size (SetO X.w s.heap.objs.size (fun j => decide (j ∈ ns)) c), I.laid (t' := tk) hk (Nat.le_refl _) (setO_new R), rfl, q _ c (I.hok.fresh (Nat.le_refl _)) hle⟩
theorem insU_mem (x : Int) : ∀ l : List Int, ∀ y, y ∈ insU x l ↔ y = x ∨ y ∈ l
  | [], y => by simp [insU]
  | z :: zs, y => by
    unfold insU
    split
    · simp
    · split
      · rename_i h1 h2
        subst h2
        simp
      · simp [insU_mem x zs y]
        constructor
        · rintro (h | h | h) <;> simp [h]
        · rintro (h | h | h) <;> simp [h]
theorem insU_sorted (x : Int) : ∀ l : List Int, l.Pairwise (· < ·) → (insU x l).Pairwise (· < ·)
  | [], _ => by simp [insU]
  | z :: zs, h => by
    obtain ⟨h1, h2⟩ := List.pairwise_cons.mp h
    unfold insU
    split
    · rename_i hx
      refine List.pairwise_cons.mpr ⟨fun y hy => ?_, h⟩
      rcases List.mem_cons.mp hy with rfl | hy
      · exact hx
      · have := h1 y hy; omega
    · split
      · exact h
      · rename_i h3 h4
        refine List.pairwise_cons.mpr ⟨fun y hy => ?_, insU_sorted x zs h2⟩
        rcases (insU_mem x zs y).mp hy with rfl | hy
        · omega
        · exact h1 y hy
theorem sortU_sorted : ∀ l : List Int, (sortU l).Pairwise (· < ·)
  | [] => by simp [sortU]
  | x :: xs => insU_sorted x _ (sortU_sorted xs)
theorem sortU_mem : ∀ (l : List Int) (y : Int), y ∈ sortU l ↔ y ∈ l
  | [], y => by simp [sortU]
  | x :: xs, y => by simp [sortU, insU_mem, sortU_mem xs y]
theorem sorted_unique : ∀ {a b : List Int}, a.Pairwise (· < ·) → b.Pairwise (· < ·) → (∀ k, k ∈ a ↔ k ∈ b) → a = b
  | [], [], _, _, _ => rfl
  | [], y :: ys, _, _, h => by have := (h y).mpr (by simp); simp at this
  | x :: xs, [], _, _, h => by have := (h x).mp (by simp); simp at this
  | x :: xs, y :: ys, ha, hb, h => by
    obtain ⟨a1, a2⟩ := List.pairwise_cons.mp ha
    obtain ⟨b1, b2⟩ := List.pairwise_cons.mp hb
    have e : x = y := by
      have h1 := (h x).mp (by simp)
      have h2 := (h y).mpr (by simp)
      rcases List.mem_cons.mp h1 with z | z
      · exact z
      · rcases List.mem_cons.mp h2 with w | w
        · exact w.symm
        · have := a1 y w; have := b1 x z; omega
    subst e
    rw [sorted_unique a2 b2 fun k => ?_]
    constructor
    · intro hk
      rcases List.mem_cons.mp ((h k).mp (List.mem_cons_of_mem _ hk)) with z | z
      · have := a1 k hk; omega
      · exact z
    · intro hk
      rcases List.mem_cons.mp ((h k).mpr (List.mem_cons_of_mem _ hk)) with z | z
      · have := b1 k hk; omega
      · exact z
/-- {}: a new dict -/
theorem pe_dict0 {W : Wd} {C : Calls} {Wx : WX} {X : Cx} {pos : Pos} : PE X (.Dict [] [] pos) (tEv W C Wx .dic) := ⟨fun pins s σ H Q I h => by
  obtain ⟨hid, env, st, ι, S, SE, post⟩ := h
  have hf : H s.heap.objs.size = none := I.hok.fresh (Nat.le_refl _)
  have ek := (dk_empty (P := X.prog) (w := X.w) (H := upd H s.heap.objs.size (.dK [])) s.heap I.big).2.1
  refine wpAny_Dict_empty ⟨.ref s.heap.objs.size, upd H s.heap.objs.size (.ext fun h => h.get? s.heap.objs.size = some { cls := .type "dict", data := .dict #[] }), I.laid (a := s.heap.objs.size) (t' := s.toks) (fun _ _ q => Heap.get?_push_of_some _ q) (Nat.le_refl _) ⟨Heap.get?_push_size _ rfl, ⟨_, Heap.get?_push_size _ rfl⟩, fun h1 h2 p k => k _ p⟩, rfl, ?_⟩
  have post : PostG (W.wh hid) (R (W.wh hid)) (XW W Wx σ) ι H Q (.ok (.ob st.length) (st ++ [.dct []])) := post
  have x := Ext.push S (o := .ext fun h => h.get? s.heap.objs.size = some { cls := .type "dict", data := .dict #[] }) hf
  refine post _ _ _ x (S.push hf ⟨_, #[], 0, [], upd_same, ek, ⟨rfl, rfl, rfl⟩, rfl, rfl, by simp, .nil⟩) (.ob ?_)
  rw [List.getElem?_append_right (by rw [S.len]; exact Nat.le_refl _), S.len]
  simp⟩
end Mn

set_option Elab.async false
set_option linter.all false
set_option maxRecDepth 100000
set_option maxHeartbeats 8000000
/-! Snd13: the evaluator is right about expressions. -/
namespace Mn
open PySem PySem.Spec PyProof.Rows L2

structure Okx (W : Wd) (C : Calls) (Wx : WX) (X : Cx) (m : E) (e : Expr) : Prop where
  pe : PE X e (tEv W C Wx m)
  pt : PT X e (tEb W C Wx m)
  pw : isBoolOp e = true → PW X e (tEb W C Wx m)
section
variable {W : Wd} {G : Gt} {C : Calls} {k : Nat} {Wx : WX} {X : Cx} {m a b : E} {e x y : Expr} {c : Ck}
theorem Okx.of (h : PE X e (tEv W C Wx m)) (he : ∀ whole, isTrue e X.env whole = (do let v ← whole; standAt e.pos; holding [v] (truthy v))) (nb : isBoolOp e = false) : Okx W C Wx X m e := by
  refine ⟨h, PT.imp (pt_val h he) fun σ H Q q => ?_, fun z => by rw [nb] at z; cases z⟩
  obtain ⟨hid, env, st, ι, S, SE, post⟩ := q
  exact ⟨hid, env, st, ι, S, SE, PostG.boolE post⟩
/-- a rule for a test, from the value's rule -/
theorem Okx.ofT {t : TE} (h : PE X e (tEv W C Wx m)) (ht : PT X e (tTest t)) (i : ∀ σ H Q, tEv W C Wx m σ H Q → t σ H Q) (nb : isBoolOp e = false) : Okx W C Wx X m e := by
  refine ⟨h, PT.imp ht fun σ H Q q => ?_, fun z => by rw [nb] at z; cases z⟩
  obtain ⟨hid, env, st, ι, S, SE, post⟩ := q
  exact i σ H _ ⟨hid, env, st, ι, S, SE, PostG.boolE post⟩
theorem pe_bin' (o : Bop) {pos : Pos} (ha : PE X x (tEv W C Wx a)) (hb : PE X y (tEv W C Wx b)) : PE X (.BinOp x o.op y pos) (tEv W C Wx (.bin o a b)) := by
  refine PE.imp (pe_op (OpR.ex fun hid => op_bin (W := W.wh hid) o) ha hb) fun σ H Q q => ?_
  obtain ⟨hid, env, st, ι, S, SE, post⟩ := q
  simp only [ev] at post
  refine ⟨hid, env, st, ι, S, SE, post.bind.imp fun vx H1 ⟨da, ι1, st1, X1, S1, ra, p1⟩ => ?_⟩
  refine ⟨hid, env, st1, ι1, S1, SE.mono X1, p1.bind.imp fun vy H2 ⟨db, ι2, st2, X2, S2, rb, p2⟩ => ?_⟩
  exact ⟨hid, da, db, st2, ι2, S2, ra.mono X2, rb, p2.prim⟩
theorem tOp_cmp (o : Cop) (σ : L2.St) (H : Hp) (Q : VK) (q : tEv W C Wx (.cmp o a b) σ H Q) : tOp (fun x y H Q => ∃ hid, r2 (W.wh hid) (fun a b st => oB (pCmp o a b st) st) x y H Q) (tEv W C Wx a) (tEv W C Wx b) σ H Q := by
  obtain ⟨hid, env, st, ι, S, SE, post⟩ := q
  simp only [ev] at post
  refine ⟨hid, env, st, ι, S, SE, post.bind.imp fun vx H1 ⟨da, ι1, st1, X1, S1, ra, p1⟩ => ?_⟩
  refine ⟨hid, env, st1, ι1, S1, SE.mono X1, p1.bind.imp fun vy H2 ⟨db, ι2, st2, X2, S2, rb, p2⟩ => ?_⟩
  refine ⟨hid, da, db, st2, ι2, S2, ra.mono X2, rb, ?_⟩
  dsimp only
  cases e : pCmp o da db st2 with
  | none => rw [e] at p2; exact p2.elim
  | some v => rw [e] at p2; exact p2
theorem tChain_ok (o p : Cop) {d : E} (σ : L2.St) (H : Hp) (Q : VK) (q : tEv W C Wx (.chain o p a b d) σ H Q) :
    tChain (fun x y H Q => ∃ hid, r2 (W.wh hid) (fun a b st => oB (pCmp o a b st) st) x y H Q) (fun x y H Q => ∃ hid, r2 (W.wh hid) (fun a b st => oB (pCmp p a b st) st) x y H Q) (tEv W C Wx a) (tEv W C Wx b) (tEv W C Wx d) σ H Q := by
  obtain ⟨hid, env, st, ι, S, SE, post⟩ := q
  simp only [ev] at post
  refine ⟨hid, env, st, ι, S, SE, post.bind.imp fun vx H1 ⟨da, ι1, st1, X1, S1, ra, p1⟩ => ?_⟩
  refine ⟨hid, env, st1, ι1, S1, SE.mono X1, p1.bind.imp fun vy H2 ⟨db, ι2, st2, X2, S2, rb, p2⟩ => ?_⟩
  refine ⟨hid, da, db, st2, ι2, S2, ra.mono X2, rb, ?_⟩
  dsimp only
  cases e : pCmp o da db st2 with
  | none => rw [e] at p2; exact p2.elim
  | some v =>
    rw [e] at p2
    intro ι3 H3 z X3 S3 rz
    cases rz
    cases v with
    | false => exact ⟨false, rfl, iteF (PostG.now (PostG.ext p2 X3) S3 (.bl _))⟩
    | true =>
      refine ⟨true, rfl, iteT ?_⟩
      refine ⟨hid, env, st2, ι3, S3, ((SE.mono X1).mono X2).mono X3, (PostG.bind (PostG.ext p2 X3)).imp fun vz H4 ⟨dz, ι4, st4, X4, S4, rz, p4⟩ => ?_⟩
      refine ⟨hid, db, dz, st4, ι4, S4, (rb.mono X3).mono X4, rz, ?_⟩
      dsimp only
      cases e2 : pCmp p db dz st4 with
      | none => rw [e2] at p4; exact p4.elim
      | some v => rw [e2] at p4; exact p4
def tChn (r r' r3 : R2) (ta tb tc td : TE) : TE := fun σ H Q => ta σ H fun x H1 => tb σ H1 fun y H2 => r x y H2 fun z H3 => ∃ k, z = .bl k ∧
  (if k = true then tc σ H3 fun w' H4 => r' y w' H4 fun z2 H5 => ∃ k2, z2 = .bl k2 ∧ (if k2 = true then td σ H5 fun u H6 => r3 w' u H6 Q else Q (.bl false) H5) else Q (.bl false) H3)
theorem pe_chn {ea eb ec ed : Expr} {ta tb tc td : TE} {pos : Pos} {op op' op3 : CmpOp} {r r' r3 : R2} (ho : OpR X (compareOp op) r) (ho' : OpR X (compareOp op') r') (ho3 : OpR X (compareOp op3) r3) (ha : PE X ea ta) (hb : PE X eb tb) (hc : PE X ec tc) (hd : PE X ed td)
    (hm : lastMarks [op, op', op3] [eb, ec, ed] = false) : PE X (.Compare ea [op, op', op3] [eb, ec, ed] pos) (tChn r r' r3 ta tb tc td) := by
  refine ⟨fun pins s σ H Q I h => ?_⟩
  refine Compare_chain (thn (ha.run pins s σ H _ I h) fun v s1 ⟨x, H1, I1, r1, q1⟩ => chain_link (thn (hb.run pins s1 σ H1 _ I1 q1) fun u s2 ⟨y, H2, I2, r2, q2⟩ =>
    thn (ho pins s2 σ H2 x y v u _ I2 r1 r2 q2) fun d s3 ⟨z, H3, I3, r3, k, e, q3⟩ => ?_)) hm
  subst e
  cases r3
  refine wpAny_truthy_bool ?_
  cases k with
  | false => exact ite_ff ⟨.bl false, H3, I3, rfl, q3⟩
  | true =>
    refine ite_tt (chain_link (thn (hc.run pins s3 σ H3 _ I3 q3) fun w' s4 ⟨z', H4, I4, r4, q4⟩ => thn (ho' pins s4 σ H4 y z' u w' _ I4 r2 r4 q4) fun d' s5 ⟨z2, H5, I5, r5, k2, e2, q5⟩ => ?_))
    subst e2
    cases r5
    refine wpAny_truthy_bool ?_
    cases k2 with
    | false => exact ite_ff ⟨.bl false, H5, I5, rfl, q5⟩
    | true => exact ite_tt (chain_last (thn (hd.run pins s5 σ H5 _ I5 q5) fun w2 s6 ⟨z3, H6, I6, r6, q6⟩ => ho3 pins s6 σ H6 z' z3 w' w2 Q I6 r4 r6 q6))
theorem pt_chn {ea eb ec ed : Expr} {ta tb tc td : TE} {pos : Pos} {op op' op3 : CmpOp} {r r' r3 : R2} (ho : OpR X (compareOp op) r) (ho' : OpR X (compareOp op') r') (ho3 : OpR X (compareOp op3) r3) (ha : PE X ea ta) (hb : PE X eb tb) (hc : PE X ec tc) (hd : PE X ed td)
    (hm : lastMarks [op, op', op3] [eb, ec, ed] = false) : PT X (.Compare ea [op, op', op3] [eb, ec, ed] pos) (tTest (tChn r r' r3 ta tb tc td)) := by
  refine ⟨fun pins s σ H Q I h => ?_⟩
  refine isTrue_chain (thn (ha.run pins s σ H _ I h) fun v s1 ⟨x, H1, I1, r1, q1⟩ => test_link (thn (hb.run pins s1 σ H1 _ I1 q1) fun u s2 ⟨y, H2, I2, r2, q2⟩ =>
    thn (ho pins s2 σ H2 x y v u _ I2 r1 r2 q2) fun d s3 ⟨z, H3, I3, r3, k, e, q3⟩ => ?_)) hm
  subst e
  cases r3
  refine wpAny_truthy_bool ?_
  cases k with
  | false =>
    obtain ⟨k', e', q'⟩ := q3
    cases e'
    exact ite_ff ⟨H3, I3, q'⟩
  | true =>
    refine ite_tt (test_link (thn (hc.run pins s3 σ H3 _ I3 q3) fun w' s4 ⟨z', H4, I4, r4, q4⟩ => thn (ho' pins s4 σ H4 y z' u w' _ I4 r2 r4 q4) fun d' s5 ⟨z2, H5, I5, r5, k2, e2, q5⟩ => ?_))
    subst e2
    cases r5
    refine wpAny_truthy_bool ?_
    cases k2 with
    | false =>
      obtain ⟨k', e', q'⟩ := q5
      cases e'
      exact ite_ff ⟨H5, I5, q'⟩
    | true =>
      refine ite_tt (test_last (thn (hd.run pins s5 σ H5 _ I5 q5) fun w2 s6 ⟨z3, H6, I6, r6, q6⟩ => thn (ho3 pins s6 σ H6 z' z3 w' w2 _ I6 r4 r6 q6) fun d'' s7 ⟨z4, H7, I7, r7, k3, e3, q7⟩ => ?_))
      subst e3
      cases r7
      exact wpAny_truthy_bool ⟨H7, I7, q7⟩
theorem tChn_ok (o p q : Cop) {d f : E} (σ : L2.St) (H : Hp) (Q : VK) (g : tEv W C Wx (.chn o p q a b d f) σ H Q) :
    tChn (fun x y H Q => ∃ hid, r2 (W.wh hid) (fun a b st => oB (pCmp o a b st) st) x y H Q) (fun x y H Q => ∃ hid, r2 (W.wh hid) (fun a b st => oB (pCmp p a b st) st) x y H Q) (fun x y H Q => ∃ hid, r2 (W.wh hid) (fun a b st => oB (pCmp q a b st) st) x y H Q) (tEv W C Wx a) (tEv W C Wx b) (tEv W C Wx d) (tEv W C Wx f) σ H Q := by
  obtain ⟨hid, env, st, ι, S, SE, post⟩ := g
  simp only [ev] at post
  refine ⟨hid, env, st, ι, S, SE, post.bind.imp fun vx H1 ⟨da, ι1, st1, X1, S1, ra, p1⟩ => ?_⟩
  refine ⟨hid, env, st1, ι1, S1, SE.mono X1, p1.bind.imp fun vy H2 ⟨db, ι2, st2, X2, S2, rb, p2⟩ => ?_⟩
  refine ⟨hid, da, db, st2, ι2, S2, ra.mono X2, rb, ?_⟩
  dsimp only
  cases e : pCmp o da db st2 with
  | none => rw [e] at p2; exact p2.elim
  | some v =>
    rw [e] at p2
    intro ι3 H3 z X3 S3 rz
    cases rz
    cases v with
    | false => exact ⟨false, rfl, iteF (PostG.now (PostG.ext p2 X3) S3 (.bl _))⟩
    | true =>
      refine ⟨true, rfl, iteT ?_⟩
      refine ⟨hid, env, st2, ι3, S3, ((SE.mono X1).mono X2).mono X3, (PostG.bind (PostG.ext p2 X3)).imp fun vz H4 ⟨dz, ι4, st4, X4, S4, rz, p4⟩ => ?_⟩
      refine ⟨hid, db, dz, st4, ι4, S4, (rb.mono X3).mono X4, rz, ?_⟩
      dsimp only
      cases e2 : pCmp p db dz st4 with
      | none => rw [e2] at p4; exact p4.elim
      | some v =>
        rw [e2] at p4
        intro ι5 H5 z5 X5 S5 rz5
        cases rz5
        cases v with
        | false => exact ⟨false, rfl, iteF (PostG.now (PostG.ext p4 X5) S5 (.bl _))⟩
        | true =>
          refine ⟨true, rfl, iteT ?_⟩
          refine ⟨hid, env, st4, ι5, S5, ((((SE.mono X1).mono X2).mono X3).mono X4).mono X5, (PostG.bind (PostG.ext p4 X5)).imp fun vw H6 ⟨dw, ι6, st6, X6, S6, rw', p6⟩ => ?_⟩
          refine ⟨hid, dz, dw, st6, ι6, S6, (rz.mono X5).mono X6, rw', ?_⟩
          dsimp only
          cases e3 : pCmp q dz dw st6 with
          | none => rw [e3] at p6; exact p6.elim
          | some v => rw [e3] at p6; exact p6
theorem tIsN_ok (σ : L2.St) (H : Hp) (Q : VK) (q : tEv W C Wx (.isN a) σ H Q) : tIsN (tEv W C Wx a) σ H Q := by
  obtain ⟨hid, env, st, ι, S, SE, post⟩ := q
  simp only [ev] at post
  refine ⟨hid, env, st, ι, S, SE, post.bind.imp fun vx H1 ⟨da, ι1, st1, X1, S1, ra, p1⟩ => ?_⟩
  have e : da.isNon = decide (vx = .non) := by cases ra <;> rfl
  rw [e] at p1
  exact p1.now S1 (.bl _)
theorem tNotN_ok (σ : L2.St) (H : Hp) (Q : VK) (q : tEv W C Wx (.notN a) σ H Q) : tNotN (tEv W C Wx a) σ H Q := by
  obtain ⟨hid, env, st, ι, S, SE, post⟩ := q
  simp only [ev] at post
  refine ⟨hid, env, st, ι, S, SE, post.bind.imp fun vx H1 ⟨da, ι1, st1, X1, S1, ra, p1⟩ => ?_⟩
  have e : da.isNon = decide (vx = .non) := by cases ra <;> rfl
  rw [e] at p1
  exact p1.now S1 (.bl _)
/-- and, or, not, if: as values and as tests -/
theorem not_ok {pos : Pos} (h : Okx W C Wx X a x) : Okx W C Wx X (.not a) (.UnaryOp .Not x pos) := by
  refine ⟨PE.imp (pe_not h.pe) fun σ H Q q => ?_, PT.imp (pt_not h.pt) fun σ H Q q => ?_, fun z => by cases z⟩
  · obtain ⟨hid, env, st, ι, S, SE, post⟩ := q
    simp only [ev] at post
    refine ⟨hid, env, st, ι, S, SE, (PostG.boolR post).imp fun vx H1 ⟨b, ι1, st1, e, X1, S1, p1⟩ => ?_⟩
    exact ⟨b, e, p1.now S1 (.bl _)⟩
  · obtain ⟨hid, env, st, ι, S, SE, post⟩ := q
    refine ⟨hid, env, st, ι, S, SE, ?_⟩
    simp only [evB, ev] at post ⊢
    cases hr : boolR (ev C a env st) with
    | ok v st1 => rw [hr] at post; intro ι' H' b X' S' e; have e : v = b := e; subst e; exact post ι' H' (!v) X' S' rfl
    | exc cc st1 => rw [hr] at post; exact post
    | err => rw [hr] at post; exact post
theorem and_tests (σ : L2.St) (H : Hp) (Q : Bool → Hp → Prop) (q : tEb W C Wx (.and a b) σ H Q) : tAnd (tEb W C Wx a) (tEb W C Wx b) σ H Q := by
  obtain ⟨hid, env, st, ι, S, SE, post⟩ := q
  refine ⟨hid, env, st, ι, S, SE, ?_⟩
  simp only [evB, ev] at post ⊢
  cases hr : boolR (ev C a env st) with
  | ok v st1 =>
    rw [hr] at post
    intro ι' H' b' X' S' e
    have e : v = b' := e
    subst e
    cases v with
    | true => exact iteT ⟨hid, env, st1, ι', S', SE.mono X', PostG.ext post X'⟩
    | false => exact iteF (post ι' H' false X' S' rfl)
  | exc cc st1 => rw [hr] at post; exact post
  | err => rw [hr] at post; exact post
theorem or_tests (σ : L2.St) (H : Hp) (Q : Bool → Hp → Prop) (q : tEb W C Wx (.or a b) σ H Q) : tOr (tEb W C Wx a) (tEb W C Wx b) σ H Q := by
  obtain ⟨hid, env, st, ι, S, SE, post⟩ := q
  refine ⟨hid, env, st, ι, S, SE, ?_⟩
  simp only [evB, ev] at post ⊢
  cases hr : boolR (ev C a env st) with
  | ok v st1 =>
    rw [hr] at post
    intro ι' H' b' X' S' e
    have e : v = b' := e
    subst e
    cases v with
    | true => exact iteT (post ι' H' true X' S' rfl)
    | false => exact iteF ⟨hid, env, st1, ι', S', SE.mono X', PostG.ext post X'⟩
  | exc cc st1 => rw [hr] at post; exact post
  | err => rw [hr] at post; exact post
theorem and_vals (σ : L2.St) (H : Hp) (Q : VK) (q : tEv W C Wx (.and a b) σ H Q) : tAndV (tEv W C Wx a) (tEv W C Wx b) σ H Q := by
  obtain ⟨hid, env, st, ι, S, SE, post⟩ := q
  simp only [ev] at post
  refine ⟨hid, env, st, ι, S, SE, (PostG.boolR post).imp fun vx H1 ⟨v, ι1, st1, e, X1, S1, p1⟩ => ⟨v, e, ?_⟩⟩
  cases v with
  | true => exact iteT ⟨hid, env, st1, ι1, S1, SE.mono X1, p1⟩
  | false => exact iteF (p1.now S1 (.bl _))
theorem or_vals (σ : L2.St) (H : Hp) (Q : VK) (q : tEv W C Wx (.or a b) σ H Q) : tOrV (tEv W C Wx a) (tEv W C Wx b) σ H Q := by
  obtain ⟨hid, env, st, ι, S, SE, post⟩ := q
  simp only [ev] at post
  refine ⟨hid, env, st, ι, S, SE, (PostG.boolR post).imp fun vx H1 ⟨v, ι1, st1, e, X1, S1, p1⟩ => ⟨v, e, ?_⟩⟩
  cases v with
  | true => exact iteT (p1.now S1 (.bl _))
  | false => exact iteF ⟨hid, env, st1, ι1, S1, SE.mono X1, p1⟩
theorem and_ok {r : List Expr} {pos : Pos} (ha : Okx W C Wx X a x) (hb : Okx W C Wx X b (match r with
    | [] => y
    | z :: r => .BoolOp .And (y :: z :: r) pos)) : Okx W C Wx X (.and a b) (.BoolOp .And (x :: y :: r) pos) := by
  have h1 : PE X (.BoolOp .And (y :: r) pos) (tEv W C Wx b) ∧ PW X (.BoolOp .And (y :: r) pos) (tEb W C Wx b) := by
    cases r with
    | nil => exact ⟨pe_one hb.pe, pw_and1 hb.pt⟩
    | cons z r => exact ⟨hb.pe, hb.pw rfl⟩
  have pw : PW X (.BoolOp .And (x :: y :: r) pos) (tEb W C Wx (.and a b)) := PW.imp (pw_and ha.pt h1.2) and_tests
  exact ⟨PE.imp (pe_and ha.pe h1.1) and_vals, pw.pt, fun _ => pw⟩
theorem or_ok {r : List Expr} {pos : Pos} (ha : Okx W C Wx X a x) (hb : Okx W C Wx X b (match r with
    | [] => y
    | z :: r => .BoolOp .Or (y :: z :: r) pos)) : Okx W C Wx X (.or a b) (.BoolOp .Or (x :: y :: r) pos) := by
  have h1 : PE X (.BoolOp .Or (y :: r) pos) (tEv W C Wx b) ∧ PW X (.BoolOp .Or (y :: r) pos) (tEb W C Wx b) := by
    cases r with
    | nil => exact ⟨pe_one hb.pe, pw_or1 hb.pt⟩
    | cons z r => exact ⟨hb.pe, hb.pw rfl⟩
  have pw : PW X (.BoolOp .Or (x :: y :: r) pos) (tEb W C Wx (.or a b)) := PW.imp (pw_or ha.pt h1.2) or_tests
  exact ⟨PE.imp (pe_or ha.pe h1.1) or_vals, pw.pt, fun _ => pw⟩
theorem orV_vals {K : PySem.W.Frag} (σ : L2.St) (H : Hp) (Q : VK) (q : tEv W C Wx (.orV a b) σ H Q) : tOrT K (tEv W C Wx a) (tEv W C Wx b) σ H Q := by
  obtain ⟨hid, env, st, ι, S, SE, post⟩ := q
  simp only [ev] at post
  refine ⟨hid, env, st, ι, S, SE, post.bind.imp fun vx H1 ⟨da, ι1, st1, X1, S1, ra, p1⟩ => ?_⟩
  cases ra with
  | non => exact ⟨false, rfl, iteF ⟨hid, env, st1, ι1, S1, SE.mono X1, p1⟩⟩
  | int i =>
    refine ⟨i != 0, rfl, ?_⟩
    dsimp only at p1
    by_cases hi : i = 0
    · rw [if_pos hi] at p1
      have : (i != 0) = false := by simp [hi]
      rw [this]
      exact iteF ⟨hid, env, st1, ι1, S1, SE.mono X1, p1⟩
    · rw [if_neg hi] at p1
      have : (i != 0) = true := by simp [hi]
      rw [this]
      exact iteT (p1.now S1 (.int _))
  | _ => exact p1.elim
theorem ite_vals {t : E} (σ : L2.St) (H : Hp) (Q : VK) (q : tEv W C Wx (.ite t a b) σ H Q) : tIf (tEb W C Wx t) (tEv W C Wx a) (tEv W C Wx b) σ H Q := by
  obtain ⟨hid, env, st, ι, S, SE, post⟩ := q
  simp only [ev] at post
  refine ⟨hid, env, st, ι, S, SE, (PostG.bind (RA := EqR) post).imp fun v H1 ⟨v', ι1, st1, X1, S1, e, p1⟩ => ?_⟩
  have e : v' = v := e
  subst e
  cases v' with
  | true => exact iteT ⟨hid, env, st1, ι1, S1, SE.mono X1, p1⟩
  | false => exact iteF ⟨hid, env, st1, ι1, S1, SE.mono X1, p1⟩
theorem pt_ifExp' {z : Expr} {t tA tB : TT} {pos : Pos} (ht : PT X x t) (ha : PT X y tA) (hb : PT X z tB) : PT X (.IfExp x y z pos) (fun σ H Q => t σ H fun c H1 => if c = true then tA σ H1 Q else tB σ H1 Q) := by
  refine ⟨fun pins s σ H Q I h => ?_⟩
  refine isTrue_IfExp (thn (ht.run pins s σ H _ I h) fun d s1 ⟨H1, I1, q1⟩ => ?_)
  cases d with
  | true => exact ha.run pins s1 σ H1 Q I1 q1
  | false => exact hb.run pins s1 σ H1 Q I1 q1
theorem ite_ok {t : E} {z : Expr} {pos : Pos} (ht : Okx W C Wx X t x) (ha : Okx W C Wx X a y) (hb : Okx W C Wx X b z) : Okx W C Wx X (.ite t a b) (.IfExp x y z pos) := by
  refine ⟨PE.imp (pe_ifExp ht.pt ha.pe hb.pe) ite_vals, PT.imp (pt_ifExp' ht.pt ha.pt hb.pt) fun σ H Q q => ?_, fun z => by cases z⟩
  obtain ⟨hid, env, st, ι, S, SE, post⟩ := q
  simp only [evB, ev] at post
  refine ⟨hid, env, st, ι, S, SE, ?_⟩
  simp only [evB]
  cases hr : boolR (ev C t env st) with
  | ok v st1 =>
    rw [hr] at post
    intro ι' H' b' X' S' e
    have e : v = b' := e
    subst e
    cases v with
    | true => exact iteT ⟨hid, env, st1, ι', S', SE.mono X', PostG.ext post X'⟩
    | false => exact iteF ⟨hid, env, st1, ι', S', SE.mono X', PostG.ext post X'⟩
  | exc cc st1 => rw [hr] at post; exact post
  | err => rw [hr] at post; exact post
/-- built-ins -/
theorem bi_args {bb : Bi} {es : E} {f : List D → Store → Res D} (hf : ∀ ds st, pBi bb ds st = f ds st) (σ : L2.St) (H : Hp) (Q : VK) (q : tEv W C Wx (.bi bb es) σ H Q) : tCB (fun xs H Q => ∃ hid, rC (W.wh hid) f xs H Q) (tEs W C Wx es) σ H Q := by
  obtain ⟨hid, env, st, ι, S, SE, post⟩ := q
  simp only [ev] at post
  refine ⟨hid, env, st, ι, S, SE, (PostG.bind (RA := RL _) post).imp fun vs H1 ⟨ds, ι1, st1, X1, S1, rl, p1⟩ => ⟨hid, ds, st1, ι1, S1, rl, ?_⟩⟩
  rw [hf] at p1
  exact p1.prim
end
end Mn

set_option Elab.async false
set_option linter.all false
set_option maxRecDepth 100000
set_option maxHeartbeats 8000000
/-! Snd14: each form of an expression. -/
namespace Mn
open PySem PySem.Spec PyProof.Rows L2

def NoSt (es : List Expr) : Prop := ∀ e ∈ es, isStar e = false
theorem NoSt.each {es : List Expr} {env : PySem.Env} (h : NoSt es) : ∀ p ∈ starEach es env, p.1 = false := by
  induction es with
  | nil => intro p hp; exact nomatch hp
  | cons e es ih =>
    intro p hp
    rw [starEach_cons (h e List.mem_cons_self)] at hp
    rcases List.mem_cons.mp hp with z | z
    · rw [z]
    · exact ih (fun e he => h e (List.mem_cons_of_mem _ he)) p z
theorem NoSt.back {es : List Expr} {env : PySem.Env} {pos : Pos} (h : NoSt es) : (backTo pos (starEach es env)).any (·.1) = false := by
  rw [List.any_eq_false]
  intro p hp
  unfold backTo at hp
  obtain ⟨q, hq, rfl⟩ := List.mem_map.mp hp
  have := h.each q hq
  simp [this]
theorem NoSt.tail {e : Expr} {es : List Expr} (h : NoSt (e :: es)) : NoSt es := fun x hx => h x (List.mem_cons_of_mem _ hx)
theorem NoSt.few {es : List Expr} {env : PySem.Env} {pos : Pos} (h : NoSt es) (hl : es.length < 21) : ((backTo pos (starEach es env)).all (fun x => !x.1) && (backToKw pos (keywordEach [] env)).all (fun x => x.1.isSome)
      && decide (es.length + ([] : List Keyword).length + (if ([] : List Keyword).isEmpty then 0 else 1) < 30)) = true := by
  have h1 : (backTo pos (starEach es env)).all (fun x => !x.1) = true := by
    rw [List.all_eq_true]
    intro p hp
    unfold backTo at hp
    obtain ⟨q, hq, rfl⟩ := List.mem_map.mp hp
    have := h.each q hq
    simp [this]
  rw [h1]
  have h2 : (backToKw pos (keywordEach [] env)).all (fun x => x.1.isSome) = true := rfl
  rw [h2]
  simp
  omega
theorem base_plain {o : Expr} {nm : Str} {env : PySem.Env} (h : isCall0 o = false) : attributeBase o nm env (eval o env) = eval o env := by
  unfold attributeBase
  split
  · simp [isCall0] at h
  · rfl
theorem ix_plain {b : Expr} (h : isSlice b = false) : PlainIx b := by
  intro o i
  cases b <;> first | rfl | (simp [isSlice] at h)
section
variable {W : Wd} {G : Gt} {C : Calls} {k : Nat} {Wx : WX} {X : Cx} {m a b : E} {e x y : Expr} {c : Ck} {pos p : Pos}
theorem var_ok (g : Gd c X) {i : Nat} {z : Str} (h : (decide (c.N[i]? = some z) && visB c.sc z && plainName z) = true) : Okx W C Wx X (.var i) (.Name z pos) := by
  simp only [Bool.and_eq_true, decide_eq_true_eq] at h
  obtain ⟨n1, n2, n3⟩ := plainName_ok h.2
  refine Okx.of (PE.imp (pe_var (i := i) (by rw [g.N]; exact h.1.1) (by rw [g.sc]; exact visB_ok h.1.2) n1 n2) fun σ H Q q => ?_) (fun _ => rfl) rfl
  obtain ⟨hid, env, st, ι, S, SE, post⟩ := q
  simp only [ev] at post
  split at post
  · rename_i d hd
    obtain ⟨v, h1, h2⟩ := SE.get i d hd
    exact ⟨v, h1, post.now S h2⟩
  · exact post.elim
theorem con_ok {d : D} {kk : Const} {j} (h : cstB d kk = true) : Okx W C Wx X (.con d) (.Constant kk j pos) := by
  have fin : ∀ {v : V}, (∀ W' ι H, R W' ι H d v) → ∀ σ H Q, tEv W C Wx (.con d) σ H Q → tC v σ H Q := fun hv σ H Q q => by
    obtain ⟨hid, env, st, ι, S, SE, post⟩ := q
    simp only [ev] at post
    exact post.now S (hv _ _ _)
  cases d with
  | non => cases kk with
    | none => exact Okx.of (PE.imp pe_non (fin fun _ _ _ => .non)) (fun _ => rfl) rfl
    | _ => cases h
  | bl v => cases kk with
    | bool w =>
      have e : v = w := by simpa [cstB] using h
      subst e
      exact Okx.of (PE.imp pe_bl (fin fun _ _ _ => .bl _)) (fun _ => rfl) rfl
    | _ => cases h
  | int v => cases kk with
    | int w =>
      have e : v = w := by simpa [cstB] using h
      subst e
      exact Okx.of (PE.imp pe_int (fin fun _ _ _ => .int _)) (fun _ => rfl) rfl
    | _ => cases h
  | str v => cases kk with
    | str w =>
      have e : v = w := by simpa [cstB] using h
      subst e
      exact Okx.of (PE.imp pe_str (fin fun _ _ _ => .str _)) (fun _ => rfl) rfl
    | _ => cases h
  | _ => cases h
theorem glo_ok (g : Gd c X) (gl : Glb W G C k X) {d : D} {z w : Str} (h : (decide (z = w) && glB c.sc z && (G.cons.any fun p => decide (p.1 = z) && p.2.beq d) && plainName z) = true) : Okx W C Wx X (.glo z d) (.Name w pos) := by
  simp only [Bool.and_eq_true, decide_eq_true_eq] at h
  obtain ⟨⟨⟨rfl, h2⟩, h3⟩, h4⟩ := h
  obtain ⟨n1, n2, n3⟩ := plainName_ok h4
  obtain ⟨q, hq, hb⟩ := List.any_eq_true.mp h3
  simp only [Bool.and_eq_true, decide_eq_true_eq] at hb
  obtain ⟨z', d'⟩ := q
  obtain ⟨e1, e2⟩ := hb
  have e2 := beq_eq e2
  dsimp only at e1 e2
  subst e1; subst e2
  obtain ⟨v, u, m1, m2, m3⟩ := gl.con _ _ hq
  refine Okx.of (PE.imp (pe_glob (g.gl h2) m1 m2 n1) fun σ H Q q => ?_) (fun _ => rfl) rfl
  obtain ⟨hid, env, st, ι, S, SE, post⟩ := q
  simp only [ev] at post
  exact post.now S (m3 _ _ _)
def tTupF (t : TA) : TE := fun σ H Q => t σ H fun xs H1 => xs.length ≤ sizeLine ∧ ∀ (p : Addr) (o : Obj), H1 p = none → o.dict = none → Q (.ref p) (upd H1 p (.frz o (.tup xs)))
theorem pe_tupF {es : List Expr} {t : TA} {x1} (h : PA X es t) : PE X (.Tuple es x1 pos) (tTupF t) := ⟨fun pins s σ H Q I hq =>
  wpAny_Tuple_spliced (thn (h.run pos pins s σ H _ I hq) fun us s1 ⟨vs, H1, I1, rv, z, q⟩ => ⟨by rw [← rv.length]; exact z,
    ⟨.ref s1.heap.objs.size, _, tup_laid I1 (t' := s1.toks) z rv, rfl, q _ _ (I1.hok.fresh (Nat.le_refl _)) rfl⟩⟩)⟩
theorem tup_ok {es : E} {xs : List Expr} {kk} (h : PA X xs (tEs W C Wx es)) : Okx W C Wx X (.tup es) (.Tuple xs kk pos) := by
  refine Okx.of (PE.imp (pe_tupF h) fun σ H Q q => ?_) (fun _ => rfl) rfl
  obtain ⟨hid, env, st, ι, S, SE, post⟩ := q
  simp only [ev] at post
  refine ⟨hid, env, st, ι, S, SE, (PostG.bind (RA := RL _) post).imp fun vs H1 ⟨ds, ι1, st1, X1, S1, rl, p1⟩ => ?_⟩
  exact PostR.newT p1.prim S1 rl
theorem lst_ok {mm : Bool} {es : E} {xs : List Expr} (h : PA X xs (tEs W C Wx es)) : Okx W C Wx X (.lst mm es) (.List xs pos) := by
  refine Okx.of (PE.imp (pe_lst h) fun σ H Q q => ?_) (fun _ => rfl) rfl
  obtain ⟨hid, env, st, ι, S, SE, post⟩ := q
  simp only [ev] at post
  refine ⟨hid, env, st, ι, S, SE, (PostG.bind (RA := RL _) post).imp fun vs H1 ⟨ds, ι1, st1, X1, S1, rl, p1⟩ => ?_⟩
  exact PostR.newL p1.prim S1 rl
theorem bin_ok {o : Bop} {op : Operator} (ho : o.b op = true) (ha : Okx W C Wx X a x) (hb : Okx W C Wx X b y) : Okx W C Wx X (.bin o a b) (.BinOp x op y pos) := by
  rw [Bop.b_eq ho]
  exact Okx.of (pe_bin' o ha.pe hb.pe) (fun _ => rfl) rfl
theorem neg_ok (ha : Okx W C Wx X a x) : Okx W C Wx X (.neg a) (.UnaryOp .USub x pos) := by
  refine Okx.of (PE.imp (pe_un un_neg ha.pe) fun σ H Q q => ?_) (fun _ => rfl) rfl
  obtain ⟨hid, env, st, ι, S, SE, post⟩ := q
  simp only [ev] at post
  refine ⟨hid, env, st, ι, S, SE, post.bind.imp fun vx H1 ⟨da, ι1, st1, X1, S1, ra, p1⟩ => ?_⟩
  cases ra with
  | int i => exact ⟨i, rfl, p1.now S1 (.int _)⟩
  | _ => exact p1.elim
theorem orV_ok (ht : plainTest x = true) (ha : Okx W C Wx X a x) (hb : Okx W C Wx X b y) : Okx W C Wx X (.orV a b) (.BoolOp .Or [x, y] pos) := by
  have he : ∀ whole, isTrue x X.env whole = (do let v ← whole; standAt x.pos; holding [v] (truthy v)) := by
    intro wh
    cases x <;> first | rfl | (simp [plainTest] at ht)
  have pw : PW X (.BoolOp .Or [x, y] pos) (tEb W C Wx (.orV a b)) := by
    refine PW.imp (pw_or (pt_truth ha.pe he) (pw_or1 hb.pt)) fun σ H Q q => ?_
    obtain ⟨hid, env, st, ι, S, SE, post⟩ := q
    refine ⟨hid, env, st, ι, S, SE, ?_⟩
    simp only [evB, ev] at post
    cases hr : ev C a env st with
    | err => rw [hr] at post; exact post
    | exc cc st1 => rw [hr] at post; exact post
    | ok da st1 =>
      rw [hr] at post
      intro ι1 H1 vx X1 S1 ra
      have fin : PostG (W.wh hid) EqR (XW W Wx σ) ι H Q (boolR (ev C b env st1)) → tEb W C Wx b σ H1 Q := fun p1 => ⟨hid, env, st1, ι1, S1, SE.mono X1, PostG.ext p1 X1⟩
      cases ra with
      | non => exact ⟨false, rfl, iteF (fin post)⟩
      | int i =>
        refine ⟨i != 0, rfl, ?_⟩
        simp only [Res.bind] at post
        by_cases hi : i = 0
        · rw [if_pos hi] at post
          have : (i != 0) = false := by simp [hi]
          rw [this]
          exact iteF (fin post)
        · rw [if_neg hi] at post
          exact post.elim
      | _ => exact post.elim
  exact ⟨PE.imp (pe_orT ha.pe (pe_one hb.pe)) orV_vals, pw.pt, fun _ => pw⟩
theorem cmp_ok (gl : Glb W G C k X) {o : Cop} {op : CmpOp} (ho : o.b op = true) (hm : behindInMarks op y = false) (ha : Okx W C Wx X a x) (hb : Okx W C Wx X b y) : Okx W C Wx X (.cmp o a b) (.Compare x [op] [y] pos) := by
  rw [Cop.b_eq ho] at hm ⊢
  have un := gl.un
  have hr := OpR.ex fun hid => op_cmp (W := W.wh hid) (X := X) gl.hK gl.hP gl.hw (by omega) o
  exact Okx.ofT (PE.imp (pe_cmpR hr ha.pe hb.pe hm) (tOp_cmp o)) (pt_cmpR hr ha.pe hb.pe hm) (tOp_cmp o) rfl
theorem chain_ok (gl : Glb W G C k X) {o o2 : Cop} {op op2 : CmpOp} {d : E} {z : Expr} (ho : o.b op = true) (ho2 : o2.b op2 = true) (hm2 : behindInMarks op2 z = false) (ha : Okx W C Wx X a x) (hb : Okx W C Wx X b y) (hd : Okx W C Wx X d z) : Okx W C Wx X (.chain o o2 a b d) (.Compare x [op, op2] [y, z] pos) := by
  rw [Cop.b_eq ho2] at hm2
  rw [Cop.b_eq ho, Cop.b_eq ho2]
  have un := gl.un
  have hr := OpR.ex fun hid => op_cmp (W := W.wh hid) (X := X) gl.hK gl.hP gl.hw (by omega) o
  have hr2 := OpR.ex fun hid => op_cmp (W := W.wh hid) (X := X) gl.hK gl.hP gl.hw (by omega) o2
  have hl : lastMarks [o.op, o2.op] [y, z] = false := hm2
  exact Okx.ofT (PE.imp (pe_chain hr hr2 ha.pe hb.pe hd.pe hl) (tChain_ok o o2)) (pt_chain hr hr2 ha.pe hb.pe hd.pe hl) (tChain_ok o o2) rfl
theorem chn_ok (gl : Glb W G C k X) {o o2 o3 : Cop} {op op2 op3 : CmpOp} {d f : E} {z w : Expr} (ho : o.b op = true) (ho2 : o2.b op2 = true) (ho3 : o3.b op3 = true) (hm3 : behindInMarks op3 w = false) (ha : Okx W C Wx X a x) (hb : Okx W C Wx X b y) (hd : Okx W C Wx X d z) (hf : Okx W C Wx X f w) : Okx W C Wx X (.chn o o2 o3 a b d f) (.Compare x [op, op2, op3] [y, z, w] pos) := by
  rw [Cop.b_eq ho3] at hm3
  rw [Cop.b_eq ho, Cop.b_eq ho2, Cop.b_eq ho3]
  have un := gl.un
  have hr := OpR.ex fun hid => op_cmp (W := W.wh hid) (X := X) gl.hK gl.hP gl.hw (by omega) o
  have hr2 := OpR.ex fun hid => op_cmp (W := W.wh hid) (X := X) gl.hK gl.hP gl.hw (by omega) o2
  have hr3 := OpR.ex fun hid => op_cmp (W := W.wh hid) (X := X) gl.hK gl.hP gl.hw (by omega) o3
  have hl : lastMarks [o.op, o2.op, o3.op] [y, z, w] = false := hm3
  exact Okx.ofT (PE.imp (pe_chn hr hr2 hr3 ha.pe hb.pe hd.pe hf.pe hl) (tChn_ok o o2 o3)) (pt_chn hr hr2 hr3 ha.pe hb.pe hd.pe hf.pe hl) (tChn_ok o o2 o3) rfl
theorem isN_ok {j p'} (ha : Okx W C Wx X a x) : Okx W C Wx X (.isN a) (.Compare x [.Is] [.Constant .none j p'] pos) :=
  Okx.ofT (PE.imp (pe_cmp (pc_isN ha.pe) rfl) tIsN_ok) (pt_cmp (pc_isN ha.pe) rfl) tIsN_ok rfl
theorem notN_ok {j p'} (ha : Okx W C Wx X a x) : Okx W C Wx X (.notN a) (.Compare x [.IsNot] [.Constant .none j p'] pos) :=
  Okx.ofT (PE.imp (pe_cmp (pc_notN ha.pe) rfl) tNotN_ok) (pt_cmp (pc_notN ha.pe) rfl) tNotN_ok rfl
theorem call_ok (g : Gd c X) (gl : Glb W G C k X) (tk : L2N.Takes X Wx) {f : Nat} {z : Str} {es : E} {xs : List Expr} (hh : c.hot = false) (h2 : glB c.sc z = true) (h3 : (f, z) ∈ G.fns) (h4 : plainName z = true) (ns : NoSt (x :: xs)) (ha : PA X (x :: xs) (tEs W C Wx es)) :
    Okx W C Wx X (.call f es) (.Call (.Name z p) (x :: xs) [] pos) := by
  obtain ⟨n1, n2, n3⟩ := plainName_ok h4
  obtain ⟨m1, m2, fd, ps, m3, m4, _⟩ := gl.fn _ _ h3
  refine Okx.of (PE.imp (pe_callS (m4 (by rw [g.calm, hh]; rfl)) (gl.room (by rw [g.calm, hh]; rfl)) (g.gl h2) m1 m2 m3 (fun σ => L2N.passAt tk σ) ha n1 (starEach_cons (ns x List.mem_cons_self)) ns.tail.back) fun σ H Q q => ?_) (fun _ => rfl) rfl
  obtain ⟨hid, env, st, ι, S, SE, post⟩ := q
  simp only [ev] at post
  exact ⟨hid, env, st, ι, S, SE, (PostG.bind (RA := RL _) post).imp fun vs H1 ⟨ds, ι1, st1, X1, S1, rl, p1⟩ => ⟨hid, ds, st1, ι1, S1, rl, p1⟩⟩
theorem biB_ok (g : Gd c X) (gl : Glb W G C k X) {z : Str} (h : biB G c z = true) : Gl X z ∧ X.mg z = none ∧ (z == ("__debug__" : Str)) = false ∧ z ≠ "__name__" := by
  simp only [biB, Bool.and_eq_true, decide_eq_true_eq] at h
  obtain ⟨n1, n2, n3⟩ := plainName_ok h.2
  exact ⟨g.gl h.1.1, gl.bi _ h.1.2, n1, n3⟩
theorem bi_ok (g : Gd c X) (gl : Glb W G C k X) {bb : Bi} {z : Str} {es : E} {xs : List Expr} (hh : c.hot = false) (hp : bb.plain = true) (hz : z = bb.nm) (hb : biB G c z = true) (ns : NoSt (x :: xs)) (ha : PA X (x :: xs) (tEs W C Wx es)) :
    Okx W C Wx X (.bi bb es) (.Call (.Name z p) (x :: xs) [] pos) := by
  obtain ⟨b1, b2, b3, b4⟩ := biB_ok g gl hb
  subst hz
  have hc : X.calm = true := by rw [g.calm, hh]; rfl
  have un := gl.un
  have s1 := starEach_cons (es := xs) (env := X.env) (ns x List.mem_cons_self)
  have s2 := ns.tail.back (env := X.env) (pos := pos)
  have key : ∀ {id : String} {f : List D → Store → Res D}, (∀ ds st, pBi bb ds st = f ds st) → (∀ hid, CallR X (.builtin id) (rC (W.wh hid) f)) → bootBuiltins bb.nm = some (.builtin id) → Okx W C Wx X (.bi bb es) (.Call (.Name bb.nm p) (x :: xs) [] pos) := fun hf hr hv =>
    Okx.of (PE.imp (pe_callB (CallR.ex hr) b1 b2 hv ha b4 b3 s1 s2) (bi_args hf)) (fun _ => rfl) rfl
  have keyT : ∀ {id : String} {f : List D → Store → Res D}, (∀ ds st, pBi bb ds st = f ds st) → (∀ hid, CallR X (.type id) (rC (W.wh hid) f)) → bootBuiltins bb.nm = some (.type id) → Okx W C Wx X (.bi bb es) (.Call (.Name bb.nm p) (x :: xs) [] pos) := fun hf hr hv =>
    Okx.of (PE.imp (pe_callTy (CallR.ex hr) b1 b2 hv ha b4 b3 s1 s2) (bi_args hf)) (fun _ => rfl) rfl
  cases bb with
  | len => exact key (fun _ _ => rfl) (fun hid => cr_len gl.hK) (by show bootBuiltins "len" = _; decide +kernel)
  | all => exact key (fun _ _ => rfl) (fun hid => cr_all' hc) (by show bootBuiltins "all" = _; decide +kernel)
  | any => exact key (fun _ _ => rfl) (fun hid => cr_any' hc) (by show bootBuiltins "any" = _; decide +kernel)
  | sum => exact key (fun _ _ => rfl) (fun hid => cr_sum' hc) (by show bootBuiltins "sum" = _; decide +kernel)
  | min => exact key (fun _ _ => rfl) (fun hid => cr_min' hc (by omega)) (by show bootBuiltins "min" = _; decide +kernel)
  | max => exact key (fun _ _ => rfl) (fun hid => cr_max' hc) (by show bootBuiltins "max" = _; decide +kernel)
  | sorted => exact key (fun _ _ => rfl) (fun hid => cr_sorted' (by omega)) (by show bootBuiltins "sorted" = _; decide +kernel)
  | list mm => exact keyT (fun _ _ => rfl) (fun hid => cr_list' mm) (by show bootBuiltins "list" = _; decide +kernel)
  | tuple => exact keyT (fun _ _ => rfl) (fun hid => cr_tuple') (by show bootBuiltins "tuple" = _; decide +kernel)
  | int => exact keyT (fun _ _ => rfl) (fun hid => cr_int') (by show bootBuiltins "int" = _; decide +kernel)
  | dict => exact keyT (fun _ _ => rfl) (fun hid => cr_dict' gl.hP gl.hw hc (by omega)) (by show bootBuiltins "dict" = _; decide +kernel)
  | abs => exact key (fun _ _ => rfl) (fun hid => cr_abs') (by show bootBuiltins "abs" = _; decide +kernel)
  | _ => cases hp
theorem isi_ok (g : Gd c X) (gl : Glb W G C k X) {t : Ty} {z w : Str} {p2 : Pos} (hp : t.plain = true) (hz : z = "isinstance") (hw : w = t.nm) (hb : biB G c z = true) (hb2 : biB G c w = true) (ha : Okx W C Wx X a x) (ns : isStar x = false) :
    Okx W C Wx X (.isi t a) (.Call (.Name z p) [x, .Name w p2] [] pos) := by
  obtain ⟨b1, b2, b3, b4⟩ := biB_ok g gl hb
  obtain ⟨d1, d2, d3, d4⟩ := biB_ok g gl hb2
  subst hz; subst hw
  refine Okx.of (PE.imp (pe_callB call_isi b1 b2 (by decide +kernel) (pa_cons ha.pe (pa_cons (pe_bltn (v := .ty (tyS t)) d1 d2 (boot_ty hp) rfl d4 d3) pa_nil) (starEach_cons ns)) b4 b3 (starEach_cons ns)) fun σ H Q q => ?_) (fun _ => rfl) rfl
  obtain ⟨hid, env, st, ι, S, SE, post⟩ := q
  simp only [ev] at post
  refine ⟨hid, env, st, ι, S, SE, post.bind.imp fun vx H1 ⟨da, ι1, st1, X1, S1, ra, p1⟩ => ?_⟩
  cases e : pIsi t da st1 with
  | none => rw [e] at p1; exact p1.elim
  | some v =>
    rw [e] at p1
    have e2 : (kindOf st1 da).bind (isK t) = some v := by
      cases da with
      | ex cc => cases t <;> first | (cases hp; done) | (cases e; done)
      | _ => exact e
    cases hk : kindOf st1 da with
    | none => rw [hk] at e2; cases e2
    | some kd =>
      rw [hk] at e2
      exact ⟨vx, .ty (tyS t), _, _, v, rfl, .ty _, kind_tyx ra S1 hk, isK_kit hp e2, PostG.now p1 S1 (.bl _)⟩
theorem call_isX (hx : ∀ a id, W.hx = some (a, id) → ∃ oe x, (a, oe) ∈ X.pn ∧ Zc (.ref (W.ca id)) none oe ∧ (∃ vs, oe.data = .fields vs) ∧ (id, x) ∈ G.cls) (hC : ∀ id x, (id, x) ∈ G.cls → ExcC X.K (W.ca id)) :
    CallR X (.builtin "isinstance") (fun xs H Q => ∃ (a : Addr) (id : Nat) (cv : V) (u : Value) (b : Bool), W.hx = some (a, id) ∧ xs = [.ref a, cv] ∧ (∀ z, RelV cv z → z = u) ∧ PySem.W.kitOne X.K (.ref (W.ca id)) u = some b ∧ Q (.bl b) H) := by
  intro pins s σ H xs us Q I r h
  obtain ⟨a, id, cv, u, b, e0, rfl, hcv, ek, q⟩ := h
  obtain ⟨oe, x, hp, hz, ⟨vs, hv⟩, hm⟩ := hx a id e0
  have CC := hC id x hm
  cases r with
  | cons ra rr =>
    cases rr with
    | cons rc rr =>
      cases rr
      cases ra
      have e2 := hcv _ rc
      subst e2
      have hg := (I.pin (a, oe) (List.mem_append_left _ hp)).1
      have J : PySem.W.InstAt s.heap a oe (W.ca id) none := by
        cases oe with
        | mk oc od da sl =>
          obtain ⟨z1, z2⟩ := hz
          dsimp only at z1 z2 hv
          subst z1; subst z2; subst hv
          exact ⟨hg, rfl, rfl, trivial⟩
      have KX := PySem.W.handS_kitx_exc (x := a) (ox := oe) CC.hg CC.hk CC.hs CC.hd CC.ha CC.hn CC.ht CC.hm
      refine PySem.W.kia_one KX I.kIn J ek (fun z => nomatch z) fun tk => ?_
      exact ⟨.bl b, H, I.kept (t' := tk) (fun _ _ y => y), rfl, q⟩
theorem isiX_ok (g : Gd c X) (gl : Glb W G C k X) {t : Ty} {z w : Str} {p2 : Pos} (ht : (match t with
    | .exc id => decide (id ≠ 0) && glB c.sc w && decide ((id, w) ∈ G.cls) && plainName w
    | .valerr => decide (w = "ValueError") && biB G c w
    | _ => false) = true) (hz : z = "isinstance") (hb : biB G c z = true) (ha : Okx W C Wx X a x) (ns : isStar x = false) :
    Okx W C Wx X (.isi t a) (.Call (.Name z p) [x, .Name w p2] [] pos) := by
  obtain ⟨b1, b2, b3, b4⟩ := biB_ok g gl hb
  subst hz
  have key : ∀ (cv : V) (u : Value), PE X (.Name w p2) (tC cv) → (∀ y, RelV cv y → y = u) → (∀ id x' v, (id, x') ∈ G.cls → pIsi t (.ex id) [] = some v → PySem.W.kitOne X.K (.ref (W.ca id)) u = some v) → (∀ da st v, pIsi t da st = some v → ∃ id, da = .ex id) →
      Okx W C Wx X (.isi t a) (.Call (.Name ("isinstance" : Str) p) [x, .Name w p2] [] pos) := by
    intro cv u hpe hu hk hd
    refine Okx.of (PE.imp (pe_callB (call_isX (G := G) gl.hx fun id x h => (gl.exc id x h).1) b1 b2 (by decide +kernel) (pa_cons ha.pe (pa_cons hpe pa_nil) (starEach_cons ns)) b4 b3 (starEach_cons ns)) fun σ H Q q => ?_) (fun _ => rfl) rfl
    obtain ⟨hid, env, st, ι, S, SE, post⟩ := q
    simp only [ev] at post
    refine ⟨hid, env, st, ι, S, SE, post.bind.imp fun vx H1 ⟨da, ι1, st1, X1, S1, ra, p1⟩ => ?_⟩
    cases e : pIsi t da st1 with
    | none => rw [e] at p1; exact p1.elim
    | some v =>
      rw [e] at p1
      obtain ⟨id, rfl⟩ := hd _ _ _ e
      cases ra with
      | @ex a' _ hh =>
        obtain ⟨oe, x', _, _, _, hm⟩ := gl.hx a' id hh
        exact ⟨a', id, cv, u, v, hh, rfl, hu, hk id x' v hm e, PostG.now p1 S1 (.bl _)⟩
  cases t with
  | exc id' =>
    simp only [Bool.and_eq_true, decide_eq_true_eq] at ht
    obtain ⟨⟨⟨h1, h2⟩, h3⟩, h4⟩ := ht
    obtain ⟨n1, n2, n3⟩ := plainName_ok h4
    obtain ⟨m1, _⟩ := gl.cls _ _ h3
    refine key (.ref (W.ca id')) (.ref (W.ca id')) (pe_glob (g.gl h2) m1 rfl n1) (fun y hy => hy) (fun id x' v hm e => ?_) fun da st v e => ?_
    · cases e
      exact (gl.exc id x' hm).2.2.1 id' w h3 h1
    · cases da with
      | ex id => exact ⟨id, rfl⟩
      | _ =>
        exfalso
        simp only [pIsi] at e
        cases hk : kindOf st _ with
        | none => rw [hk] at e; cases e
        | some kd => rw [hk] at e; cases kd <;> cases e
  | valerr =>
    simp only [Bool.and_eq_true, decide_eq_true_eq] at ht
    obtain ⟨h1, h2⟩ := ht
    obtain ⟨d1, d2, d3, d4⟩ := biB_ok g gl h2
    subst h1
    refine key (.ty "ValueError") (.type "ValueError") (pe_bltn (v := .ty "ValueError") d1 d2 (by decide +kernel) rfl d4 d3) (fun y hy => hy) (fun id x' v hm e => ?_) fun da st v e => ?_
    · cases e
      exact (gl.exc id x' hm).2.1
    · cases da with
      | ex id => exact ⟨id, rfl⟩
      | _ =>
        exfalso
        simp only [pIsi] at e
        cases hk : kindOf st _ with
        | none => rw [hk] at e; cases e
        | some kd => rw [hk] at e; cases kd <;> cases e
  | _ => cases ht
theorem nev_ok {e : Expr} (h : (!isBoolOp e && plainTr e) = true) : Okx W C Wx X .nev e := by
  simp only [Bool.and_eq_true, Bool.not_eq_true'] at h
  refine Okx.of ⟨fun pins s σ H Q I q => ?_⟩ (fun whole => ?_) h.1
  · obtain ⟨hid, env, st, ι, S, SE, post⟩ := q
    exact post.elim
  · cases e <;> first | rfl | (simp [plainTr] at h)
theorem fnv_ok (g : Gd c X) (gl : Glb W G C k X) {f : Nat} {z : Str} (h2 : glB c.sc z = true) (h3 : (f, z) ∈ G.fns) (h4 : plainName z = true) : Okx W C Wx X (.fnv f) (.Name z pos) := by
  obtain ⟨n1, n2, n3⟩ := plainName_ok h4
  obtain ⟨m1, _⟩ := gl.fn _ _ h3
  refine Okx.of (PE.imp (pe_glob (v := .ref (W.fa f)) (g.gl h2) m1 rfl n1) fun σ H Q q => ?_) (fun _ => rfl) rfl
  obtain ⟨hid, env, st, ι, S, SE, post⟩ := q
  simp only [ev] at post
  exact post.now S (.fn f)
theorem callV_ok (g : Gd c X) (gl : Glb W G C k X) (tk : L2N.Takes X Wx) {fs : List Nat} {f es : E} {xa xb : Expr} {ps : Pos} {xs : List Expr} (hh : c.hot = false) (hf : (fs.all fun n => G.fns.any fun q => q.1 == n) = true) (hfe : Okx W C Wx X f (.Subscript xa xb ps)) (ns : NoSt (x :: xs)) (ha : PA X (x :: xs) (tEs W C Wx es)) :
    Okx W C Wx X (.callV fs f es) (.Call (.Subscript xa xb ps) (x :: xs) [] pos) := by
  refine Okx.of ⟨fun pins s σ H Q I q => ?_⟩ (fun _ => rfl) rfl
  obtain ⟨hid, env, st, ι, S, SE, post⟩ := q
  simp only [ev] at post
  refine Call_ (thn (hfe.pe.run pins s σ H _ I ⟨hid, env, st, ι, S, SE, post.bind⟩) fun u s1 ⟨vx, H1, I1, ru, da, ι1, st1, X1, S1, ra, p1⟩ => ?_) rfl
  cases da with
  | fn n =>
    dsimp only at p1
    split at p1
    · rename_i hn
      obtain ⟨⟨n', z⟩, hq, he⟩ := List.any_eq_true.mp (List.all_eq_true.mp hf n (List.contains_iff_mem.mp hn))
      have he : n' = n := beq_iff_eq.mp he
      subst he
      obtain ⟨m1, m2, fd, pp, m3, m4, _⟩ := gl.fn _ _ hq
      cases ra
      obtain rfl : u = Value.ref (W.fa n') := ru
      have hc : X.calm = true := by rw [g.calm, hh]; rfl
      refine PySem.W.callWith_K (h₀ := X.base) I.ok.mod.kin m2 (thn (ha.run pos pins s1 σ H1 _ I1 ⟨hid, env, st1, ι1, S1, SE.mono X1, PostG.bind (RA := RL _) p1⟩) fun us s2 ⟨vs, H2, I2, r, ds, ι2, st2, X2, S2, rl, p2⟩ => ⟨I2.kIn, ?_⟩) (starEach_cons (ns x List.mem_cons_self)) ns.tail.back
      exact run_fnS (E := fun σ => WE Wx σ) (m4 hc) (gl.room hc) m3 (L2N.passAt tk σ) I2 r ⟨hid, ds, st2, ι2, S2, rl, p2⟩
    · exact p1.elim
  | _ => exact p1.elim
theorem idx_ok (gl : Glb W G C k X) (hs : isSlice y = false) (ha : Okx W C Wx X a x) (hb : Okx W C Wx X b y) : Okx W C Wx X (.idx a b) (.Subscript x y pos) := by
  have un := gl.un
  refine Okx.of (PE.imp (pe_ix (IxR.ex fun hid => ix_any (W := W.wh hid) gl.hK gl.hP gl.hw (by omega)) ha.pe hb.pe (ix_plain hs)) fun σ H Q q => ?_) (fun _ => rfl) rfl
  obtain ⟨hid, env, st, ι, S, SE, post⟩ := q
  simp only [ev] at post
  refine ⟨hid, env, st, ι, S, SE, post.bind.imp fun vx H1 ⟨da, ι1, st1, X1, S1, ra, p1⟩ => ?_⟩
  refine ⟨hid, env, st1, ι1, S1, SE.mono X1, p1.bind.imp fun vy H2 ⟨db, ι2, st2, X2, S2, rb, p2⟩ => ?_⟩
  exact ⟨hid, da, db, st2, ι2, S2, ra.mono X2, rb, p2.prim⟩
theorem sl_ok {lo hi : E} {l u : Option Expr} {p2 : Pos} (ha : Okx W C Wx X a x) (hl : PO X l (tEo W C Wx lo)) (hu : PO X u (tEo W C Wx hi)) : Okx W C Wx X (.sl a lo hi) (.Subscript x (.Slice l u none p2) pos) := by
  refine Okx.of (PE.imp (pe_slice (SlR.ex fun hid => sl_any (W := W.wh hid)) ha.pe hl hu) fun σ H Q q => ?_) (fun _ => rfl) rfl
  obtain ⟨hid, env, st, ι, S, SE, post⟩ := q
  simp only [ev] at post
  refine ⟨hid, env, st, ι, S, SE, post.bind.imp fun vx H1 ⟨da, ι1, st1, X1, S1, ra, p1⟩ => ?_⟩
  refine ⟨hid, env, st1, ι1, S1, SE.mono X1, (PostG.bind (RA := EqR) p1).imp fun vl H2 ⟨dl, ι2, st2, X2, S2, el, p2⟩ => ?_⟩
  refine ⟨hid, env, st2, ι2, S2, (SE.mono X1).mono X2, (PostG.bind (RA := EqR) p2).imp fun vh H3 ⟨dh, ι3, st3, X3, S3, eh, p3⟩ => ?_⟩
  have el : dl = vl := el
  have eh : dh = vh := eh
  subst el; subst eh
  exact ⟨hid, da, st3, ι3, S3, (ra.mono X2).mono X3, p3.prim⟩
theorem asL_sq {ι : List Addr} {H : Hp} {st : Store} {d : D} {v : V} {K : PySem.W.Frag} (S : Sim W ι st H) (r : R W ι H d v) (h : (asL st d).isSome = true) : tyV K "list" v H := by
  obtain ⟨xs, e⟩ := Option.isSome_iff_exists.mp h
  obtain ⟨a, vs, e1, h1, _⟩ := R.asL r S e
  subst e1
  exact .inl ⟨rfl, vs, .inl h1⟩
theorem me_args {mm : Me} {o es : E} {f : D → List D → Store → Res D} {K : PySem.W.Frag} (hf : ∀ d ds st, pMe mm d ds st = f d ds st) (σ : L2.St) (H : Hp) (Q : VK) (q : tEv W C Wx (.me mm o es) σ H Q) : tBM K "list" (fun x xs H Q => ∃ hid, rM (W.wh hid) f x xs H Q) (tEv W C Wx o) (tEs W C Wx es) σ H Q := by
  obtain ⟨hid, env, st, ι, S, SE, post⟩ := q
  simp only [ev] at post
  refine ⟨hid, env, st, ι, S, SE, post.bind.imp fun vx H1 ⟨da, ι1, st1, X1, S1, ra, p1⟩ => ?_⟩
  split at p1
  · rename_i hs
    refine ⟨asL_sq S1 ra hs, hid, env, st1, ι1, S1, SE.mono X1, (PostG.bind (RA := RL _) p1).imp fun vs H2 ⟨ds, ι2, st2, X2, S2, rl, p2⟩ => ?_⟩
    rw [hf] at p2
    exact ⟨hid, da, ds, st2, ι2, S2, ra.mono X2, rl, p2.prim⟩
  · exact p1.elim
theorem me_args0 {mm : Me} {o : E} {f : D → List D → Store → Res D} {K : PySem.W.Frag} (hf : ∀ d ds st, pMe mm d ds st = f d ds st) (σ : L2.St) (H : Hp) (Q : VK) (q : tEv W C Wx (.me mm o .nil) σ H Q) : tBM0 K "list" (fun x xs H Q => ∃ hid, rM (W.wh hid) f x xs H Q) (tEv W C Wx o) σ H Q := by
  obtain ⟨hid, env, st, ι, S, SE, post⟩ := q
  simp only [ev] at post
  refine ⟨hid, env, st, ι, S, SE, post.bind.imp fun vx H1 ⟨da, ι1, st1, X1, S1, ra, p1⟩ => ?_⟩
  split at p1
  · rename_i hs
    simp only [evs, Res.bind] at p1
    rw [hf] at p1
    exact ⟨asL_sq S1 ra hs, hid, da, [], st1, ι1, S1, ra, .nil, p1.prim⟩
  · exact p1.elim
theorem me_known {mm : Me} (gl : Glb W G C k X) (hk : mm.known = true) : ∃ id f, (∀ d ds st, pMe mm d ds st = f d ds st) ∧ Slot "list" mm.nm id ∧ typeOf (.builtin id) = pure (.type "method_descriptor") ∧ ∀ hid, MtR X id (rM (W.wh hid) f) := by
  have un := gl.un
  cases mm with
  | append => exact ⟨_, mAppend, fun _ _ _ => rfl, F.slot_list_append, F.type_list_append, fun hid => mt_append'⟩
  | extend => exact ⟨_, mExtend, fun _ _ _ => rfl, F.slot_list_extend, F.type_list_extend, fun hid => mt_extend'⟩
  | pop => exact ⟨_, mPop, fun _ _ _ => rfl, F.slot_list_pop, F.type_list_pop, fun hid => mt_pop'⟩
  | popAt => exact ⟨_, mPopAt, fun _ _ _ => rfl, F.slot_list_pop, F.type_list_pop, fun hid => mt_popAt'⟩
  | clear => exact ⟨_, mClear, fun _ _ _ => rfl, F.slot_list_clear, F.type_list_clear, fun hid => mt_clear'⟩
  | index => exact ⟨_, mIndex, fun _ _ _ => rfl, F.slot_list_index, F.type_list_index, fun hid => mt_index' (by omega)⟩
  | count => exact ⟨_, mCount, fun _ _ _ => rfl, F.slot_list_count, F.type_list_count, fun hid => mt_count' (by omega)⟩
  | _ => cases hk
theorem me_ok (gl : Glb W G C k X) {mm : Me} {o es : E} {z : Expr} {xs : List Expr} {nm : Str} {ap : Pos} (hk : mm.known = true) (hn : nm = mm.nm) (ho : Okx W C Wx X o z) (hc0 : isCall0 z = false) (ns : NoSt (x :: xs)) (ha : PA X (x :: xs) (tEs W C Wx es)) (hl : (ap.endLine == pos.line) = true) (h20 : xs.length < 20) :
    Okx W C Wx X (.me mm o es) (.Call (.Attribute z nm ap) (x :: xs) [] pos) := by
  obtain ⟨id, f, hf, s1, s2, s3⟩ := me_known (W := W) gl hk
  subst hn
  exact Okx.of (PE.imp (pe_bm F.plainAttrs_list s1 s2 (MtR.ex s3) ho.pe ha (base_plain hc0) (ns.few (by rw [List.length_cons]; omega)) hl (starEach_cons (ns x List.mem_cons_self)) ns.tail.back) (me_args hf)) (fun _ => rfl) rfl
theorem me0_ok (gl : Glb W G C k X) {mm : Me} {o : E} {z : Expr} {nm : Str} {ap : Pos} (hk : mm.known = true) (hn : nm = mm.nm) (ho : Okx W C Wx X o z) (hc0 : isCall0 z = false) (hl : (ap.endLine == pos.line) = true) :
    Okx W C Wx X (.me mm o .nil) (.Call (.Attribute z nm ap) [] [] pos) := by
  obtain ⟨id, f, hf, s1, s2, s3⟩ := me_known (W := W) gl hk
  subst hn
  exact Okx.of (PE.imp (pe_bm0 F.plainAttrs_list s1 s2 (MtR.ex s3) ho.pe (base_plain hc0) hl) (me_args0 hf)) (fun _ => rfl) rfl
end
end Mn

set_option Elab.async false
set_option linter.all false
set_option maxRecDepth 100000
set_option maxHeartbeats 8000000
/-! Snd15: the evaluator is right about expressions. -/
namespace Mn
open PySem PySem.Spec PyProof.Rows L2
section
variable {W : Wd} {G : Gt} {C : Calls} {k : Nat} {Wx : WX} {X : Cx} {m a b : E} {e x y : Expr} {c : Ck} {pos p : Pos}
theorem rgV_rangeD {W' : Wd} {ι : List Addr} {H : Hp} : ∀ (lo : Int) (n : Nat), RL W' ι H (rangeD lo n) ((List.range n).map fun i => V.int (lo + (i : Nat)))
  | lo, 0 => .nil
  | lo, n + 1 => by
    rw [List.range_succ_eq_map, List.map_cons, List.map_map]
    have e : (fun i : Nat => V.int (lo + (i : Int))) ∘ Nat.succ = fun i : Nat => V.int (lo + 1 + (i : Int)) := by
      funext i
      simp only [Function.comp, Nat.succ_eq_add_one]
      congr 1
      omega
    rw [e]
    simp only [rangeD]
    refine .cons ?_ (rgV_rangeD (lo + 1) n)
    have : lo + ((0 : Nat) : Int) = lo := by omega
    rw [this]
    exact .int _
theorem lrng_ok (g : Gd c X) (gl : Glb W G C k X) {mm : Bool} {z w : Str} {p2 q2 : Pos} (hh : c.hot = false) (hz : z = "list") (hw : w = "range") (hb : biB G c z = true) (hb2 : biB G c w = true) (ha : Okx W C Wx X a x) (ns : isStar x = false) :
    Okx W C Wx X (.bi2 (.lrng mm) a) (.Call (.Name z p) [.Call (.Name w p2) [x] [] q2] [] pos) := by
  obtain ⟨b1, b2, b3, b4⟩ := biB_ok g gl hb
  obtain ⟨d1, d2, d3, d4⟩ := biB_ok g gl hb2
  subst hz; subst hw
  have hc : X.calm = true := by rw [g.calm, hh]; rfl
  refine Okx.of (PE.imp (pe_listRg hc b1 b2 (prg_1 d1 d2 ha.pe (starEach_cons ns))) fun σ H Q q => ?_) (fun _ => rfl) rfl
  obtain ⟨hid, env, st, ι, S, SE, post⟩ := q
  simp only [ev, evs] at post
  refine ⟨hid, env, st, ι, S, SE, ?_⟩
  cases hr : ev C a env st with
  | err => rw [hr] at post; exact post
  | exc cc st1 => rw [hr] at post; exact post
  | ok da st1 =>
    rw [hr] at post
    intro ι1 H1 vx X1 S1 ra
    simp only [Res.bind] at post
    have p1 := (PostG.ext post X1).prim
    simp only [pBi] at p1
    cases ra with
    | int n =>
      simp only [bRng] at p1
      split at p1
      · rename_i hn
        refine ⟨n, rfl, ?_⟩
        have rl : RL (W.wh hid) ι1 H1 (rangeD 0 n.toNat) (rgV 0 n) := by
          have := rgV_rangeD (W' := W.wh hid) (ι := ι1) (H := H1) 0 n.toNat
          unfold rgV
          rw [show (n - 0).toNat = n.toNat by simp]
          exact this
        obtain ⟨_, nl⟩ := PostR.newL p1 S1 rl
        exact ⟨⟨by omega, by omega, by omega, by omega, by omega⟩, nl⟩
      · exact p1.elim
    | _ => exact p1.elim
def tRgF (te : L2.St → Hp → (Int → Int → Hp → Prop) → Prop) : TE := fun σ H Q => te σ H fun a b H1 => RgOk a b ∧ ∀ (p : Addr) (o : Obj), H1 p = none → o.dict = none → Q (.ref p) (upd H1 p (.frz o (.tup (rgV a b))))
theorem pe_tupRgF {e : Expr} {te : L2.St → Hp → (Int → Int → Hp → Prop) → Prop} {p pos : Pos} (hc : X.calm = true) (hg : Gl X "tuple") (hm : X.mg "tuple" = none) (he : PRg X e te) (na : starEach [e] X.env = (false, eval e X.env) :: starEach [] X.env := by rfl) : PE X (.Call (.Name "tuple" p) [e] [] pos) (tRgF te) := by
  refine ⟨fun pins s σ H Q I hq => ?_⟩
  refine Call_ (ld_blt I hg hm boot_tuple (PyProof.Rows.callWith_type1 (args_cons (thn (he pins s σ H _ I hq) fun x s1 ⟨rr, lo, hi, t, u, v, H1, ex, hr, I1, ⟨b1, b2, b3, b4, b5⟩, q⟩ => args_nil ?_) na) na))
  subst ex
  refine call_tuple_range (n := (hi - lo).toNat) (I1.ok.hd hc) hr (small_one b1 b2 b3 b4) (rangeSize_nat lo hi) b5 fun h2 tk acc hk hv => ?_
  have I2 : Inv X pins σ H1 { s1 with heap := h2, toks := tk } := I1.kept hk
  have I3 := tup_laid I2 (t' := tk) (vs := rgV lo hi) (us := acc.toList) (by rw [rgV_length, sizeLine_eq]; omega) (vals_rg hv)
  simp only [tupO, Array.toArray_toList] at I3
  exact ⟨.ref h2.objs.size, _, I3, rfl, q _ _ (I2.hok.fresh (Nat.le_refl _)) rfl⟩
theorem trng_ok (g : Gd c X) (gl : Glb W G C k X) {z w : Str} {p2 q2 : Pos} (hh : c.hot = false) (hz : z = "tuple") (hw : w = "range") (hb : biB G c z = true) (hb2 : biB G c w = true) (ha : Okx W C Wx X a x) (ns : isStar x = false) :
    Okx W C Wx X (.bi2 .trng a) (.Call (.Name z p) [.Call (.Name w p2) [x] [] q2] [] pos) := by
  obtain ⟨b1, b2, b3, b4⟩ := biB_ok g gl hb
  obtain ⟨d1, d2, d3, d4⟩ := biB_ok g gl hb2
  subst hz; subst hw
  have hc : X.calm = true := by rw [g.calm, hh]; rfl
  refine Okx.of (PE.imp (pe_tupRgF hc b1 b2 (prg_1 d1 d2 ha.pe (starEach_cons ns))) fun σ H Q q => ?_) (fun _ => rfl) rfl
  obtain ⟨hid, env, st, ι, S, SE, post⟩ := q
  simp only [ev, evs] at post
  refine ⟨hid, env, st, ι, S, SE, ?_⟩
  cases hr : ev C a env st with
  | err => rw [hr] at post; exact post
  | exc cc st1 => rw [hr] at post; exact post
  | ok da st1 =>
    rw [hr] at post
    intro ι1 H1 vx X1 S1 ra
    simp only [Res.bind] at post
    have p1 := (PostG.ext post X1).prim
    simp only [pBi] at p1
    cases ra with
    | int n =>
      simp only [bRng] at p1
      split at p1
      · rename_i hn
        refine ⟨n, rfl, ?_⟩
        have rl : RL (W.wh hid) ι1 H1 (rangeD 0 n.toNat) (rgV 0 n) := by
          have := rgV_rangeD (W' := W.wh hid) (ι := ι1) (H := H1) 0 n.toNat
          unfold rgV
          rw [show (n - 0).toNat = n.toNat by simp]
          exact this
        obtain ⟨_, nl⟩ := PostR.newT p1 S1 rl
        exact ⟨⟨by omega, by omega, by omega, by omega, by omega⟩, nl⟩
      · exact p1.elim
    | _ => exact p1.elim
theorem sset_ok (g : Gd c X) (gl : Glb W G C k X) {z w : Str} {p2 q2 : Pos} (hh : c.hot = false) (hz : z = "sorted") (hw : w = "set") (hb : biB G c z = true) (hb2 : biB G c w = true) (ha : Okx W C Wx X a x) (ns : isStar x = false) :
    Okx W C Wx X (.bi2 .sset a) (.Call (.Name z p) [.Call (.Name w p2) [x] [] q2] [] pos) := by
  obtain ⟨b1, b2, b3, b4⟩ := biB_ok g gl hb
  obtain ⟨d1, d2, d3, d4⟩ := biB_ok g gl hb2
  subst hz; subst hw
  have hc : X.calm = true := by rw [g.calm, hh]; rfl
  refine Okx.of (PE.imp (pe_callB (cr_sortedSet hc) b1 b2 (by decide +kernel) (pa_cons (pe_callTy (cr_setTup hc) d1 d2 (by decide +kernel) (pa_cons ha.pe pa_nil (starEach_cons ns)) d4 d3 (starEach_cons ns)) pa_nil) b4 b3) fun σ H Q q => ?_) (fun _ => rfl) rfl
  obtain ⟨hid, env, st, ι, S, SE, post⟩ := q
  simp only [ev, evs] at post
  refine ⟨hid, env, st, ι, S, SE, ?_⟩
  cases hr : ev C a env st with
  | err => rw [hr] at post; exact post
  | exc cc st1 => rw [hr] at post; exact post
  | ok da st1 =>
    rw [hr] at post
    intro ι1 H1 vx X1 S1 ra
    simp only [Res.bind] at post
    have p1 := (PostG.ext post X1).prim
    simp only [pBi] at p1
    cases ra with
    | tup h1 h2 h3 =>
      simp only [bSset] at p1
      split at p1
      · rename_i is hd
        split at p1
        · rename_i h63
          have ev := h3.dInts hd
          subst ev
          refine ⟨_, is, rfl, h1.sq, ?_, fun q cc hq hcc => ?_⟩
          · have : scanBound = 1000000 ∨ 100 < scanBound := by first | exact .inl rfl | exact .inr (by decide)
            omega
          · refine ⟨q, _, cc, rfl, upd_same, by omega, fun ns' p' hs hm hl hp' => ?_⟩
            have e : ns' = sortU is := sorted_unique hs (sortU_sorted is) fun kk => by
              rw [hm kk, sortU_mem]
              simp
            subst e
            have S2 := S1.upd (o := SetO X.w q (fun j => decide (j ∈ is)) cc) hq
            have x2 := Ext.upd S1 (o := SetO X.w q (fun j => decide (j ∈ is)) cc) hq
            have p2 := PostR.ext p1 x2
            obtain ⟨_, nl⟩ := PostR.newL p2 S2 (by simpa [Function.comp] using (RL.ofInts (sortU is)))
            exact nl _ hp'
        · exact p1.elim
      · exact p1.elim
    | _ => exact p1.elim
end
end Mn

set_option Elab.async false
set_option linter.all false
set_option maxRecDepth 100000
set_option maxHeartbeats 8000000
/-! Snd16: what is walked; the induction over expressions. -/
namespace Mn
open PySem PySem.Spec PyProof.Rows L2
def ItA (K : PySem.W.Frag) (t : Bool) (a : Addr) : It := match t with
  | true => Itt K a
  | false => Itl K a
def iAny (K : PySem.W.Frag) (tl : TE) : TI := fun σ H R => tl σ H fun x H1 => ∃ t a, x = .ref a ∧ (∃ xs, SqB K t H1 a xs) ∧ R (match t with | true => Itt K a | false => Itl K a) H1
theorem turn_any {P : Program} {w : World} {K : PySem.W.Frag} {tg : Expr} : ∀ (t : Bool) (a it : Addr), Turn P w K tg (match t with | true => Itt K a | false => Itl K a) [it] it (fun i h => ItB t h it a i)
  | true, a, it => turn_tuple a it
  | false, a, it => turn_list a it
theorem pi_any {X : Cx} {tg l : Expr} {tl : TE} (hl : PE X l tl) : PI X tg l (iAny X.K tl) := by
  constructor
  intro pins s σ H R I h
  refine thn (hl.run pins s σ H _ I h) ?_
  rintro v s1 ⟨_, H1, J, rv, t, a, rfl, ⟨xs, hx⟩, q⟩
  cases rv
  have ⟨_, o, _, B, k, to⟩ := hx.begins J
  refine B.iter _ _ _ _ _ _ k ⟨_, _, _, _, H1, rfl, J.kept (t' := s1.toks) fun _ _ => Heap.get?_push_of_some _, turn_any t a _, to _ _ (Heap.get?_push_size _ B.free), fun c m => ?_, q⟩
  rw [List.mem_singleton.mp m]
  exact J.fpOk (Nat.le_refl _) J.fresh
theorem Wd.wh_self (W : Wd) : W.wh W.hid = W := rfl
section
variable {W : Wd} {G : Gt} {C : Calls} {k : Nat} {Wx : WX} {X : Cx} {m a b : E} {e x y tg : Expr} {c : Ck} {pos p : Pos}
theorem still_self {st : Store} {d : D} {w : Wk} (h : wkOf st d = some w) : still st w.src = true := by
  cases d with
  | tup xs => cases h; rfl
  | lst xs => cases h; rfl
  | ob n =>
    simp only [wkOf] at h
    cases ho : obL st n with
    | none => rw [ho] at h; cases h
    | some xs =>
      rw [ho] at h
      cases h
      simp only [still, ho, beqs_refl, Bool.and_self]
  | _ => cases h
theorem wAny_ok (ha : Okx W C Wx X a x) : PI X tg x (iEv W C Wx (.cons a .nil)) := by
  refine PI.imp (pi_any ha.pe) fun σ H Q q => ?_
  obtain ⟨hid, env, st, ι, S, SE, post⟩ := q
  simp only [evw] at post
  refine ⟨hid, env, st, ι, S, SE, (PostG.bind (RA := R _) post).imp fun vx H1 ⟨da, ι1, st1, X1, S1, ra, p1⟩ => ?_⟩
  split at p1
  · rename_i w hw
    obtain ⟨t, ad, et, e1, h⟩ := src_ok (K := X.K) S1 ra hw
    obtain ⟨vs, hq, _⟩ := h hid ι1 H1 st1 (HidX.refl _ _) (Ext.refl _ _) S1 (still_self hw)
    have wk := wok_list h
    refine ⟨t, ad, e1, ⟨vs, hq⟩, ?_⟩
    clear et
    cases t with
    | true => exact p1.now S1 wk
    | false => exact p1.now S1 wk
  · exact p1.elim
theorem wRng_ok (g : Gd c X) (gl : Glb W G C k X) {z : Str} (hz : z = "range") (hb : biB G c z = true) (ha : Okx W C Wx X a x) (ns : isStar x = false) : PI X tg (.Call (.Name z p) [x] [] pos) (iEv W C Wx (.rng a)) := by
  obtain ⟨b1, b2, b3, b4⟩ := biB_ok g gl hb
  subst hz
  refine PI.imp (pi_range1 b1 b2 (pa_cons ha.pe pa_nil (starEach_cons ns)) (starEach_cons ns)) fun σ H Q q => ?_
  obtain ⟨hid, env, st, ι, S, SE, post⟩ := q
  simp only [evw] at post
  refine ⟨hid, env, st, ι, S, SE, (PostG.bind (RA := R _) post).imp fun vx H1 ⟨da, ι1, st1, X1, S1, ra, p1⟩ => ?_⟩
  cases ra with
  | int n =>
    dsimp only at p1
    split at p1
    · rename_i hs
      simp only [small, Bool.and_eq_true, decide_eq_true_eq] at hs
      exact ⟨n, rfl, hs.1, hs.2, p1.now S1 (wok_range 0 n.toNat)⟩
    · exact p1.elim
  | _ => exact p1.elim
theorem wRng2_ok (g : Gd c X) (gl : Glb W G C k X) {z : Str} (hz : z = "range") (hb : biB G c z = true) (ha : Okx W C Wx X a x) (hb' : Okx W C Wx X b y) (ns : isStar x = false) (ns2 : isStar y = false) : PI X tg (.Call (.Name z p) [x, y] [] pos) (iEv W C Wx (.rng2 a b)) := by
  obtain ⟨b1, b2, b3, b4⟩ := biB_ok g gl hb
  subst hz
  refine PI.imp (pi_range2 b1 b2 (pa_cons ha.pe (pa_cons hb'.pe pa_nil (starEach_cons ns2)) (starEach_cons ns)) (by rw [starEach_cons ns, starEach_cons ns2]; rfl) (starEach_cons ns2)) fun σ H Q q => ?_
  obtain ⟨hid, env, st, ι, S, SE, post⟩ := q
  simp only [evw] at post
  refine ⟨hid, env, st, ι, S, SE, (PostG.bind (RA := R _) post).imp fun vx H1 ⟨da, ι1, st1, X1, S1, ra, p1⟩ => ?_⟩
  refine ⟨hid, env, st1, ι1, S1, SE.mono X1, (PostG.bind (RA := R _) p1).imp fun vy H2 ⟨db, ι2, st2, X2, S2, rb, p2⟩ => ?_⟩
  cases ra with
  | int i =>
    cases rb with
    | int j =>
      dsimp only at p2
      split at p2
      · rename_i hs
        simp only [small, Bool.and_eq_true, decide_eq_true_eq] at hs
        exact ⟨i, j, rfl, ⟨hs.1.1, hs.1.2, hs.2.1, hs.2.2⟩, p2.now S2 (wok_range i (j - i).toNat)⟩
      · exact p2.elim
    | _ => exact p2.elim
  | _ => exact p2.elim
theorem wEnu_ok (g : Gd c X) (gl : Glb W G C k X) {z : Str} {es : List Expr} {kk : Nat} {tp : Pos} (hz : z = "enumerate") (hb : biB G c z = true) (ha : Okx W C Wx X a x) (ns : isStar x = false) : PI X (.Tuple es kk tp) (.Call (.Name z p) [x] [] pos) (iEv W C Wx (.enu a)) := by
  obtain ⟨b1, b2, b3, b4⟩ := biB_ok g gl hb
  subst hz
  refine PI.imp (pi_enumB b1 b2 (pa_cons ha.pe pa_nil (starEach_cons ns)) (starEach_cons ns)) fun σ H Q q => ?_
  obtain ⟨hid, env, st, ι, S, SE, post⟩ := q
  simp only [evw] at post
  refine ⟨hid, env, st, ι, S, SE, (PostG.bind (RA := R _) post).imp fun vx H1 ⟨da, ι1, st1, X1, S1, ra, p1⟩ => ?_⟩
  split at p1
  · rename_i w hw
    obtain ⟨t, ad, et, e1, h⟩ := src_ok (K := X.K) S1 ra hw
    obtain ⟨vs, hq, _⟩ := h hid ι1 H1 st1 (HidX.refl _ _) (Ext.refl _ _) S1 (still_self hw)
    exact ⟨t, ad, vs, by rw [e1], hq, p1.now S1 (wok_enum h)⟩
  · exact p1.elim
theorem wZip_ok (g : Gd c X) (gl : Glb W G C k X) {z : Str} {es : List Expr} {kk : Nat} {tp : Pos} (hz : z = "zip") (hh : c.hot = false) (hb : biB G c z = true) (ha : Okx W C Wx X a x) (hb' : Okx W C Wx X b y) (ns : isStar x = false) (ns2 : isStar y = false) : PI X (.Tuple es kk tp) (.Call (.Name z p) [x, y] [] pos) (iEv W C Wx (.zip a b)) := by
  obtain ⟨b1, b2, b3, b4⟩ := biB_ok g gl hb
  subst hz
  have hc : X.calm = true := by rw [g.calm, hh]; rfl
  refine PI.imp (pi_zipB b1 b2 (pa_cons ha.pe (pa_cons hb'.pe pa_nil (starEach_cons ns2)) (starEach_cons ns)) (starEach_cons ns) (NoSt.back fun z hz => by rw [List.mem_singleton.mp hz]; exact ns2)) fun σ H Q q => ?_
  obtain ⟨hid, env, st, ι, S, SE, post⟩ := q
  simp only [evw] at post
  refine ⟨hid, env, st, ι, S, SE, (PostG.bind (RA := R _) post).imp fun vx H1 ⟨da, ι1, st1, X1, S1, ra, p1⟩ => ?_⟩
  refine ⟨hid, env, st1, ι1, S1, SE.mono X1, (PostG.bind (RA := R _) p1).imp fun vy H2 ⟨db, ι2, st2, X2, S2, rb, p2⟩ => ?_⟩
  split at p2
  · rename_i w v hw hv
    obtain ⟨t, ad, et, e1, h⟩ := src_ok (K := X.K) S2 (ra.mono X2) hw
    obtain ⟨u, ad2, et2, e2, h2⟩ := src_ok (K := X.K) S2 rb hv
    obtain ⟨vs, hq, _⟩ := h hid ι2 H2 st2 (HidX.refl _ _) (Ext.refl _ _) S2 (still_self hw)
    obtain ⟨vs2, hq2, _⟩ := h2 hid ι2 H2 st2 (HidX.refl _ _) (Ext.refl _ _) S2 (still_self hv)
    exact ⟨t, u, ad, ad2, vs, vs2, by rw [e1, e2], hq, hq2, p2.now S2 (wok_zip h h2)⟩
  · exact p2.elim
theorem lcx_ok (g : Gd c X) {mm : Bool} {own : List Nat} {t : Tg} {it cc e' : E} {elt iter : Expr} {ifs : List Expr} {scope : Scope} (hh : c.hot = false)
    (hi : PI X tg iter (iEv W C Wx it)) (hf : isSet iter = false)
    (hb : blkC c.N c.sc scope (own.map fun i => ((c.N[i]?).getD ("" : Str), i)) = true) (ho : (t.slots.all fun i => decide (i ∈ own)) = true)
    (ht : ∀ X', Gd ⟨c.N, relS scope c.sc, fun x => scope.names.lookup x == some .cell, c.hot⟩ X' → PG X' tg (gEv W t))
    (hr : ∀ X', Gd ⟨c.N, relS scope c.sc, fun x => scope.names.lookup x == some .cell, c.hot⟩ X' → (∃ s H env fp, X' = X.blk s H scope env fp) → L2N.Takes X' noX → PTs X' ifs (tEt W C noX cc) ∧ Okx W C noX X' e' elt) :
    Okx W C Wx X (.lc mm own t it cc e') (.ListComp elt [⟨tg, iter, ifs, 0⟩] scope pos) := by
  have hc : X.calm = true := by rw [g.calm, hh]; rfl
  have gd : ∀ s H Cc cl fp, Gd ⟨c.N, relS scope c.sc, fun x => scope.names.lookup x == some .cell, c.hot⟩ (X.blk s H scope (compEnvC scope cl Cc X.env) fp) := fun s H Cc cl fp =>
    ⟨g.N, g.nd, by rw [← g.sc]; rfl, rfl, g.calm⟩
  have tk : ∀ s H Cc cl fp, L2N.Takes (X.blk s H scope (compEnvC scope cl Cc X.env) fp) noX := fun s H Cc cl fp u s' ⟨a, B, sI, pins, σ, H, cls, d, e, I, nb, up, sky, na, os, ag, w⟩ => w
  have bo := blkOk_by hb
  rw [← g.N, ← g.sc] at bo
  have em : (own.map fun i => ((X.N[i]?).getD ("" : Str), i)).map (·.2) = own := by
    rw [List.map_map]
    exact List.map_id' own
  refine Okx.of (PE.imp (pe_lc hc (by rw [g.N]; exact g.nd) hi bo (fun s H Cc cl fp => ht _ (gd s H Cc cl fp)) (fun s H Cc cl fp => (hr _ (gd s H Cc cl fp) ⟨s, H, _, fp, rfl⟩ (tk s H Cc cl fp)).1) (fun s H Cc cl fp => (hr _ (gd s H Cc cl fp) ⟨s, H, _, fp, rfl⟩ (tk s H Cc cl fp)).2.pe) (folded hf)) fun σ H Q q => ?_) (fun _ => rfl) rfl
  rw [em]
  exact lc_ok (fun i hi => of_decide_eq_true (List.all_eq_true.mp ho i hi)) σ H Q q
theorem Glb.blk (gl : Glb W G C k X) (hc : X.calm = true) {s : Shared} {H : Hp} {scope : Scope} {env : PySem.Env} {fp : List Addr} : Glb W G C k (X.blk s H scope env fp) := ⟨gl.hP, gl.hw, gl.hK, gl.un, gl.room, gl.fn, gl.con, gl.bi, gl.cls, gl.exc, gl.calmx, fun a id e => by rw [gl.calmx hc] at e; cases e⟩
theorem Glb.tr (gl : Glb W G C k X) (hc : X.calm = true) {pn : List (Addr × Obj)} {xe : Value → Shared → Prop} : Glb W G C k (X.tr pn xe) := ⟨gl.hP, gl.hw, gl.hK, gl.un, gl.room, gl.fn, gl.con, gl.bi, gl.cls, gl.exc, gl.calmx, fun a id e => by rw [gl.calmx hc] at e; cases e⟩
theorem Glb.suite (gl : Glb W G C k X) (hc : X.calm = true) {a : Addr} {pn : List (Addr × Obj)} : Glb W G C k (X.suite a pn) := ⟨gl.hP, gl.hw, gl.hK, gl.un, fun z => (nomatch z), fun id x h => let ⟨m1, m2, fd, ps, m3, m4, m5⟩ := gl.fn id x h; ⟨m1, m2, fd, ps, m3, fun z => (nomatch z), m5⟩, gl.con, gl.bi, gl.cls, gl.exc, fun z => (nomatch z), fun a id e => by rw [gl.calmx hc] at e; cases e⟩
theorem chkL_ns {c : Ck} : ∀ {m : E} {es : List Expr}, chkL G c m es = true → NoSt es
  | m, [], _ => fun e he => nomatch he
  | m, x :: xs, h => by
    cases m with
    | cons e es =>
      simp only [chkL, Bool.and_eq_true, Bool.not_eq_true'] at h
      intro z hz
      rcases List.mem_cons.mp hz with rfl | hz
      · exact h.1.1
      · exact chkL_ns (m := es) h.2 z hz
    | _ => simp [chkL] at h
end
end Mn

set_option Elab.async false
set_option linter.all false
set_option maxRecDepth 100000
set_option maxHeartbeats 16000000
/-! Snd17: the induction over expressions. -/
namespace Mn
open PySem PySem.Spec PyProof.Rows L2
section
variable {W : Wd} {G : Gt} {C : Calls} {k : Nat}
theorem nope {P : Prop} (h : false = true) : P := Bool.noConfusion h
theorem andT {a b : Bool} (h : (a && b) = true) : a = true ∧ b = true := Bool.and_eq_true_iff.mp h
theorem notF {a : Bool} (h : (!a) = true) : a = false := by simpa using h
mutual
theorem ev_ok : ∀ (m : E) (c : Ck) (e : Expr) (X : Cx) (Wx : WX), chkE G c m e = true → Gd c X → Glb W G C k X → L2N.Takes X Wx → Okx W C Wx X m e
  | .var i, c, e, X, Wx, h, g, gl, tk => by
    cases e with
    | Name x p => exact var_ok g (by simpa only [chkE] using h)
    | _ => exact nope h
  | .con d, c, e, X, Wx, h, g, gl, tk => by
    cases e with
    | Constant kk j p => exact con_ok (by simpa only [chkE] using h)
    | _ => exact nope h
  | .glo z d, c, e, X, Wx, h, g, gl, tk => by
    cases e with
    | Name x p => exact glo_ok g gl (by simpa only [chkE] using h)
    | _ => exact nope h
  | .tup es, c, e, X, Wx, h, g, gl, tk => by
    cases e with
    | Tuple xs kk p => exact tup_ok (evs_ok es c xs X Wx (by simpa only [chkE] using h) g gl tk)
    | _ => exact nope h
  | .lst m es, c, e, X, Wx, h, g, gl, tk => by
    cases e with
    | List xs p => exact lst_ok (evs_ok es c xs X Wx (by simpa only [chkE] using h) g gl tk)
    | _ => exact nope h
  | .bin o a b, c, e, X, Wx, h, g, gl, tk => by
    cases e with
    | BinOp x op y p =>
      simp only [chkE, Bool.and_eq_true] at h
      exact bin_ok h.1.1 (ev_ok a c x X Wx h.1.2 g gl tk) (ev_ok b c y X Wx h.2 g gl tk)
    | _ => exact nope h
  | .neg a, c, e, X, Wx, h, g, gl, tk => by
    cases e with
    | UnaryOp op x p =>
      cases op with
      | USub => exact neg_ok (ev_ok a c x X Wx (by simpa only [chkE] using h) g gl tk)
      | _ => exact nope h
    | _ => exact nope h
  | .not a, c, e, X, Wx, h, g, gl, tk => by
    cases e with
    | UnaryOp op x p =>
      cases op with
      | Not => exact not_ok (ev_ok a c x X Wx (by simpa only [chkE] using h) g gl tk)
      | _ => exact nope h
    | _ => exact nope h
  | .and a b, c, e, X, Wx, h, g, gl, tk => by
    cases e with
    | BoolOp op vs p =>
      cases op with
      | And =>
        cases vs with
        | nil => exact nope h
        | cons x vs =>
          cases vs with
          | nil => exact nope h
          | cons y r =>
            simp only [chkE, Bool.and_eq_true] at h
            exact and_ok (ev_ok a c x X Wx h.1 g gl tk) (ev_ok b c _ X Wx h.2 g gl tk)
      | _ => exact nope h
    | _ => exact nope h
  | .or a b, c, e, X, Wx, h, g, gl, tk => by
    cases e with
    | BoolOp op vs p =>
      cases op with
      | Or =>
        cases vs with
        | nil => exact nope h
        | cons x vs =>
          cases vs with
          | nil => exact nope h
          | cons y r =>
            simp only [chkE, Bool.and_eq_true] at h
            exact or_ok (ev_ok a c x X Wx h.1 g gl tk) (ev_ok b c _ X Wx h.2 g gl tk)
      | _ => exact nope h
    | _ => exact nope h
  | .orV a b, c, e, X, Wx, h, g, gl, tk => by
    cases e with
    | BoolOp op vs p =>
      cases op with
      | Or =>
        cases vs with
        | nil => exact nope h
        | cons x vs =>
          cases vs with
          | nil => exact nope h
          | cons y r =>
            cases r with
            | nil =>
              simp only [chkE, Bool.and_eq_true] at h
              exact orV_ok h.2 (ev_ok a c x X Wx h.1.1 g gl tk) (ev_ok b c _ X Wx h.1.2 g gl tk)
            | cons _ _ => exact nope h
      | _ => exact nope h
    | _ => exact nope h
  | .cmp o a b, c, e, X, Wx, h, g, gl, tk => by
    cases e with
    | Compare x ops ys p =>
      rcases ops with _ | ⟨op, _ | ⟨op2, ops⟩⟩
      · exact nope h
      · rcases ys with _ | ⟨y, _ | ⟨y2, ys⟩⟩
        · exact nope h
        · simp only [chkE, Bool.and_eq_true, Bool.not_eq_true'] at h
          exact cmp_ok gl h.1.1.1 h.2 (ev_ok a c x X Wx h.1.1.2 g gl tk) (ev_ok b c y X Wx h.1.2 g gl tk)
        · exact nope h
      · exact nope h
    | _ => exact nope h
  | .chain o p a b d, c, e, X, Wx, h, g, gl, tk => by
    cases e with
    | Compare x ops ys p =>
      rcases ops with _ | ⟨op, _ | ⟨op2, _ | ⟨_, ops⟩⟩⟩
      · exact nope h
      · exact nope h
      · rcases ys with _ | ⟨y, _ | ⟨y2, _ | ⟨_, ys⟩⟩⟩
        · exact nope h
        · exact nope h
        · simp only [chkE, Bool.and_eq_true, Bool.not_eq_true'] at h
          exact chain_ok gl h.1.1.1.1.1.1 h.1.1.1.1.1.2 h.2 (ev_ok a c x X Wx h.1.1.1.1.2 g gl tk) (ev_ok b c y X Wx h.1.1.1.2 g gl tk) (ev_ok d c y2 X Wx h.1.1.2 g gl tk)
        · exact nope h
      · exact nope h
    | _ => exact nope h
  | .chn o p q a b d f, c, e, X, Wx, h, g, gl, tk => by
    cases e with
    | Compare x ops ys p =>
      rcases ops with _ | ⟨op, _ | ⟨op2, _ | ⟨op3, _ | ⟨_, ops⟩⟩⟩⟩
      · exact nope h
      · exact nope h
      · exact nope h
      · rcases ys with _ | ⟨y, _ | ⟨y2, _ | ⟨y3, _ | ⟨_, ys⟩⟩⟩⟩
        · exact nope h
        · exact nope h
        · exact nope h
        · simp only [chkE, Bool.and_eq_true, Bool.not_eq_true'] at h
          exact chn_ok gl h.1.1.1.1.1.1.1 h.1.1.1.1.1.1.2 h.1.1.1.1.1.2 h.2 (ev_ok a c x X Wx h.1.1.1.1.2 g gl tk) (ev_ok b c y X Wx h.1.1.1.2 g gl tk) (ev_ok d c y2 X Wx h.1.1.2 g gl tk) (ev_ok f c y3 X Wx h.1.2 g gl tk)
        · exact nope h
      · exact nope h
    | _ => exact nope h
  | .isN a, c, e, X, Wx, h, g, gl, tk => by
    cases e with
    | Compare x ops ys p =>
      have h : (nonPat false ops ys && chkE G c a x) = true := h
      obtain ⟨h1, h2⟩ := andT h
      obtain ⟨j, p', e1, e2⟩ := nonPat_eq h1
      subst e1; subst e2
      exact isN_ok (ev_ok a c x X Wx h2 g gl tk)
    | _ => exact nope h
  | .notN a, c, e, X, Wx, h, g, gl, tk => by
    cases e with
    | Compare x ops ys p =>
      have h : (nonPat true ops ys && chkE G c a x) = true := h
      obtain ⟨h1, h2⟩ := andT h
      obtain ⟨j, p', e1, e2⟩ := nonPat_eq h1
      subst e1; subst e2
      exact notN_ok (ev_ok a c x X Wx h2 g gl tk)
    | _ => exact nope h
  | .ite t a b, c, e, X, Wx, h, g, gl, tk => by
    cases e with
    | IfExp x y z p =>
      simp only [chkE, Bool.and_eq_true] at h
      exact ite_ok (ev_ok t c x X Wx h.1.1 g gl tk) (ev_ok a c y X Wx h.1.2 g gl tk) (ev_ok b c z X Wx h.2 g gl tk)
    | _ => exact nope h
  | .call f es, c, e, X, Wx, h, g, gl, tk => by
    cases e with
    | Call fe as ks p =>
      cases fe with
      | Name z p2 =>
        rcases as with _ | ⟨a, as⟩
        · exact nope h
        · rcases ks with _ | ⟨kw, ks⟩
          · simp only [chkE, Bool.and_eq_true, Bool.not_eq_true', decide_eq_true_eq] at h
            exact call_ok g gl tk h.1.1.1.1 h.1.1.1.2 h.1.1.2 h.1.2 (chkL_ns h.2) (evs_ok es c (a :: as) X Wx h.2 g gl tk)
          · exact nope h
      | _ => exact nope h
    | _ => exact nope h
  | .bi b es, c, e, X, Wx, h, g, gl, tk => by
    cases e with
    | Call fe as ks p =>
      cases fe with
      | Name z p2 =>
        rcases as with _ | ⟨a, as⟩
        · exact nope h
        · rcases ks with _ | ⟨kw, ks⟩
          · have h' : (!c.hot && b.plain && decide (z = b.nm) && biB G c z && chkL G c es (a :: as)) = true := h
            simp only [Bool.and_eq_true, Bool.not_eq_true', decide_eq_true_eq] at h'
            exact bi_ok g gl h'.1.1.1.1 h'.1.1.1.2 h'.1.1.2 h'.1.2 (chkL_ns h'.2) (evs_ok es c (a :: as) X Wx h'.2 g gl tk)
          · exact nope h
      | _ => exact nope h
    | _ => exact nope h
  | .bi2 b m, c, e, X, Wx, h, g, gl, tk => by
    have h' : (match nest e with
      | some (x, y, a) => !c.hot && b.pair x y && biB G c x && biB G c y && chkE G c m a && !isStar a
      | none => false) = true := h
    cases hn : nest e with
    | none => rw [hn] at h'; cases h'
    | some q =>
      obtain ⟨x, y, a⟩ := q
      rw [hn] at h'
      simp only [Bool.and_eq_true, Bool.not_eq_true'] at h'
      obtain ⟨p1, p2, p3, p4, e1⟩ := nest_eq hn
      subst e1
      cases b with
      | sset =>
        have hp := andT h'.1.1.1.1.2
        exact sset_ok g gl h'.1.1.1.1.1 (of_decide_eq_true hp.1) (of_decide_eq_true hp.2) h'.1.1.1.2 h'.1.1.2 (ev_ok m c a X Wx h'.1.2 g gl tk) h'.2
      | lrng mm =>
        have hp := andT h'.1.1.1.1.2
        exact lrng_ok g gl h'.1.1.1.1.1 (of_decide_eq_true hp.1) (of_decide_eq_true hp.2) h'.1.1.1.2 h'.1.1.2 (ev_ok m c a X Wx h'.1.2 g gl tk) h'.2
      | trng =>
        have hp := andT h'.1.1.1.1.2
        exact trng_ok g gl h'.1.1.1.1.1 (of_decide_eq_true hp.1) (of_decide_eq_true hp.2) h'.1.1.1.2 h'.1.1.2 (ev_ok m c a X Wx h'.1.2 g gl tk) h'.2
      | _ => exact nope h'.1.1.1.1.2
  | .isi t a, c, e, X, Wx, h, g, gl, tk => by
    cases e with
    | Call fe as ks p =>
      cases fe with
      | Name z p2 =>
        rcases as with _ | ⟨x, _ | ⟨y, _ | ⟨_, as⟩⟩⟩
        · exact nope h
        · exact nope h
        · cases y with
          | Name w p3 =>
            rcases ks with _ | ⟨kw, ks⟩
            · simp only [chkE, Bool.and_eq_true, Bool.not_eq_true', decide_eq_true_eq] at h
              have hA := ev_ok a c x X Wx h.1.1.2 g gl tk
              cases t with
              | exc id => exact isiX_ok (t := .exc id) g gl (by simpa only [Bool.and_eq_true, decide_eq_true_eq] using h.2) h.1.1.1.1 h.1.1.1.2 hA h.1.2
              | valerr => exact isiX_ok (t := .valerr) g gl (by simpa only [Bool.and_eq_true, decide_eq_true_eq] using h.2) h.1.1.1.1 h.1.1.1.2 hA h.1.2
              | _ =>
                have h2 := h.2
                simp only [Bool.and_eq_true, decide_eq_true_eq] at h2
                exact isi_ok g gl h2.1.1 h.1.1.1.1 h2.1.2 h.1.1.1.2 h2.2 hA h.1.2
            · exact nope h
          | _ => exact nope h
        · cases y <;> exact nope h
      | _ => exact nope h
    | _ => exact nope h
  | .me m o es, c, e, X, Wx, h, g, gl, tk => by
    cases e with
    | Call fe as ks p =>
      cases fe with
      | Attribute x nm ap =>
        rcases ks with _ | ⟨kw, ks⟩
        · have h : (m.known && decide (nm = m.nm) && chkE G c o x && !isCall0 x && chkL G c es as && (ap.endLine == p.line) && decide (as.length < 20)) = true := h
          simp only [Bool.and_eq_true, Bool.not_eq_true', decide_eq_true_eq] at h
          rcases as with _ | ⟨a, as⟩
          · cases es with
            | nil => exact me0_ok gl h.1.1.1.1.1.1 h.1.1.1.1.1.2 (ev_ok o c x X Wx h.1.1.1.1.2 g gl tk) h.1.1.1.2 h.1.2
            | _ => exact nope h.1.1.2
          · have h20 := h.2
            rw [List.length_cons] at h20
            exact me_ok gl h.1.1.1.1.1.1 h.1.1.1.1.1.2 (ev_ok o c x X Wx h.1.1.1.1.2 g gl tk) h.1.1.1.2 (chkL_ns h.1.1.2) (evs_ok es c (a :: as) X Wx h.1.1.2 g gl tk) h.1.2 (by omega)
        · exact nope h
      | _ => exact nope h
    | _ => exact nope h
  | .idx a i, c, e, X, Wx, h, g, gl, tk => by
    cases e with
    | Subscript x y p =>
      simp only [chkE, Bool.and_eq_true, Bool.not_eq_true'] at h
      exact idx_ok gl h.2 (ev_ok a c x X Wx h.1.1 g gl tk) (ev_ok i c y X Wx h.1.2 g gl tk)
    | _ => exact nope h
  | .sl a lo hi, c, e, X, Wx, h, g, gl, tk => by
    cases e with
    | Subscript x y p =>
      cases y with
      | Slice l u s p2 =>
        cases s with
        | none =>
          simp only [chkE, Bool.and_eq_true] at h
          exact sl_ok (ev_ok a c x X Wx h.1.1 g gl tk) (evo_ok lo c l X Wx h.1.2 g gl tk) (evo_ok hi c u X Wx h.2 g gl tk)
        | some _ => exact nope h
      | _ => exact nope h
    | _ => exact nope h
  | .lc mm own t it cc e', c, e, X, Wx, h, g, gl, tk => by
    cases e with
    | ListComp elt gens scope p =>
      rcases gens with _ | ⟨⟨tg, iter, ifs, as⟩, _ | ⟨_, gens⟩⟩
      · exact nope h
      · simp only [chkE, Bool.and_eq_true, Bool.not_eq_true', decide_eq_true_eq] at h
        obtain ⟨⟨⟨hh, ha⟩, hw⟩, ⟨⟨⟨hb, ho⟩, ht⟩, hcc⟩, he⟩ := h
        subst ha
        obtain ⟨hi, hf⟩ := evw_ok it c iter tg X Wx hw hh g gl tk
        refine lcx_ok g hh hi hf hb ho (fun X' g' => tg_ok g' t tg ht) fun X' g' hx tk' => ?_
        obtain ⟨s, H, env, fp, rfl⟩ := hx
        exact ⟨evc_ok cc _ ifs _ noX hcc g' (gl.blk (by rw [g.calm, hh]; rfl)) tk', ev_ok e' _ elt _ noX he g' (gl.blk (by rw [g.calm, hh]; rfl)) tk'⟩
      · exact nope h
    | _ => exact nope h
  | .dic, c, e, X, Wx, h, g, gl, tk => by
    cases e with
    | Dict ks vs p =>
      rcases ks with _ | ⟨_, ks⟩
      · rcases vs with _ | ⟨_, vs⟩
        · exact Okx.of pe_dict0 (fun _ => rfl) rfl
        · exact nope h
      · exact nope h
    | _ => exact nope h
  | .nev, c, e, X, Wx, h, g, gl, tk => nev_ok (by cases e <;> exact h)
  | .fnv f, c, e, X, Wx, h, g, gl, tk => by
    cases e with
    | Name z p =>
      have h' : (!c.hot && glB c.sc z && decide ((f, z) ∈ G.fns) && plainName z) = true := h
      simp only [Bool.and_eq_true, decide_eq_true_eq] at h'
      exact fnv_ok g gl h'.1.1.2 h'.1.2 h'.2
    | _ => exact nope h
  | .nil, c, e, X, Wx, h, g, gl, tk => by exact nope h
  | .cons _ _, c, e, X, Wx, h, g, gl, tk => by exact nope h
  | .callV fs f es, c, e, X, Wx, h, g, gl, tk => by
    cases e with
    | Call fe as ks p =>
      cases fe with
      | Subscript xa xb p2 =>
        rcases as with _ | ⟨a, as⟩
        · exact nope h
        · rcases ks with _ | ⟨kw, ks⟩
          · have h' : (!c.hot && (fs.all fun n => G.fns.any fun q => q.1 == n) && chkE G c f (.Subscript xa xb p2) && chkL G c es (a :: as)) = true := h
            simp only [Bool.and_eq_true, Bool.not_eq_true'] at h'
            exact callV_ok g gl tk h'.1.1.1 h'.1.1.2 (ev_ok f c _ X Wx h'.1.2 g gl tk) (chkL_ns h'.2) (evs_ok es c (a :: as) X Wx h'.2 g gl tk)
          · exact nope h
      | _ => exact nope h
    | _ => exact nope h
  | .rng _, c, e, X, Wx, h, g, gl, tk => by exact nope h
  | .rng2 _ _, c, e, X, Wx, h, g, gl, tk => by exact nope h
  | .enu _, c, e, X, Wx, h, g, gl, tk => by exact nope h
  | .zip _ _, c, e, X, Wx, h, g, gl, tk => by exact nope h
  | .fld _ _, c, e, X, Wx, h, g, gl, tk => by exact nope h
  | .make _ _, c, e, X, Wx, h, g, gl, tk => by exact nope h
  | .omet _ _ _ _, c, e, X, Wx, h, g, gl, tk => by exact nope h
theorem evs_ok : ∀ (m : E) (c : Ck) (es : List Expr) (X : Cx) (Wx : WX), chkL G c m es = true → Gd c X → Glb W G C k X → L2N.Takes X Wx → PA X es (tEs W C Wx m)
  | .nil, c, es, X, Wx, h, g, gl, tk => by
    cases es with
    | nil =>
      refine PA.imp pa_nil fun σ H Q q => ?_
      obtain ⟨hid, env, st, ι, S, SE, post⟩ := q
      simp only [evs] at post
      exact post.now S .nil
    | cons _ _ => exact nope h
  | .cons e es, c, xs, X, Wx, h, g, gl, tk => by
    cases xs with
    | nil => exact nope h
    | cons x xs =>
      simp only [chkL, Bool.and_eq_true, Bool.not_eq_true'] at h
      refine PA.imp (pa_cons (ev_ok e c x X Wx h.1.2 g gl tk).pe (evs_ok es c xs X Wx h.2 g gl tk) (starEach_cons h.1.1)) fun σ H Q q => ?_
      obtain ⟨hid, env, st, ι, S, SE, post⟩ := q
      simp only [evs] at post
      refine ⟨hid, env, st, ι, S, SE, (PostG.bind (RA := R _) post).imp fun vx H1 ⟨da, ι1, st1, X1, S1, ra, p1⟩ => ?_⟩
      refine ⟨hid, env, st1, ι1, S1, SE.mono X1, (PostG.bind (RA := RL _) p1).imp fun vs H2 ⟨ds, ι2, st2, X2, S2, rl, p2⟩ => ?_⟩
      exact p2.now S2 (.cons (ra.mono X2) rl)
  | .var _, c, es, X, Wx, h, g, gl, tk => by cases es <;> exact nope h
  | .con _, c, es, X, Wx, h, g, gl, tk => by cases es <;> exact nope h
  | .glo _ _, c, es, X, Wx, h, g, gl, tk => by cases es <;> exact nope h
  | .fnv _, c, es, X, Wx, h, g, gl, tk => by cases es <;> exact nope h
  | .tup _, c, es, X, Wx, h, g, gl, tk => by cases es <;> exact nope h
  | .lst _ _, c, es, X, Wx, h, g, gl, tk => by cases es <;> exact nope h
  | .bin _ _ _, c, es, X, Wx, h, g, gl, tk => by cases es <;> exact nope h
  | .neg _, c, es, X, Wx, h, g, gl, tk => by cases es <;> exact nope h
  | .not _, c, es, X, Wx, h, g, gl, tk => by cases es <;> exact nope h
  | .and _ _, c, es, X, Wx, h, g, gl, tk => by cases es <;> exact nope h
  | .or _ _, c, es, X, Wx, h, g, gl, tk => by cases es <;> exact nope h
  | .orV _ _, c, es, X, Wx, h, g, gl, tk => by cases es <;> exact nope h
  | .cmp _ _ _, c, es, X, Wx, h, g, gl, tk => by cases es <;> exact nope h
  | .chain _ _ _ _ _, c, es, X, Wx, h, g, gl, tk => by cases es <;> exact nope h
  | .chn _ _ _ _ _ _ _, c, es, X, Wx, h, g, gl, tk => by cases es <;> exact nope h
  | .isN _, c, es, X, Wx, h, g, gl, tk => by cases es <;> exact nope h
  | .notN _, c, es, X, Wx, h, g, gl, tk => by cases es <;> exact nope h
  | .ite _ _ _, c, es, X, Wx, h, g, gl, tk => by cases es <;> exact nope h
  | .call _ _, c, es, X, Wx, h, g, gl, tk => by cases es <;> exact nope h
  | .callV _ _ _, c, es, X, Wx, h, g, gl, tk => by cases es <;> exact nope h
  | .bi _ _, c, es, X, Wx, h, g, gl, tk => by cases es <;> exact nope h
  | .bi2 _ _, c, es, X, Wx, h, g, gl, tk => by cases es <;> exact nope h
  | .isi _ _, c, es, X, Wx, h, g, gl, tk => by cases es <;> exact nope h
  | .me _ _ _, c, es, X, Wx, h, g, gl, tk => by cases es <;> exact nope h
  | .idx _ _, c, es, X, Wx, h, g, gl, tk => by cases es <;> exact nope h
  | .sl _ _ _, c, es, X, Wx, h, g, gl, tk => by cases es <;> exact nope h
  | .lc _ _ _ _ _ _, c, es, X, Wx, h, g, gl, tk => by cases es <;> exact nope h
  | .rng _, c, es, X, Wx, h, g, gl, tk => by cases es <;> exact nope h
  | .rng2 _ _, c, es, X, Wx, h, g, gl, tk => by cases es <;> exact nope h
  | .enu _, c, es, X, Wx, h, g, gl, tk => by cases es <;> exact nope h
  | .zip _ _, c, es, X, Wx, h, g, gl, tk => by cases es <;> exact nope h
  | .fld _ _, c, es, X, Wx, h, g, gl, tk => by cases es <;> exact nope h
  | .dic, c, es, X, Wx, h, g, gl, tk => by cases es <;> exact nope h
  | .nev, c, es, X, Wx, h, g, gl, tk => by cases es <;> exact nope h
  | .make _ _, c, es, X, Wx, h, g, gl, tk => by cases es <;> exact nope h
  | .omet _ _ _ _, c, es, X, Wx, h, g, gl, tk => by cases es <;> exact nope h
theorem evo_ok : ∀ (m : E) (c : Ck) (o : Option Expr) (X : Cx) (Wx : WX), chkO G c m o = true → Gd c X → Glb W G C k X → L2N.Takes X Wx → PO X o (tEo W C Wx m)
  | .nil, c, o, X, Wx, h, g, gl, tk => by
    cases o with
    | none =>
      refine PO.imp po_none fun σ H Q q => ?_
      obtain ⟨hid, env, st, ι, S, SE, post⟩ := q
      simp only [evo] at post
      exact post.now S rfl
    | some _ => exact nope h
  | .cons e .nil, c, o, X, Wx, h, g, gl, tk => by
    cases o with
    | none => exact nope h
    | some x =>
      refine PO.imp (po_some (ev_ok e c x X Wx (by simpa only [chkO] using h) g gl tk).pe) fun σ H Q q => ?_
      obtain ⟨hid, env, st, ι, S, SE, post⟩ := q
      simp only [evo] at post
      refine ⟨hid, env, st, ι, S, SE, (PostG.bind (RA := R _) post).imp fun vx H1 ⟨da, ι1, st1, X1, S1, ra, p1⟩ => ?_⟩
      cases ra with
      | int i => exact ⟨i, rfl, PostG.now p1 S1 rfl⟩
      | _ => exact p1.elim
  | .cons _ (.cons _ _), c, o, X, Wx, h, g, gl, tk => by cases o <;> exact nope h
  | .cons _ (.var _), c, o, X, Wx, h, g, gl, tk => by cases o <;> exact nope h
  | .cons _ (.con _), c, o, X, Wx, h, g, gl, tk => by cases o <;> exact nope h
  | .cons _ (.glo _ _), c, o, X, Wx, h, g, gl, tk => by cases o <;> exact nope h
  | .cons _ (.fnv _), c, o, X, Wx, h, g, gl, tk => by cases o <;> exact nope h
  | .cons _ (.tup _), c, o, X, Wx, h, g, gl, tk => by cases o <;> exact nope h
  | .cons _ (.lst _ _), c, o, X, Wx, h, g, gl, tk => by cases o <;> exact nope h
  | .cons _ (.bin _ _ _), c, o, X, Wx, h, g, gl, tk => by cases o <;> exact nope h
  | .cons _ (.neg _), c, o, X, Wx, h, g, gl, tk => by cases o <;> exact nope h
  | .cons _ (.not _), c, o, X, Wx, h, g, gl, tk => by cases o <;> exact nope h
  | .cons _ (.and _ _), c, o, X, Wx, h, g, gl, tk => by cases o <;> exact nope h
  | .cons _ (.or _ _), c, o, X, Wx, h, g, gl, tk => by cases o <;> exact nope h
  | .cons _ (.orV _ _), c, o, X, Wx, h, g, gl, tk => by cases o <;> exact nope h
  | .cons _ (.cmp _ _ _), c, o, X, Wx, h, g, gl, tk => by cases o <;> exact nope h
  | .cons _ (.chain _ _ _ _ _), c, o, X, Wx, h, g, gl, tk => by cases o <;> exact nope h
  | .cons _ (.chn _ _ _ _ _ _ _), c, o, X, Wx, h, g, gl, tk => by cases o <;> exact nope h
  | .cons _ (.isN _), c, o, X, Wx, h, g, gl, tk => by cases o <;> exact nope h
  | .cons _ (.notN _), c, o, X, Wx, h, g, gl, tk => by cases o <;> exact nope h
  | .cons _ (.ite _ _ _), c, o, X, Wx, h, g, gl, tk => by cases o <;> exact nope h
  | .cons _ (.call _ _), c, o, X, Wx, h, g, gl, tk => by cases o <;> exact nope h
  | .cons _ (.callV _ _ _), c, o, X, Wx, h, g, gl, tk => by cases o <;> exact nope h
  | .cons _ (.bi _ _), c, o, X, Wx, h, g, gl, tk => by cases o <;> exact nope h
  | .cons _ (.bi2 _ _), c, o, X, Wx, h, g, gl, tk => by cases o <;> exact nope h
  | .cons _ (.isi _ _), c, o, X, Wx, h, g, gl, tk => by cases o <;> exact nope h
  | .cons _ (.me _ _ _), c, o, X, Wx, h, g, gl, tk => by cases o <;> exact nope h
  | .cons _ (.idx _ _), c, o, X, Wx, h, g, gl, tk => by cases o <;> exact nope h
  | .cons _ (.sl _ _ _), c, o, X, Wx, h, g, gl, tk => by cases o <;> exact nope h
  | .cons _ (.lc _ _ _ _ _ _), c, o, X, Wx, h, g, gl, tk => by cases o <;> exact nope h
  | .cons _ (.rng _), c, o, X, Wx, h, g, gl, tk => by cases o <;> exact nope h
  | .cons _ (.rng2 _ _), c, o, X, Wx, h, g, gl, tk => by cases o <;> exact nope h
  | .cons _ (.enu _), c, o, X, Wx, h, g, gl, tk => by cases o <;> exact nope h
  | .cons _ (.zip _ _), c, o, X, Wx, h, g, gl, tk => by cases o <;> exact nope h
  | .cons _ (.fld _ _), c, o, X, Wx, h, g, gl, tk => by cases o <;> exact nope h
  | .cons _ (.dic), c, o, X, Wx, h, g, gl, tk => by cases o <;> exact nope h
  | .cons _ (.nev), c, o, X, Wx, h, g, gl, tk => by cases o <;> exact nope h
  | .cons _ (.make _ _), c, o, X, Wx, h, g, gl, tk => by cases o <;> exact nope h
  | .cons _ (.omet _ _ _ _), c, o, X, Wx, h, g, gl, tk => by cases o <;> exact nope h
  | .var _, c, o, X, Wx, h, g, gl, tk => by cases o <;> exact nope h
  | .con _, c, o, X, Wx, h, g, gl, tk => by cases o <;> exact nope h
  | .glo _ _, c, o, X, Wx, h, g, gl, tk => by cases o <;> exact nope h
  | .fnv _, c, o, X, Wx, h, g, gl, tk => by cases o <;> exact nope h
  | .tup _, c, o, X, Wx, h, g, gl, tk => by cases o <;> exact nope h
  | .lst _ _, c, o, X, Wx, h, g, gl, tk => by cases o <;> exact nope h
  | .bin _ _ _, c, o, X, Wx, h, g, gl, tk => by cases o <;> exact nope h
  | .neg _, c, o, X, Wx, h, g, gl, tk => by cases o <;> exact nope h
  | .not _, c, o, X, Wx, h, g, gl, tk => by cases o <;> exact nope h
  | .and _ _, c, o, X, Wx, h, g, gl, tk => by cases o <;> exact nope h
  | .or _ _, c, o, X, Wx, h, g, gl, tk => by cases o <;> exact nope h
  | .orV _ _, c, o, X, Wx, h, g, gl, tk => by cases o <;> exact nope h
  | .cmp _ _ _, c, o, X, Wx, h, g, gl, tk => by cases o <;> exact nope h
  | .chain _ _ _ _ _, c, o, X, Wx, h, g, gl, tk => by cases o <;> exact nope h
  | .chn _ _ _ _ _ _ _, c, o, X, Wx, h, g, gl, tk => by cases o <;> exact nope h
  | .isN _, c, o, X, Wx, h, g, gl, tk => by cases o <;> exact nope h
  | .notN _, c, o, X, Wx, h, g, gl, tk => by cases o <;> exact nope h
  | .ite _ _ _, c, o, X, Wx, h, g, gl, tk => by cases o <;> exact nope h
  | .call _ _, c, o, X, Wx, h, g, gl, tk => by cases o <;> exact nope h
  | .callV _ _ _, c, o, X, Wx, h, g, gl, tk => by cases o <;> exact nope h
  | .bi _ _, c, o, X, Wx, h, g, gl, tk => by cases o <;> exact nope h
  | .bi2 _ _, c, o, X, Wx, h, g, gl, tk => by cases o <;> exact nope h
  | .isi _ _, c, o, X, Wx, h, g, gl, tk => by cases o <;> exact nope h
  | .me _ _ _, c, o, X, Wx, h, g, gl, tk => by cases o <;> exact nope h
  | .idx _ _, c, o, X, Wx, h, g, gl, tk => by cases o <;> exact nope h
  | .sl _ _ _, c, o, X, Wx, h, g, gl, tk => by cases o <;> exact nope h
  | .lc _ _ _ _ _ _, c, o, X, Wx, h, g, gl, tk => by cases o <;> exact nope h
  | .rng _, c, o, X, Wx, h, g, gl, tk => by cases o <;> exact nope h
  | .rng2 _ _, c, o, X, Wx, h, g, gl, tk => by cases o <;> exact nope h
  | .enu _, c, o, X, Wx, h, g, gl, tk => by cases o <;> exact nope h
  | .zip _ _, c, o, X, Wx, h, g, gl, tk => by cases o <;> exact nope h
  | .fld _ _, c, o, X, Wx, h, g, gl, tk => by cases o <;> exact nope h
  | .dic, c, o, X, Wx, h, g, gl, tk => by cases o <;> exact nope h
  | .nev, c, o, X, Wx, h, g, gl, tk => by cases o <;> exact nope h
  | .make _ _, c, o, X, Wx, h, g, gl, tk => by cases o <;> exact nope h
  | .omet _ _ _ _, c, o, X, Wx, h, g, gl, tk => by cases o <;> exact nope h
theorem evc_ok : ∀ (m : E) (c : Ck) (es : List Expr) (X : Cx) (Wx : WX), chkC G c m es = true → Gd c X → Glb W G C k X → L2N.Takes X Wx → PTs X es (tEt W C Wx m)
  | .nil, c, es, X, Wx, h, g, gl, tk => by
    cases es with
    | nil =>
      refine ⟨fun pins s σ H Q I q => (pts_nil (X := X)).run pins s σ H Q I ?_⟩
      obtain ⟨hid, env, st, ι, S, SE, post⟩ := q
      simp only [evt] at post
      exact post.now S rfl
    | cons _ _ => exact nope h
  | .cons e .nil, c, es, X, Wx, h, g, gl, tk => by
    rcases es with _ | ⟨x, _ | ⟨_, es⟩⟩
    · exact nope h
    · refine ⟨fun pins s σ H Q I q => (pts_one (ev_ok e c x X Wx (by simpa only [chkC] using h) g gl tk).pt).run pins s σ H Q I ?_⟩
      obtain ⟨hid, env, st, ι, S, SE, post⟩ := q
      simp only [evt] at post
      exact ⟨hid, env, st, ι, S, SE, post⟩
    · exact nope h
  | .cons _ (.cons _ _), c, es, X, Wx, h, g, gl, tk => by rcases es with _ | ⟨_, _ | ⟨_, _⟩⟩ <;> exact nope h
  | .cons _ (.var _), c, es, X, Wx, h, g, gl, tk => by rcases es with _ | ⟨_, _ | ⟨_, _⟩⟩ <;> exact nope h
  | .cons _ (.con _), c, es, X, Wx, h, g, gl, tk => by rcases es with _ | ⟨_, _ | ⟨_, _⟩⟩ <;> exact nope h
  | .cons _ (.glo _ _), c, es, X, Wx, h, g, gl, tk => by rcases es with _ | ⟨_, _ | ⟨_, _⟩⟩ <;> exact nope h
  | .cons _ (.fnv _), c, es, X, Wx, h, g, gl, tk => by rcases es with _ | ⟨_, _ | ⟨_, _⟩⟩ <;> exact nope h
  | .cons _ (.tup _), c, es, X, Wx, h, g, gl, tk => by rcases es with _ | ⟨_, _ | ⟨_, _⟩⟩ <;> exact nope h
  | .cons _ (.lst _ _), c, es, X, Wx, h, g, gl, tk => by rcases es with _ | ⟨_, _ | ⟨_, _⟩⟩ <;> exact nope h
  | .cons _ (.bin _ _ _), c, es, X, Wx, h, g, gl, tk => by rcases es with _ | ⟨_, _ | ⟨_, _⟩⟩ <;> exact nope h
  | .cons _ (.neg _), c, es, X, Wx, h, g, gl, tk => by rcases es with _ | ⟨_, _ | ⟨_, _⟩⟩ <;> exact nope h
  | .cons _ (.not _), c, es, X, Wx, h, g, gl, tk => by rcases es with _ | ⟨_, _ | ⟨_, _⟩⟩ <;> exact nope h
  | .cons _ (.and _ _), c, es, X, Wx, h, g, gl, tk => by rcases es with _ | ⟨_, _ | ⟨_, _⟩⟩ <;> exact nope h
  | .cons _ (.or _ _), c, es, X, Wx, h, g, gl, tk => by rcases es with _ | ⟨_, _ | ⟨_, _⟩⟩ <;> exact nope h
  | .cons _ (.orV _ _), c, es, X, Wx, h, g, gl, tk => by rcases es with _ | ⟨_, _ | ⟨_, _⟩⟩ <;> exact nope h
  | .cons _ (.cmp _ _ _), c, es, X, Wx, h, g, gl, tk => by rcases es with _ | ⟨_, _ | ⟨_, _⟩⟩ <;> exact nope h
  | .cons _ (.chain _ _ _ _ _), c, es, X, Wx, h, g, gl, tk => by rcases es with _ | ⟨_, _ | ⟨_, _⟩⟩ <;> exact nope h
  | .cons _ (.chn _ _ _ _ _ _ _), c, es, X, Wx, h, g, gl, tk => by rcases es with _ | ⟨_, _ | ⟨_, _⟩⟩ <;> exact nope h
  | .cons _ (.isN _), c, es, X, Wx, h, g, gl, tk => by rcases es with _ | ⟨_, _ | ⟨_, _⟩⟩ <;> exact nope h
  | .cons _ (.notN _), c, es, X, Wx, h, g, gl, tk => by rcases es with _ | ⟨_, _ | ⟨_, _⟩⟩ <;> exact nope h
  | .cons _ (.ite _ _ _), c, es, X, Wx, h, g, gl, tk => by rcases es with _ | ⟨_, _ | ⟨_, _⟩⟩ <;> exact nope h
  | .cons _ (.call _ _), c, es, X, Wx, h, g, gl, tk => by rcases es with _ | ⟨_, _ | ⟨_, _⟩⟩ <;> exact nope h
  | .cons _ (.callV _ _ _), c, es, X, Wx, h, g, gl, tk => by rcases es with _ | ⟨_, _ | ⟨_, _⟩⟩ <;> exact nope h
  | .cons _ (.bi _ _), c, es, X, Wx, h, g, gl, tk => by rcases es with _ | ⟨_, _ | ⟨_, _⟩⟩ <;> exact nope h
  | .cons _ (.bi2 _ _), c, es, X, Wx, h, g, gl, tk => by rcases es with _ | ⟨_, _ | ⟨_, _⟩⟩ <;> exact nope h
  | .cons _ (.isi _ _), c, es, X, Wx, h, g, gl, tk => by rcases es with _ | ⟨_, _ | ⟨_, _⟩⟩ <;> exact nope h
  | .cons _ (.me _ _ _), c, es, X, Wx, h, g, gl, tk => by rcases es with _ | ⟨_, _ | ⟨_, _⟩⟩ <;> exact nope h
  | .cons _ (.idx _ _), c, es, X, Wx, h, g, gl, tk => by rcases es with _ | ⟨_, _ | ⟨_, _⟩⟩ <;> exact nope h
  | .cons _ (.sl _ _ _), c, es, X, Wx, h, g, gl, tk => by rcases es with _ | ⟨_, _ | ⟨_, _⟩⟩ <;> exact nope h
  | .cons _ (.lc _ _ _ _ _ _), c, es, X, Wx, h, g, gl, tk => by rcases es with _ | ⟨_, _ | ⟨_, _⟩⟩ <;> exact nope h
  | .cons _ (.rng _), c, es, X, Wx, h, g, gl, tk => by rcases es with _ | ⟨_, _ | ⟨_, _⟩⟩ <;> exact nope h
  | .cons _ (.rng2 _ _), c, es, X, Wx, h, g, gl, tk => by rcases es with _ | ⟨_, _ | ⟨_, _⟩⟩ <;> exact nope h
  | .cons _ (.enu _), c, es, X, Wx, h, g, gl, tk => by rcases es with _ | ⟨_, _ | ⟨_, _⟩⟩ <;> exact nope h
  | .cons _ (.zip _ _), c, es, X, Wx, h, g, gl, tk => by rcases es with _ | ⟨_, _ | ⟨_, _⟩⟩ <;> exact nope h
  | .cons _ (.fld _ _), c, es, X, Wx, h, g, gl, tk => by rcases es with _ | ⟨_, _ | ⟨_, _⟩⟩ <;> exact nope h
  | .cons _ (.dic), c, es, X, Wx, h, g, gl, tk => by rcases es with _ | ⟨_, _ | ⟨_, _⟩⟩ <;> exact nope h
  | .cons _ (.nev), c, es, X, Wx, h, g, gl, tk => by rcases es with _ | ⟨_, _ | ⟨_, _⟩⟩ <;> exact nope h
  | .cons _ (.make _ _), c, es, X, Wx, h, g, gl, tk => by rcases es with _ | ⟨_, _ | ⟨_, _⟩⟩ <;> exact nope h
  | .cons _ (.omet _ _ _ _), c, es, X, Wx, h, g, gl, tk => by rcases es with _ | ⟨_, _ | ⟨_, _⟩⟩ <;> exact nope h
  | .var _, c, es, X, Wx, h, g, gl, tk => by rcases es with _ | ⟨_, _ | ⟨_, _⟩⟩ <;> exact nope h
  | .con _, c, es, X, Wx, h, g, gl, tk => by rcases es with _ | ⟨_, _ | ⟨_, _⟩⟩ <;> exact nope h
  | .glo _ _, c, es, X, Wx, h, g, gl, tk => by rcases es with _ | ⟨_, _ | ⟨_, _⟩⟩ <;> exact nope h
  | .fnv _, c, es, X, Wx, h, g, gl, tk => by rcases es with _ | ⟨_, _ | ⟨_, _⟩⟩ <;> exact nope h
  | .tup _, c, es, X, Wx, h, g, gl, tk => by rcases es with _ | ⟨_, _ | ⟨_, _⟩⟩ <;> exact nope h
  | .lst _ _, c, es, X, Wx, h, g, gl, tk => by rcases es with _ | ⟨_, _ | ⟨_, _⟩⟩ <;> exact nope h
  | .bin _ _ _, c, es, X, Wx, h, g, gl, tk => by rcases es with _ | ⟨_, _ | ⟨_, _⟩⟩ <;> exact nope h
  | .neg _, c, es, X, Wx, h, g, gl, tk => by rcases es with _ | ⟨_, _ | ⟨_, _⟩⟩ <;> exact nope h
  | .not _, c, es, X, Wx, h, g, gl, tk => by rcases es with _ | ⟨_, _ | ⟨_, _⟩⟩ <;> exact nope h
  | .and _ _, c, es, X, Wx, h, g, gl, tk => by rcases es with _ | ⟨_, _ | ⟨_, _⟩⟩ <;> exact nope h
  | .or _ _, c, es, X, Wx, h, g, gl, tk => by rcases es with _ | ⟨_, _ | ⟨_, _⟩⟩ <;> exact nope h
  | .orV _ _, c, es, X, Wx, h, g, gl, tk => by rcases es with _ | ⟨_, _ | ⟨_, _⟩⟩ <;> exact nope h
  | .cmp _ _ _, c, es, X, Wx, h, g, gl, tk => by rcases es with _ | ⟨_, _ | ⟨_, _⟩⟩ <;> exact nope h
  | .chain _ _ _ _ _, c, es, X, Wx, h, g, gl, tk => by rcases es with _ | ⟨_, _ | ⟨_, _⟩⟩ <;> exact nope h
  | .chn _ _ _ _ _ _ _, c, es, X, Wx, h, g, gl, tk => by rcases es with _ | ⟨_, _ | ⟨_, _⟩⟩ <;> exact nope h
  | .isN _, c, es, X, Wx, h, g, gl, tk => by rcases es with _ | ⟨_, _ | ⟨_, _⟩⟩ <;> exact nope h
  | .notN _, c, es, X, Wx, h, g, gl, tk => by rcases es with _ | ⟨_, _ | ⟨_, _⟩⟩ <;> exact nope h
  | .ite _ _ _, c, es, X, Wx, h, g, gl, tk => by rcases es with _ | ⟨_, _ | ⟨_, _⟩⟩ <;> exact nope h
  | .call _ _, c, es, X, Wx, h, g, gl, tk => by rcases es with _ | ⟨_, _ | ⟨_, _⟩⟩ <;> exact nope h
  | .callV _ _ _, c, es, X, Wx, h, g, gl, tk => by rcases es with _ | ⟨_, _ | ⟨_, _⟩⟩ <;> exact nope h
  | .bi _ _, c, es, X, Wx, h, g, gl, tk => by rcases es with _ | ⟨_, _ | ⟨_, _⟩⟩ <;> exact nope h
  | .bi2 _ _, c, es, X, Wx, h, g, gl, tk => by rcases es with _ | ⟨_, _ | ⟨_, _⟩⟩ <;> exact nope h
  | .isi _ _, c, es, X, Wx, h, g, gl, tk => by rcases es with _ | ⟨_, _ | ⟨_, _⟩⟩ <;> exact nope h
  | .me _ _ _, c, es, X, Wx, h, g, gl, tk => by rcases es with _ | ⟨_, _ | ⟨_, _⟩⟩ <;> exact nope h
  | .idx _ _, c, es, X, Wx, h, g, gl, tk => by rcases es with _ | ⟨_, _ | ⟨_, _⟩⟩ <;> exact nope h
  | .sl _ _ _, c, es, X, Wx, h, g, gl, tk => by rcases es with _ | ⟨_, _ | ⟨_, _⟩⟩ <;> exact nope h
  | .lc _ _ _ _ _ _, c, es, X, Wx, h, g, gl, tk => by rcases es with _ | ⟨_, _ | ⟨_, _⟩⟩ <;> exact nope h
  | .rng _, c, es, X, Wx, h, g, gl, tk => by rcases es with _ | ⟨_, _ | ⟨_, _⟩⟩ <;> exact nope h
  | .rng2 _ _, c, es, X, Wx, h, g, gl, tk => by rcases es with _ | ⟨_, _ | ⟨_, _⟩⟩ <;> exact nope h
  | .enu _, c, es, X, Wx, h, g, gl, tk => by rcases es with _ | ⟨_, _ | ⟨_, _⟩⟩ <;> exact nope h
  | .zip _ _, c, es, X, Wx, h, g, gl, tk => by rcases es with _ | ⟨_, _ | ⟨_, _⟩⟩ <;> exact nope h
  | .fld _ _, c, es, X, Wx, h, g, gl, tk => by rcases es with _ | ⟨_, _ | ⟨_, _⟩⟩ <;> exact nope h
  | .dic, c, es, X, Wx, h, g, gl, tk => by rcases es with _ | ⟨_, _ | ⟨_, _⟩⟩ <;> exact nope h
  | .nev, c, es, X, Wx, h, g, gl, tk => by rcases es with _ | ⟨_, _ | ⟨_, _⟩⟩ <;> exact nope h
  | .make _ _, c, es, X, Wx, h, g, gl, tk => by rcases es with _ | ⟨_, _ | ⟨_, _⟩⟩ <;> exact nope h
  | .omet _ _ _ _, c, es, X, Wx, h, g, gl, tk => by rcases es with _ | ⟨_, _ | ⟨_, _⟩⟩ <;> exact nope h
theorem evw_ok : ∀ (m : E) (c : Ck) (iter tg : Expr) (X : Cx) (Wx : WX), chkW G c m iter tg = true → c.hot = false → Gd c X → Glb W G C k X → L2N.Takes X Wx → PI X tg iter (iEv W C Wx m) ∧ isSet iter = false
  | .rng a, c, iter, tg, X, Wx, h, hh, g, gl, tk => by
    cases iter with
    | Call fe as ks p =>
      cases fe with
      | Name z p2 =>
        rcases as with _ | ⟨x, _ | ⟨_, as⟩⟩
        · exact nope h
        · rcases ks with _ | ⟨kw, ks⟩
          · simp only [chkW, Bool.and_eq_true, Bool.not_eq_true', decide_eq_true_eq] at h
            exact ⟨wRng_ok g gl h.1.1.1 h.1.1.2 (ev_ok a c x X Wx h.1.2 g gl tk) h.2, rfl⟩
          · exact nope h
        · exact nope h
      | _ => exact nope h
    | _ => exact nope h
  | .rng2 a b, c, iter, tg, X, Wx, h, hh, g, gl, tk => by
    cases iter with
    | Call fe as ks p =>
      cases fe with
      | Name z p2 =>
        rcases as with _ | ⟨x, _ | ⟨y, _ | ⟨_, as⟩⟩⟩
        · exact nope h
        · exact nope h
        · rcases ks with _ | ⟨kw, ks⟩
          · simp only [chkW, Bool.and_eq_true, Bool.not_eq_true', decide_eq_true_eq] at h
            exact ⟨wRng2_ok g gl h.1.1.1.1.1 h.1.1.1.1.2 (ev_ok a c x X Wx h.1.1.1.2 g gl tk) (ev_ok b c y X Wx h.1.1.2 g gl tk) h.1.2 h.2, rfl⟩
          · exact nope h
        · exact nope h
      | _ => exact nope h
    | _ => exact nope h
  | .enu a, c, iter, tg, X, Wx, h, hh, g, gl, tk => by
    cases iter with
    | Call fe as ks p =>
      cases fe with
      | Name z p2 =>
        rcases as with _ | ⟨x, _ | ⟨_, as⟩⟩
        · exact nope h
        · rcases ks with _ | ⟨kw, ks⟩
          · cases tg with
            | Tuple es kk tp =>
              simp only [chkW, Bool.and_eq_true, Bool.not_eq_true', decide_eq_true_eq] at h
              exact ⟨wEnu_ok g gl h.1.1.1 h.1.1.2 (ev_ok a c x X Wx h.1.2 g gl tk) h.2, rfl⟩
            | _ => exact nope h
          · exact nope h
        · exact nope h
      | _ => exact nope h
    | _ => exact nope h
  | .zip a b, c, iter, tg, X, Wx, h, hh, g, gl, tk => by
    cases iter with
    | Call fe as ks p =>
      cases fe with
      | Name z p2 =>
        rcases as with _ | ⟨x, _ | ⟨y, _ | ⟨_, as⟩⟩⟩
        · exact nope h
        · exact nope h
        · rcases ks with _ | ⟨kw, ks⟩
          · cases tg with
            | Tuple es kk tp =>
              simp only [chkW, Bool.and_eq_true, Bool.not_eq_true', decide_eq_true_eq] at h
              exact ⟨wZip_ok g gl h.1.1.1.1.1 hh h.1.1.1.1.2 (ev_ok a c x X Wx h.1.1.1.2 g gl tk) (ev_ok b c y X Wx h.1.1.2 g gl tk) h.1.2 h.2, rfl⟩
            | _ => exact nope h
          · exact nope h
        · exact nope h
      | _ => exact nope h
    | _ => exact nope h
  | .cons a .nil, c, iter, tg, X, Wx, h, hh, g, gl, tk => by
    have h : (chkE G c a iter && !isSet iter) = true := h
    obtain ⟨h1, h2⟩ := andT h
    exact ⟨wAny_ok (ev_ok a c iter X Wx h1 g gl tk), notF h2⟩
  | .nil, c, iter, tg, X, Wx, h, hh, g, gl, tk => by exact nope h
  | .cons _ (.cons _ _), c, iter, tg, X, Wx, h, hh, g, gl, tk => by exact nope h
  | .cons _ (.var _), c, iter, tg, X, Wx, h, hh, g, gl, tk => by exact nope h
  | .cons _ (.con _), c, iter, tg, X, Wx, h, hh, g, gl, tk => by exact nope h
  | .cons _ (.glo _ _), c, iter, tg, X, Wx, h, hh, g, gl, tk => by exact nope h
  | .cons _ (.fnv _), c, iter, tg, X, Wx, h, hh, g, gl, tk => by exact nope h
  | .cons _ (.tup _), c, iter, tg, X, Wx, h, hh, g, gl, tk => by exact nope h
  | .cons _ (.lst _ _), c, iter, tg, X, Wx, h, hh, g, gl, tk => by exact nope h
  | .cons _ (.bin _ _ _), c, iter, tg, X, Wx, h, hh, g, gl, tk => by exact nope h
  | .cons _ (.neg _), c, iter, tg, X, Wx, h, hh, g, gl, tk => by exact nope h
  | .cons _ (.not _), c, iter, tg, X, Wx, h, hh, g, gl, tk => by exact nope h
  | .cons _ (.and _ _), c, iter, tg, X, Wx, h, hh, g, gl, tk => by exact nope h
  | .cons _ (.or _ _), c, iter, tg, X, Wx, h, hh, g, gl, tk => by exact nope h
  | .cons _ (.orV _ _), c, iter, tg, X, Wx, h, hh, g, gl, tk => by exact nope h
  | .cons _ (.cmp _ _ _), c, iter, tg, X, Wx, h, hh, g, gl, tk => by exact nope h
  | .cons _ (.chain _ _ _ _ _), c, iter, tg, X, Wx, h, hh, g, gl, tk => by exact nope h
  | .cons _ (.chn _ _ _ _ _ _ _), c, iter, tg, X, Wx, h, hh, g, gl, tk => by exact nope h
  | .cons _ (.isN _), c, iter, tg, X, Wx, h, hh, g, gl, tk => by exact nope h
  | .cons _ (.notN _), c, iter, tg, X, Wx, h, hh, g, gl, tk => by exact nope h
  | .cons _ (.ite _ _ _), c, iter, tg, X, Wx, h, hh, g, gl, tk => by exact nope h
  | .cons _ (.call _ _), c, iter, tg, X, Wx, h, hh, g, gl, tk => by exact nope h
  | .cons _ (.callV _ _ _), c, iter, tg, X, Wx, h, hh, g, gl, tk => by exact nope h
  | .cons _ (.bi _ _), c, iter, tg, X, Wx, h, hh, g, gl, tk => by exact nope h
  | .cons _ (.bi2 _ _), c, iter, tg, X, Wx, h, hh, g, gl, tk => by exact nope h
  | .cons _ (.isi _ _), c, iter, tg, X, Wx, h, hh, g, gl, tk => by exact nope h
  | .cons _ (.me _ _ _), c, iter, tg, X, Wx, h, hh, g, gl, tk => by exact nope h
  | .cons _ (.idx _ _), c, iter, tg, X, Wx, h, hh, g, gl, tk => by exact nope h
  | .cons _ (.sl _ _ _), c, iter, tg, X, Wx, h, hh, g, gl, tk => by exact nope h
  | .cons _ (.lc _ _ _ _ _ _), c, iter, tg, X, Wx, h, hh, g, gl, tk => by exact nope h
  | .cons _ (.rng _), c, iter, tg, X, Wx, h, hh, g, gl, tk => by exact nope h
  | .cons _ (.rng2 _ _), c, iter, tg, X, Wx, h, hh, g, gl, tk => by exact nope h
  | .cons _ (.enu _), c, iter, tg, X, Wx, h, hh, g, gl, tk => by exact nope h
  | .cons _ (.zip _ _), c, iter, tg, X, Wx, h, hh, g, gl, tk => by exact nope h
  | .cons _ (.fld _ _), c, iter, tg, X, Wx, h, hh, g, gl, tk => by exact nope h
  | .cons _ (.dic), c, iter, tg, X, Wx, h, hh, g, gl, tk => by exact nope h
  | .cons _ (.nev), c, iter, tg, X, Wx, h, hh, g, gl, tk => by exact nope h
  | .cons _ (.make _ _), c, iter, tg, X, Wx, h, hh, g, gl, tk => by exact nope h
  | .cons _ (.omet _ _ _ _), c, iter, tg, X, Wx, h, hh, g, gl, tk => by exact nope h
  | .var _, c, iter, tg, X, Wx, h, hh, g, gl, tk => by exact nope h
  | .con _, c, iter, tg, X, Wx, h, hh, g, gl, tk => by exact nope h
  | .glo _ _, c, iter, tg, X, Wx, h, hh, g, gl, tk => by exact nope h
  | .fnv _, c, iter, tg, X, Wx, h, hh, g, gl, tk => by exact nope h
  | .tup _, c, iter, tg, X, Wx, h, hh, g, gl, tk => by exact nope h
  | .lst _ _, c, iter, tg, X, Wx, h, hh, g, gl, tk => by exact nope h
  | .bin _ _ _, c, iter, tg, X, Wx, h, hh, g, gl, tk => by exact nope h
  | .neg _, c, iter, tg, X, Wx, h, hh, g, gl, tk => by exact nope h
  | .not _, c, iter, tg, X, Wx, h, hh, g, gl, tk => by exact nope h
  | .and _ _, c, iter, tg, X, Wx, h, hh, g, gl, tk => by exact nope h
  | .or _ _, c, iter, tg, X, Wx, h, hh, g, gl, tk => by exact nope h
  | .orV _ _, c, iter, tg, X, Wx, h, hh, g, gl, tk => by exact nope h
  | .cmp _ _ _, c, iter, tg, X, Wx, h, hh, g, gl, tk => by exact nope h
  | .chain _ _ _ _ _, c, iter, tg, X, Wx, h, hh, g, gl, tk => by exact nope h
  | .chn _ _ _ _ _ _ _, c, iter, tg, X, Wx, h, hh, g, gl, tk => by exact nope h
  | .isN _, c, iter, tg, X, Wx, h, hh, g, gl, tk => by exact nope h
  | .notN _, c, iter, tg, X, Wx, h, hh, g, gl, tk => by exact nope h
  | .ite _ _ _, c, iter, tg, X, Wx, h, hh, g, gl, tk => by exact nope h
  | .call _ _, c, iter, tg, X, Wx, h, hh, g, gl, tk => by exact nope h
  | .callV _ _ _, c, iter, tg, X, Wx, h, hh, g, gl, tk => by exact nope h
  | .bi _ _, c, iter, tg, X, Wx, h, hh, g, gl, tk => by exact nope h
  | .bi2 _ _, c, iter, tg, X, Wx, h, hh, g, gl, tk => by exact nope h
  | .isi _ _, c, iter, tg, X, Wx, h, hh, g, gl, tk => by exact nope h
  | .me _ _ _, c, iter, tg, X, Wx, h, hh, g, gl, tk => by exact nope h
  | .idx _ _, c, iter, tg, X, Wx, h, hh, g, gl, tk => by exact nope h
  | .sl _ _ _, c, iter, tg, X, Wx, h, hh, g, gl, tk => by exact nope h
  | .lc _ _ _ _ _ _, c, iter, tg, X, Wx, h, hh, g, gl, tk => by exact nope h
  | .fld _ _, c, iter, tg, X, Wx, h, hh, g, gl, tk => by exact nope h
  | .dic, c, iter, tg, X, Wx, h, hh, g, gl, tk => by exact nope h
  | .nev, c, iter, tg, X, Wx, h, hh, g, gl, tk => by exact nope h
  | .make _ _, c, iter, tg, X, Wx, h, hh, g, gl, tk => by exact nope h
  | .omet _ _ _ _, c, iter, tg, X, Wx, h, hh, g, gl, tk => by exact nope h
end
end
end Mn

set_option Elab.async false
set_option linter.all false
set_option maxRecDepth 100000
set_option maxHeartbeats 8000000
/-! Snd18: each form of a statement. -/
namespace Mn
open PySem PySem.Spec PyProof.Rows L2

def isComp : Expr → Bool
  | .ListComp .. => true
  | .SetComp .. => true
  | .DictComp .. => true
  | _ => false
def isName : Expr → Bool
  | .Name .. => true
  | _ => false
def isTupE : Expr → Bool
  | .Tuple .. => true
  | _ => false
def isTupL : Expr → Bool
  | .Tuple .. => true
  | .List .. => true
  | _ => false
def PostO (W : Wd) (Wx : WX) (D : Ends) (ι : List Addr) (H : Hp) : Out → Prop
  | .next env' st' => ∀ ι' H' σ', Ext ι H ι' H' → Sim W ι' st' H' → SimE W ι' H' σ' env' → D.nx σ' H'
  | .ret d st' => ∀ ι' H' v, Ext ι H ι' H' → Sim W ι' st' H' → R W ι' H' d v → D.rt v H'
  | .brk env' st' => ∀ ι' H' σ', Ext ι H ι' H' → Sim W ι' st' H' → SimE W ι' H' σ' env' → D.bk σ' H'
  | .cont env' st' => ∀ ι' H' σ', Ext ι H ι' H' → Sim W ι' st' H' → SimE W ι' H' σ' env' → D.ct σ' H'
  | .exc c env' st' => ∀ ι' H' σ', Ext ι H ι' H' → Sim W ι' st' H' → SimE W ι' H' σ' env' → Wx (.ref (W.ca c)) none σ' H'
  | .err => False
theorem PostO.ext {W : Wd} {Wx : WX} {D : Ends} {ι ι1 : List Addr} {H H1 : Hp} {o : Out} (p : PostO W Wx D ι H o) (x : Ext ι H ι1 H1) : PostO W Wx D ι1 H1 o := by
  cases o with
  | next env st => exact fun ι' H' σ' x' => p ι' H' σ' (x.trans x')
  | ret d st => exact fun ι' H' σ' x' => p ι' H' σ' (x.trans x')
  | brk env st => exact fun ι' H' σ' x' => p ι' H' σ' (x.trans x')
  | cont env st => exact fun ι' H' σ' x' => p ι' H' σ' (x.trans x')
  | exc c env st => exact fun ι' H' σ' x' => p ι' H' σ' (x.trans x')
  | err => exact p
def tSx (W : Wd) (C : Calls) (Wx : WX) (m : S) : TS := fun D σ H => ∃ hid env st ι, Sim (W.wh hid) ι st H ∧ SimE (W.wh hid) ι H σ env ∧ PostO (W.wh hid) Wx D ι H (exec C m env st)
section
variable {X : Cx}
theorem PS.imp {e : Stmt} {t t' : TS} (h : PS X e t) (i : ∀ D σ H, t' D σ H → t D σ H) : PS X e t' := ⟨fun pins s σ H D I q => h.run pins s σ H D I (i _ _ _ q)⟩
theorem PSs.imp {e : List Stmt} {t t' : TS} (h : PSs X e t) (i : ∀ D σ H, t' D σ H → t D σ H) : PSs X e t' := ⟨fun pins s σ H D I q => h.run pins s σ H D I (i _ _ _ q)⟩
end
section
variable {W : Wd} {G : Gt} {C : Calls} {k : Nat} {Wx : WX} {X : Cx} {c : Ck} {pos p : Pos}
theorem seq_ok {m r : S} {x : Stmt} {xs : List Stmt} (h1 : PS X x (tSx W C Wx m)) (h2 : PSs X xs (tSx W C Wx r)) : PSs X (x :: xs) (tSx W C Wx (.cons m r)) := by
  refine PSs.imp (pss_cons h1 h2) fun D σ H q => ?_
  obtain ⟨hid, env, st, ι, S, SE, post⟩ := q
  refine ⟨hid, env, st, ι, S, SE, ?_⟩
  simp only [exec] at post
  cases h : exec C m env st with
  | next env' st' => rw [h] at post; exact fun ι' H' σ' x' S' SE' => ⟨hid, env', st', ι', S', SE', PostO.ext post x'⟩
  | ret d st' => rw [h] at post; exact post
  | brk env' st' => rw [h] at post; exact post
  | cont env' st' => rw [h] at post; exact post
  | exc cc env' st' => rw [h] at post; exact post
  | err => rw [h] at post; exact post
theorem nil_ok : PSs X [] (tSx W C Wx .nil) := by
  refine PSs.imp pss_nil fun D σ H q => ?_
  obtain ⟨hid, env, st, ι, S, SE, post⟩ := q
  exact post ι H σ (Ext.refl _ _) S SE
theorem pass_ok : PS X (.Pass pos) (tSx W C Wx .pass) := by
  refine PS.imp ps_pass fun D σ H q => ?_
  obtain ⟨hid, env, st, ι, S, SE, post⟩ := q
  exact post ι H σ (Ext.refl _ _) S SE
theorem brk_ok : PS X (.Break pos) (tSx W C Wx .brk) := by
  refine PS.imp ps_break fun D σ H q => ?_
  obtain ⟨hid, env, st, ι, S, SE, post⟩ := q
  exact post ι H σ (Ext.refl _ _) S SE
theorem cont_ok : PS X (.Continue pos) (tSx W C Wx .cont) := by
  refine PS.imp ps_continue fun D σ H q => ?_
  obtain ⟨hid, env, st, ι, S, SE, post⟩ := q
  exact post ι H σ (Ext.refl _ _) S SE
theorem retN_ok : PS X (.Return none pos) (tSx W C Wx .retN) := by
  refine PS.imp ps_retN fun D σ H q => ?_
  obtain ⟨hid, env, st, ι, S, SE, post⟩ := q
  exact post ι H _ (Ext.refl _ _) S .non
/-- an expression first: what is then wanted -/
theorem tEv_of {m : E} {D : Ends} {σ : L2.St} {H : Hp} {hid : List Addr} {env : En} {st : Store} {ι : List Addr} {f : Mn.D → Store → Out} {Q : VK} (S : Sim (W.wh hid) ι st H) (SE : SimE (W.wh hid) ι H σ env)
    (post : PostO (W.wh hid) Wx D ι H (match ev C m env st with
      | .ok d st1 => f d st1
      | .exc c st1 => .exc c env st1
      | .err => .err))
    (h : ∀ ι1 H1 d v st1, Ext ι H ι1 H1 → Sim (W.wh hid) ι1 st1 H1 → SimE (W.wh hid) ι1 H1 σ env → R (W.wh hid) ι1 H1 d v → PostO (W.wh hid) Wx D ι1 H1 (f d st1) → Q v H1) : tEv W C Wx m σ H Q := by
  refine ⟨hid, env, st, ι, S, SE, ?_⟩
  cases hr : ev C m env st with
  | ok d st1 => rw [hr] at post; exact fun ι' H' v x' S' r => h ι' H' d v st1 x' S' (SE.mono x') r (PostO.ext post x')
  | exc cc st1 => rw [hr] at post; exact fun ι' H' x' S' => post ι' H' σ x' S' (SE.mono x')
  | err => rw [hr] at post; exact post
theorem expr_ok {m : E} {x : Expr} (h : Okx W C Wx X m x) (hs : ∀ l, swapsWith x none l X.env = pure false) : PS X (.Expr x pos) (tSx W C Wx (.expr m)) := by
  refine PS.imp (ps_expr h.pe (hs _)) fun D σ H q => ?_
  obtain ⟨hid, env, st, ι, S, SE, post⟩ := q
  simp only [exec] at post
  exact tEv_of (f := fun _ st1 => .next env st1) S SE post fun ι1 H1 d v st1 x1 S1 SE1 r p1 => p1 ι1 H1 σ (Ext.refl _ _) S1 SE1
theorem ret_ok {m : E} {x : Expr} (h : Okx W C Wx X m x) : PS X (.Return (some x) pos) (tSx W C Wx (.ret m)) := by
  refine PS.imp (ps_ret h.pe) fun D σ H q => ?_
  obtain ⟨hid, env, st, ι, S, SE, post⟩ := q
  simp only [exec] at post
  exact tEv_of (f := fun d st1 => .ret d st1) S SE post fun ι1 H1 d v st1 x1 S1 SE1 r p1 => p1 ι1 H1 v (Ext.refl _ _) S1 r
theorem sw_plain {x : Expr} {t : Expr} {l : Nat} {env : PySem.Env} (h : isComp x = false) : swapsWith x (some t) l env = pure false := by
  cases x <;> first | rfl | (simp [isComp] at h)
theorem sw_none {x : Expr} {l : Nat} {env : PySem.Env} (h : isComp x = false) : swapsWith x none l env = pure false := by
  cases x <;> first | rfl | (simp [isComp] at h)
theorem sw_other {x t : Expr} {l : Nat} {env : PySem.Env} (ht : isName t = false) : swapsWith x (some t) l env = pure false := by
  cases x <;> first | rfl | (cases t <;> first | rfl | (simp [isName] at ht))
theorem stores_tup {x t : Expr} {env : PySem.Env} (h : isTupE x = false) : swappedStores [t] x env = pure none := by
  unfold swappedStores
  cases t <;> cases x <;> first | rfl | (simp [isTupE] at h)
theorem stores_other {x t : Expr} {env : PySem.Env} (h : isTupL t = false) : swappedStores [t] x env = pure none := by
  unfold swappedStores
  cases t <;> first | (cases x <;> rfl) | (simp [isTupL] at h)
theorem one_target {t : Expr} {env : PySem.Env} (h : isStar t = false) : (assignEach [t] env).map (·.2) = [assign t env] := by
  rw [assignEach_cons h]; rfl
/-- name = e -/
theorem set_tS {m : E} {i : Nat} {D : Ends} {σ : L2.St} {H : Hp} (q : tSx W C Wx (.asg (.name i) m) D σ H) : tAsg (tEv W C Wx m) (gName i) D σ H := by
  obtain ⟨hid, env, st, ι, S, SE, post⟩ := q
  simp only [exec] at post
  refine tEv_of (f := fun d st1 => match asgT (.name i) d env with
    | some env' => .next env' st1
    | none => .err) S SE post fun ι1 H1 d v st1 x1 S1 SE1 r p1 => ?_
  simp only [asgT] at p1
  split at p1
  · rename_i env' he
    split at he
    · cases he
      exact p1 ι1 H1 _ (Ext.refl _ _) S1 (SE1.set r)
    · cases he
  · exact p1.elim
theorem set_ok (g : Gd c X) {m : E} {x : Expr} {i : Nat} {y : Str} {py : Pos} (h : Okx W C Wx X m x) (hN : c.N[i]? = some y) (hst : storeB c y = true) (hs : ∀ l, swapsWith x (some (.Name y py)) l X.env = pure false) : PS X (.Assign [.Name y py] x pos) (tSx W C Wx (.asg (.name i) m)) := by
  obtain ⟨h1, h2⟩ := storeB_ok hst
  exact PS.imp (ps_set (i := i) (by rw [g.N]; exact g.nd) (by rw [g.N]; exact hN) (by rw [g.sc]; exact h1) h.pe (hs _) (by rw [g.fn, g.sc]; exact h2)) fun D σ H q => set_tS q
theorem asg_ok {m : E} {x tg : Expr} {t : Tg} (h : Okx W C Wx X m x) (ht : PG X tg (gEv W t)) (h1 : isName tg = false) (h2 : isTupE x = false) (h3 : isStar tg = false) : PS X (.Assign [tg] x pos) (tSx W C Wx (.asg t m)) := by
  refine PS.imp (ps_asg h.pe ht (sw_other h1) (stores_tup h2) (one_target h3)) fun D σ H q => ?_
  obtain ⟨hid, env, st, ι, S, SE, post⟩ := q
  simp only [exec] at post
  refine tEv_of (f := fun d st1 => match asgT t d env with
    | some env' => .next env' st1
    | none => .err) S SE post fun ι1 H1 d v st1 x1 S1 SE1 r p1 => ?_
  cases ha : asgT t d env with
  | none => rw [ha] at p1; exact p1.elim
  | some env' =>
    rw [ha] at p1
    exact ⟨hid, d, env, st1, ι1, S1, SE1, r, env', ha, fun σ' SE' _ => p1 ι1 H1 σ' (Ext.refl _ _) S1 SE'⟩
theorem setI_ok (gl : Glb W G C k X) {o i e : E} {xo xi x : Expr} {p' : Pos} (h : Okx W C Wx X e x) (ho : Okx W C Wx X o xo) (hi : Okx W C Wx X i xi) (hsl : isSlice xi = false) : PS X (.Assign [.Subscript xo xi p'] x pos) (tSx W C Wx (.setI o i e)) := by
  have un := gl.un
  refine PS.imp (ps_asg h.pe (pg_sub ho.pe hi.pe (PSet.ex fun hid => set_any (W := W.wh hid) (X := X) gl.hP gl.hw (by omega)) (by
    intro v
    cases xi <;> first | rfl | (simp [isSlice] at hsl))) (show swapsWith x (some (.Subscript xo xi p')) pos.line X.env = pure false from sw_other rfl) (stores_other rfl) rfl) fun D σ H q => ?_
  obtain ⟨hid, env, st, ι, S, SE, post⟩ := q
  simp only [exec] at post
  refine tEv_of (f := fun d st1 => match ev C o env st1 with
      | .ok x st2 => (match ev C i env st2 with
        | .ok y st3 => (match pSetI x y d st3 with
          | some st4 => .next env st4
          | none => .err)
        | .exc c st3 => .exc c env st3
        | .err => .err)
      | .exc c st2 => .exc c env st2
      | .err => .err) S SE post fun ι1 H1 d v st1 x1 S1 SE1 r p1 => ?_
  refine tEv_of (f := fun x st2 => match ev C i env st2 with
        | .ok y st3 => (match pSetI x y d st3 with
          | some st4 => .next env st4
          | none => .err)
        | .exc c st3 => .exc c env st3
        | .err => .err) S1 SE1 p1 fun ι2 H2 dx vx st2 x2 S2 SE2 rx p2 => ?_
  refine tEv_of (f := fun y st3 => match pSetI dx y d st3 with
          | some st4 => .next env st4
          | none => .err) S2 SE2 p2 fun ι3 H3 dy vy st3 x3 S3 SE3 ry p3 => ?_
  refine ⟨hid, dx, dy, d, st3, ι3, S3, rx.mono x3, ry, (r.mono x2).mono x3, ?_⟩
  cases hp : pSetI dx dy d st3 with
  | none => rw [hp] at p3; exact p3.elim
  | some st4 =>
    rw [hp] at p3
    exact fun ι4 H4 x4 S4 => p3 ι4 H4 σ x4 S4 (SE3.mono x4)
theorem tEb_of {m : E} {D : Ends} {σ : L2.St} {H : Hp} {hid : List Addr} {env : En} {st : Store} {ι : List Addr} {f : Bool → Store → Out} {Q : Bool → Hp → Prop} (S : Sim (W.wh hid) ι st H) (SE : SimE (W.wh hid) ι H σ env)
    (post : PostO (W.wh hid) Wx D ι H (match evB C m env st with
      | .ok d st1 => f d st1
      | .exc c st1 => .exc c env st1
      | .err => .err))
    (h : ∀ ι1 H1 b st1, Ext ι H ι1 H1 → Sim (W.wh hid) ι1 st1 H1 → SimE (W.wh hid) ι1 H1 σ env → PostO (W.wh hid) Wx D ι1 H1 (f b st1) → Q b H1) : tEb W C Wx m σ H Q := by
  refine ⟨hid, env, st, ι, S, SE, ?_⟩
  cases hr : evB C m env st with
  | ok d st1 =>
    rw [hr] at post
    intro ι' H' v x' S' e
    have e : d = v := e
    subst e
    exact h ι' H' d st1 x' S' (SE.mono x') (PostO.ext post x')
  | exc cc st1 => rw [hr] at post; exact fun ι' H' x' S' => post ι' H' σ x' S' (SE.mono x')
  | err => rw [hr] at post; exact post
theorem if_ok {m : E} {a b : S} {x : Expr} {as bs : List Stmt} (h : Okx W C Wx X m x) (ha : PSs X as (tSx W C Wx a)) (hb : PSs X bs (tSx W C Wx b)) : PS X (.If x as bs pos) (tSx W C Wx (.ite m a b)) := by
  refine PS.imp (ps_if h.pt ha hb) fun D σ H q => ?_
  obtain ⟨hid, env, st, ι, S, SE, post⟩ := q
  have post : PostO (W.wh hid) Wx D ι H (match evB C m env st with
      | .ok d st1 => if d then exec C a env st1 else exec C b env st1
      | .exc c st1 => .exc c env st1
      | .err => .err) := by
    simp only [exec] at post
    cases hr : evB C m env st with
    | ok d st1 => rw [hr] at post; cases d <;> exact post
    | exc cc st1 => rw [hr] at post; exact post
    | err => rw [hr] at post; exact post
  refine tEb_of (f := fun d st1 => if d then exec C a env st1 else exec C b env st1) S SE post fun ι1 H1 v st1 x1 S1 SE1 p1 => ?_
  cases v with
  | true => exact iteT ⟨hid, env, st1, ι1, S1, SE1, p1⟩
  | false => exact iteF ⟨hid, env, st1, ι1, S1, SE1, p1⟩
theorem while_ok {m : E} {b : S} {x : Expr} {bs : List Stmt} (hp : PassesOwn (model X.prog X.w) X.A X.env X.xe) (h : Okx W C Wx X m x) (hb : PSs X bs (tSx W C Wx b)) : PS X (.While x bs [] pos) (tSx W C Wx (.while_ m b)) := by
  refine PS.imp (ps_while hp h.pt hb) fun D σ H q => ?_
  obtain ⟨hid, env, st, ι, S, SE, post⟩ := q
  simp only [exec] at post
  refine ⟨fun n σ H => ∃ env st ι, Sim (W.wh hid) ι st H ∧ SimE (W.wh hid) ι H σ env ∧ PostO (W.wh hid) Wx D ι H (whLoop (evB C m) (exec C b) n env st), ⟨_, env, st, ι, S, SE, post⟩, ?_⟩
  clear S SE post
  rintro n σ H ⟨env, st, ι, S, SE, post⟩
  cases n with
  | zero => exact post.elim
  | succ n =>
    have post : PostO (W.wh hid) Wx D ι H (match evB C m env st with
      | .ok d st1 => if d then (match exec C b env st1 with
        | .next env' st' => whLoop (evB C m) (exec C b) n env' st'
        | .cont env' st' => whLoop (evB C m) (exec C b) n env' st'
        | .brk env' st' => .next env' st'
        | .ret d st' => .ret d st'
        | .exc c env' st' => .exc c env' st'
        | .err => .err) else .next env st1
      | .exc c st1 => .exc c env st1
      | .err => .err) := by
      simp only [whLoop] at post
      cases hr : evB C m env st with
      | ok d st1 => rw [hr] at post; cases d <;> exact post
      | exc cc st1 => rw [hr] at post; exact post
      | err => rw [hr] at post; exact post
    refine tEb_of (f := fun d st1 => if d then (match exec C b env st1 with
        | .next env' st' => whLoop (evB C m) (exec C b) n env' st'
        | .cont env' st' => whLoop (evB C m) (exec C b) n env' st'
        | .brk env' st' => .next env' st'
        | .ret d st' => .ret d st'
        | .exc c env' st' => .exc c env' st'
        | .err => .err) else .next env st1) S SE post fun ι1 H1 v st1 x1 S1 SE1 p1 => ?_
    cases v with
    | false => exact iteF (p1 ι1 H1 σ (Ext.refl _ _) S1 SE1)
    | true =>
      refine iteT ⟨fun σ H => ∃ env st ι, Sim (W.wh hid) ι st H ∧ SimE (W.wh hid) ι H σ env ∧ PostO (W.wh hid) Wx D ι H (whLoop (evB C m) (exec C b) n env st), fun σ' H' q => ⟨n, Nat.lt_succ_self n, q⟩, ?_⟩
      refine ⟨hid, env, st1, ι1, S1, SE1, ?_⟩
      simp only [if_true] at p1
      cases h : exec C b env st1 with
      | next env' st' => rw [h] at p1; exact fun ι' H' σ' x' S' SE' => ⟨env', st', ι', S', SE', PostO.ext p1 x'⟩
      | ret d st' => rw [h] at p1; exact p1
      | brk env' st' => rw [h] at p1; exact p1
      | cont env' st' => rw [h] at p1; exact fun ι' H' σ' x' S' SE' => ⟨env', st', ι', S', SE', PostO.ext p1 x'⟩
      | exc cc env' st' => rw [h] at p1; exact p1
      | err => rw [h] at p1; exact p1
theorem for_ok {it : E} {t : Tg} {b : S} {tg x : Expr} {bs : List Stmt} (hp : PassesOwn (model X.prog X.w) X.A X.env X.xe) (hc : X.calm = true) (hi : PI X tg x (iEv W C Wx it)) (hf : isSet x = false) (hg : PG X tg (gEv W t)) (hb : PSs X bs (tSx W C Wx b)) : PS X (.For tg x bs [] pos) (tSx W C Wx (.for_ t it b)) := by
  refine PS.imp (ps_for hp hc hi hg hb (folded hf)) fun D σ H q => ?_
  obtain ⟨hid, env, st, ι, S, SE, post⟩ := q
  simp only [exec] at post
  refine ⟨hid, env, st, ι, S, SE, ?_⟩
  cases hw : evw C it env st with
  | err => rw [hw] at post; exact post
  | exc cc st1 => rw [hw] at post; exact fun ι' H' x' S' => post ι' H' σ x' S' (SE.mono x')
  | ok w st1 =>
    rw [hw] at post
    intro ι1 H1 J X1 S1 wok
    have wok : Wok (W.wh hid) ι1 H1 w J := wok
    have p1 := PostO.ext post X1
    dsimp only at p1
    generalize hbd : (fun x env1 st2 => match asgT t x env1 with
        | some env2 => exec C b env2 st2
        | none => .err) = bd at p1
    refine ⟨fun i n σ' H' => n = w.items.length - i ∧ i ≤ w.items.length ∧ ∃ env' st' ι', Ext ι1 H1 ι' H' ∧ Sim (W.wh hid) ι' st' H' ∧ SimE (W.wh hid) ι' H' σ' env' ∧ PostO (W.wh hid) Wx D ι' H' (forLoop w.src bd (w.items.drop i) env' st'),
      ⟨_, rfl, Nat.zero_le _, env, st1, ι1, Ext.refl _ _, S1, SE.mono X1, p1⟩, ?_⟩
    rintro i n σ2 H2 ⟨rfl, hi2, env2, st2, ι2, X2, S2, SE2, p2⟩
    by_cases hs : still st2 w.src = true
    · by_cases hlt : i < w.items.length
      · have ed : w.items.drop i = w.items[i] :: w.items.drop (i + 1) := List.drop_eq_getElem_cons hlt
        rw [ed] at p2
        simp only [forLoop, hs, if_true] at p2
        refine .inr ⟨wok.go i hid ι2 H2 st2 (HidX.refl _ _) X2 S2 hs hlt, fun σ' H' => i + 1 ≤ w.items.length ∧ ∃ env' st' ι', Ext ι1 H1 ι' H' ∧ Sim (W.wh hid) ι' st' H' ∧ SimE (W.wh hid) ι' H' σ' env' ∧ PostO (W.wh hid) Wx D ι' H' (forLoop w.src bd (w.items.drop (i + 1)) env' st'),
          fun σ' H' q => ⟨w.items.length - (i + 1), by omega, rfl, q⟩, fun v H' hy => ?_⟩
        obtain ⟨X3, S3, rx⟩ := wok.yld i hid ι2 H2 st2 _ v H' (HidX.refl _ _) X2 S2 hs (List.getElem?_eq_getElem hlt) hy
        have p3 := PostO.ext p2 X3
        have SE3 := SE2.mono X3
        have X13 := X2.trans X3
        cases ha : asgT t w.items[i] env2 with
        | none =>
          rw [← hbd] at p3
          simp only [ha] at p3
          exact p3.elim
        | some env3 =>
          refine ⟨hid, _, env2, st2, ι2, S3, SE3, rx, env3, ha, fun σ4 SE4 _ => ?_⟩
          refine ⟨hid, env3, st2, ι2, S3, SE4, ?_⟩
          have eb : bd w.items[i] env2 st2 = exec C b env3 st2 := by rw [← hbd]; simp only [ha]
          rw [eb] at p3
          cases h : exec C b env3 st2 with
          | next env' st' => rw [h] at p3; exact fun ι' H' σ' x' S' SE' => ⟨hlt, env', st', ι', X13.trans x', S', SE', PostO.ext p3 x'⟩
          | ret d st' => rw [h] at p3; exact p3
          | brk env' st' => rw [h] at p3; exact p3
          | cont env' st' => rw [h] at p3; exact fun ι' H' σ' x' S' SE' => ⟨hlt, env', st', ι', X13.trans x', S', SE', PostO.ext p3 x'⟩
          | exc cc env' st' => rw [h] at p3; exact p3
          | err => rw [h] at p3; exact p3
      · have ei : i = w.items.length := by omega
        subst ei
        rw [List.drop_length] at p2
        simp only [forLoop, hs, if_true] at p2
        exact .inl ⟨wok.stop _ hid ι2 H2 st2 (HidX.refl _ _) X2 S2 hs rfl, p2 ι2 H2 σ2 (Ext.refl _ _) S2 SE2⟩
    · have hs' : still st2 w.src = false := by simpa using hs
      cases hd : w.items.drop i with
      | nil => rw [hd] at p2; simp only [forLoop, hs'] at p2; exact p2.elim
      | cons _ _ => rw [hd] at p2; simp only [forLoop, hs'] at p2; exact p2.elim
theorem raise_ok (g : Gd c X) (gl : Glb W G C k X) (tk : L2N.Takes X Wx) (hh : c.hot = false) {id : Nat} {z m : Str} {j : Nat} {p1 p2 p3 : Pos} (hg : glB c.sc z = true) (hz : (id, z) ∈ G.cls) (hn : plainName z = true) :
    PS X (.Raise (some (.Call (.Name z p1) [.Constant (.str m) j p2] [] p3)) none pos) (tSx W C Wx (.raise id)) := by
  have hc : X.calm = true := by rw [g.calm, hh]; rfl
  obtain ⟨n1, n2, n3⟩ := plainName_ok hn
  obtain ⟨c1, c2, c3, B, newId, initId, bmB, c4, c5⟩ := gl.cls _ _ hz
  refine PS.imp (L2N.ps_raise hc tk (L2N.pmk_own c4 c5 c1 c2 c3 (g.gl hg) n1)) fun D σ H q => ?_
  obtain ⟨hid, env, st, ι, S, SE, post⟩ := q
  simp only [exec] at post
  exact post ι H σ (Ext.refl _ _) S SE
theorem lcs_ok (g : Gd c X) {i : Nat} {y : Str} {py : Pos} {mm : Bool} {own : List Nat} {t : Tg} {it cc e' : E} {tg elt iter : Expr} {ifs : List Expr} {scope : Scope} {lp : Pos} (hh : c.hot = false) (hN : c.N[i]? = some y) (hy : c.sc.names.lookup y = some .local)
    (hsw : ∀ l, swapsWith (.ListComp elt [⟨tg, iter, ifs, 0⟩] scope lp) (some (.Name y py)) l X.env = pure true)
    (hi : PI X tg iter (iEv W C Wx it)) (hf : isSet iter = false)
    (hb : blkC c.N c.sc scope (own.map fun i => ((c.N[i]?).getD ("" : Str), i)) = true) (ho : (t.slots.all fun i => decide (i ∈ own)) = true)
    (ht : ∀ X', Gd ⟨c.N, relS scope c.sc, fun x => scope.names.lookup x == some .cell, c.hot⟩ X' → PG X' tg (gEv W t))
    (hr : ∀ X', Gd ⟨c.N, relS scope c.sc, fun x => scope.names.lookup x == some .cell, c.hot⟩ X' → (∃ s H env fp, X' = X.blk s H scope env fp) → L2N.Takes X' noX → PTs X' ifs (tEt W C noX cc) ∧ Okx W C noX X' e' elt) :
    PS X (.Assign [.Name y py] (.ListComp elt [⟨tg, iter, ifs, 0⟩] scope lp) pos) (tSx W C Wx (.asg (.name i) (.lc mm own t it cc e'))) := by
  have hc : X.calm = true := by rw [g.calm, hh]; rfl
  have gd : ∀ s H Cc cl fp, Gd ⟨c.N, relS scope c.sc, fun x => scope.names.lookup x == some .cell, c.hot⟩ (X.blk s H scope (compEnvC scope cl Cc X.env) fp) := fun s H Cc cl fp =>
    ⟨g.N, g.nd, by rw [← g.sc]; rfl, rfl, g.calm⟩
  have tk : ∀ s H Cc cl fp, L2N.Takes (X.blk s H scope (compEnvC scope cl Cc X.env) fp) noX := fun s H Cc cl fp u s' ⟨a, B, sI, pins, σ, H, cls, d, e, I, nb, up, sky, na, os, ag, w⟩ => w
  have bo := blkOk_by hb
  rw [← g.N, ← g.sc] at bo
  have em : (own.map fun i => ((X.N[i]?).getD ("" : Str), i)).map (·.2) = own := by
    rw [List.map_map]
    exact List.map_id' own
  refine PS.imp (ps_setLc (i := i) hc (by rw [g.N]; exact g.nd) (by rw [g.N]; exact hN) (by rw [g.sc]; exact hy) (hsw _) hi bo (fun s H Cc cl fp => ht _ (gd s H Cc cl fp)) (fun s H Cc cl fp => (hr _ (gd s H Cc cl fp) ⟨s, H, _, fp, rfl⟩ (tk s H Cc cl fp)).1) (fun s H Cc cl fp => (hr _ (gd s H Cc cl fp) ⟨s, H, _, fp, rfl⟩ (tk s H Cc cl fp)).2.pe) (folded hf)) fun D σ H q => ?_
  rw [em]
  exact lc_ok (fun i hi => of_decide_eq_true (List.all_eq_true.mp ho i hi)) σ H _ (set_tS q)
def swB (c : Ck) (y : Str) (py : Pos) : Expr → Bool
  | .ListComp _ _ scope lp => (match c.sc.names.lookup y with | some .local => true | _ => false) && (py.line == lp.line) && !(scope.names.any fun (n, k) => n == y && (k == .local || k == .cell))
  | _ => false
def isFnK : Scope → Bool := fun sc => match sc.kind with
  | .function => true
  | _ => false
theorem sw_name (g : Gd c X) {x : Expr} {y : Str} {py : Pos} (hk : isFnK c.sc = true) (h1 : ∀ a b sc d, x ≠ .SetComp a b sc d) (h2 : ∀ a b e sc d, x ≠ .DictComp a b e sc d) (l : Nat) : swapsWith x (some (.Name y py)) l X.env = pure (swB c y py x) := by
  have hk' : X.env.scope.kind = .function := by
    rw [g.sc]
    unfold isFnK at hk
    split at hk
    · assumption
    · cases hk
  have hb : X.env.blockKind = .function := by unfold Env.blockKind; rw [hk']; rfl
  cases x with
  | ListComp elt gs scope lp =>
    have ky : X.env.kindOf y = c.sc.names.lookup y := by rw [← g.sc]; rfl
    have e : (X.env.kindOf y == some NameKind.local) = (match c.sc.names.lookup y with | some .local => true | _ => false) := by
      rw [ky]
      cases hl : c.sc.names.lookup y with
      | none => rfl
      | some kd => cases kd <;> rfl
    unfold swapsWith
    simp only [hb, e, Expr.pos, swB]
    rfl
  | SetComp a b sc d => exact absurd rfl (h1 _ _ _ _)
  | DictComp a b e sc d => exact absurd rfl (h2 _ _ _ _ _)
  | _ => rfl
end
end Mn

set_option Elab.async false
set_option linter.all false
set_option maxRecDepth 100000
set_option maxHeartbeats 8000000
/-! Snd19: the evaluator is right about statements and defs. -/
namespace Mn
open PySem PySem.Spec PyProof.Rows L2
theorem sw_pair {env : PySem.Env} {x y : Str} {px py pt pt2 : Pos} {kt k2} {a b : Expr} (hb : env.blockKind = .function) (kx : env.kindOf x = some .local) (ky : env.kindOf y = some .local) (hl : (py.line == px.line) = true) (hne : x ≠ y)
    (ha : isStar a = false) (hb' : isStar b = false) (hf : ([a, b].all (foldedForSure 8)) = false) (hcs : ([a, b].all (constantsAlone 8)) = false) :
    swappedStores [.Tuple [.Name x px, .Name y py] kt pt] (.Tuple [a, b] k2 pt2) env = pure (some [x, y]) := by
  have hst : ([a, b].any fun | .Starred .. => true | _ => false) = false := by
    cases a <;> first | (simp [isStar] at ha; done) | (cases b <;> first | (simp [isStar] at hb'; done) | rfl)
  have e1 : (x == y) = false := by simpa using hne
  unfold swappedStores
  simp only [hb, hst, hf, hcs, List.filterMap, kx, ky, List.head?, Option.map, Expr.pos, Option.getD, hl, beq_self_eq_true, List.length]
  have hd : ([x, y] : List Str).eraseDups = [x, y] := by
    have e2 : (y == x) = false := by simpa using fun z => hne z.symm
    simp [List.eraseDups, List.eraseDupsBy, List.eraseDupsBy.loop, e1, e2]
  simp [hd]
  intro h
  rcases h with h | h
  · cases a <;> first | (simp [isStar] at ha; done) | (cases h; done)
  · cases b <;> first | (simp [isStar] at hb'; done) | (cases h; done)
section
variable {W : Wd} {G : Gt} {C : Calls} {k : Nat} {Wx : WX} {X : Cx} {c : Ck} {pos p : Pos}
theorem par_ok (g : Gd c X) {i j : Nat} {a b : E} {x y : Str} {xa xb : Expr} {px py pt pt2 : Pos} {kt k2} (hh : c.hot = false) (hk : isFnK c.sc = true) (hi : c.N[i]? = some x) (hj : c.N[j]? = some y) (hij : i ≠ j)
    (hx : c.sc.names.lookup x = some .local) (hy : c.sc.names.lookup y = some .local) (ha : PA X [xa, xb] (tEs W C Wx (.cons a (.cons b .nil)))) (sa : isStar xa = false) (sb : isStar xb = false)
    (hl : (py.line == px.line) = true) (hf : ([xa, xb].all (foldedForSure 8)) = false) (hcs : ([xa, xb].all (constantsAlone 8)) = false) :
    PS X (.Assign [.Tuple [.Name x px, .Name y py] kt pt] (.Tuple [xa, xb] k2 pt2) pos) (tSx W C Wx (.par i j a b)) := by
  have hc : X.calm = true := by rw [g.calm, hh]; rfl
  have hk' : X.env.scope.kind = .function := by
    rw [g.sc]
    unfold isFnK at hk
    split at hk
    · assumption
    · cases hk
  have hb : X.env.blockKind = .function := by unfold Env.blockKind; rw [hk']; rfl
  have hne : x ≠ y := fun e => hij ((List.getElem?_inj (List.getElem?_eq_some_iff.mp hi).1 g.nd).mp (by rw [hi, hj, e]))
  have kx : X.env.scope.names.lookup x = some .local := by rw [g.sc]; exact hx
  have ky : X.env.scope.names.lookup y = some .local := by rw [g.sc]; exact hy
  refine PS.imp (ps_par hc (by rw [g.N]; exact g.nd) (by rw [g.N]; exact hi) (by rw [g.N]; exact hj) hij kx ky ha (sw_pair hb kx ky hl hne sa sb hf hcs) rfl) fun D σ H q => ?_
  obtain ⟨hid, env, st, ι, S, SE, post⟩ := q
  simp only [exec] at post
  refine ⟨hid, env, st, ι, S, SE, ?_⟩
  cases hr : evs C (.cons a (.cons b .nil)) env st with
  | err => rw [hr] at post; exact post
  | exc cc st1 => rw [hr] at post; exact fun ι' H' x' S' => post ι' H' σ x' S' (SE.mono x')
  | ok ds st1 =>
    rw [hr] at post
    intro ι1 H1 vs X1 S1 rl
    rcases ds with _ | ⟨d, _ | ⟨d2, _ | ⟨_, ds⟩⟩⟩
    · exact post.elim
    · exact post.elim
    · dsimp only at post
      split at post
      · cases rl with
        | cons r1 rl =>
          cases rl with
          | cons r2 rl =>
            cases rl
            exact ⟨_, _, rfl, post ι1 H1 _ X1 S1 (((SE.mono X1).set r1).set r2)⟩
      · exact post.elim
    · exact post.elim
end
def isSetD : Expr → Bool
  | .SetComp .. => true
  | .DictComp .. => true
  | _ => false
def locB (sc : Scope) (x : Str) : Bool := match sc.names.lookup x with
  | some .local => true
  | _ => false
theorem locB_ok {sc : Scope} {x : Str} (h : locB sc x = true) : sc.names.lookup x = some .local := by
  unfold locB at h
  split at h
  · assumption
  · cases h
def raisePat : Expr → Option Str
  | .Call (.Name z _) [.Constant (.str _) _ _] [] _ => some z
  | _ => none
theorem raisePat_eq {e : Expr} {z : Str} (h : raisePat e = some z) : ∃ p1 m j p2 p3, e = .Call (.Name z p1) [.Constant (.str m) j p2] [] p3 := by
  unfold raisePat at h
  split at h
  · cases h
    exact ⟨_, _, _, _, _, rfl⟩
  · cases h
def parPat : Expr → Expr → Option (Str × Str × Expr × Expr)
  | .Tuple [.Name x px, .Name y py] _ _, .Tuple [a, b] _ _ => if (py.line == px.line) && !isStar a && !isStar b && !([a, b].all (foldedForSure 8)) && !([a, b].all (constantsAlone 8)) then some (x, y, a, b) else none
  | _, _ => none
theorem parPat_eq {t e : Expr} {x y : Str} {a b : Expr} (h : parPat t e = some (x, y, a, b)) : ∃ px py k1 p1 k2 p2, t = .Tuple [.Name x px, .Name y py] k1 p1 ∧ e = .Tuple [a, b] k2 p2 ∧ (py.line == px.line) = true ∧ isStar a = false ∧ isStar b = false ∧ ([a, b].all (foldedForSure 8)) = false ∧ ([a, b].all (constantsAlone 8)) = false := by
  unfold parPat at h
  split at h
  · split at h
    · rename_i hc
      cases h
      simp only [Bool.and_eq_true, Bool.not_eq_true'] at hc
      exact ⟨_, _, _, _, _, _, rfl, rfl, hc.1.1.1.1, hc.1.1.1.2, hc.1.1.2, hc.1.2, hc.2⟩
    · cases h
  · cases h
def docPat : Expr → Bool
  | .Constant (.str _) _ _ => true
  | _ => false
def asgB (c : Ck) (t : Tg) (tg x : Expr) : Bool := match t, tg with
  | .name i, .Name y py => isFnK c.sc && decide (c.N[i]? = some y) && storeB c y && !isSetD x
  | t, tg => chkT c t tg && !isName tg && !isTupE x && !isStar tg
/-- try: .. except z as n: return f(n) -/
def tryPat : Stmt → Option (List Stmt × Str × Str × Str × Str)
  | .Try body [.ExceptHandler (some (.Name z _)) (some n) [.Return (some (.Call (.Name fz _) [.Name n' _] [] _)) _] _] [] [] _ => some (body, z, n, fz, n')
  | _ => none
theorem tryPat_eq {x : Stmt} {body : List Stmt} {z n fz n' : Str} (h : tryPat x = some (body, z, n, fz, n')) : ∃ p1 p2 p3 p4 p5 p6 p7, x = .Try body [.ExceptHandler (some (.Name z p1)) (some n) [.Return (some (.Call (.Name fz p2) [.Name n' p3] [] p4)) p5] p6] [] [] p7 := by
  unfold tryPat at h
  split at h
  · cases h
    exact ⟨_, _, _, _, _, _, _, rfl⟩
  · cases h
def tryPat2 : Stmt → Option (List Stmt × Str × Stmt × List Stmt)
  | .Try body [.ExceptHandler (some (.Name z _)) none (b0 :: su) _] [] [] _ => some (body, z, b0, su)
  | _ => none
theorem tryPat2_eq {x : Stmt} {body su : List Stmt} {z : Str} {b0 : Stmt} (h : tryPat2 x = some (body, z, b0, su)) : ∃ p1 p2 p3, x = .Try body [.ExceptHandler (some (.Name z p1)) none (b0 :: su) p2] [] [] p3 := by
  unfold tryPat2 at h
  split at h
  · cases h
    exact ⟨_, _, _, rfl⟩
  · cases h
def knowsB (G : Gt) (n : Nat) : Bool := (List.range n).all fun j => G.cls.any fun q => q.1 == j
theorem knowsB_ok {G : Gt} {n j : Nat} (h : knowsB G n = true) (hj : j < n) : ∃ y, (j, y) ∈ G.cls := by
  obtain ⟨⟨j', y⟩, hq, he⟩ := List.any_eq_true.mp (List.all_eq_true.mp h j (List.mem_range.mpr hj))
  have he : j' = j := beq_iff_eq.mp he
  subst he
  exact ⟨y, hq⟩
/-- the body of a def -/
structure Bd (X : Cx) : Prop where
  pass : PassesOwn (model X.prog X.w) X.A X.env X.xe
  hs : X.stack = X.env :: X.outer
  hf : X.env.frame = some X.env.locals
mutual
theorem R.back {W1 W2 : Wd} {ι1 ι2 : List Addr} {H : Hp} (hF : ∀ a, Fz W1 ι1 a → Fz W2 ι2 a) : ∀ {d : D} {v : V}, d.isP = true → R W1 ι1 H d v → R W2 ι2 H d v
  | .non, _, _, .non => .non
  | .bl _, _, _, .bl b => .bl b
  | .int _, _, _, .int i => .int i
  | .str _, _, _, .str z => .str z
  | .tup _, _, hp, .tup h1 h2 h3 => .tup h1 (hF _ h2) (RL.back hF hp h3)
  | .lst _, _, hp, .lst h1 h2 h3 => .lst h1 (hF _ h2) (RL.back hF hp h3)
theorem RL.back {W1 W2 : Wd} {ι1 ι2 : List Addr} {H : Hp} (hF : ∀ a, Fz W1 ι1 a → Fz W2 ι2 a) : ∀ {ds : List D} {vs : List V}, isPs ds = true → RL W1 ι1 H ds vs → RL W2 ι2 H ds vs
  | [], _, _, .nil => .nil
  | d :: ds, _, hp, .cons r rl => .cons (R.back hF (Bool.and_eq_true_iff.mp hp).1 r) (RL.back hF (Bool.and_eq_true_iff.mp hp).2 rl)
end
theorem ObR.some {W : Wd} {ι : List Addr} {H : Hp} {o : Ob} {a : Addr} (h : ObR W ι H o a) : ∃ u, H a = .some u := by
  cases o with
  | lst xs => obtain ⟨vs, h, r⟩ := h; exact ⟨_, h⟩
  | dct kvs => obtain ⟨o, es, ep, xs, h, _⟩ := h; exact ⟨_, h⟩
  | ins c fs => exact h.elim
theorem Sim.has {W : Wd} {ι : List Addr} {st : Store} {H : Hp} (S : Sim W ι st H) {a : Addr} (h : a ∈ ι) : ∃ u, H a = .some u := by
  obtain ⟨n, hn, e⟩ := List.mem_iff_getElem.mp h
  have h1 : ι[n]? = .some a := by rw [List.getElem?_eq_getElem hn, e]
  have h2 : st[n]? = .some (st[n]'(by rw [← S.len]; exact hn)) := List.getElem?_eq_getElem _
  exact (S.ob n a _ h1 h2).some
/-- nothing that stood was changed -/
theorem Sim.kept {W : Wd} {ι ι' : List Addr} {st : Store} {H H' : Hp} (S : Sim W ι st H) (x : Ext [] H ι' H') : Sim W ι st H' ∧ Ext ι H ι H' := by
  have e : Ext ι H ι H' := ⟨⟨[], by simp⟩, fun a o h _ => x.keep a o h (fun z => nomatch z), fun a h => .inl h⟩
  refine ⟨⟨S.len, S.nd, fun n a o h1 h2 => (S.ob n a o h1 h2).mono e fun u hu => x.keep a u hu (fun z => nomatch z), fun a ha => ?_⟩, e⟩
  obtain ⟨h1, o, h2⟩ := S.hid a ha
  exact ⟨h1, o, x.keep a o h2 fun z => nomatch z⟩
section
variable {X : Cx} {k : Nat} {f : Addr} {fd : FuncData} {ps : List Str} {sp : Addr → Sp} {cl : Addr} {CX : CXT}
theorem run_Z {pins : List (Addr × Obj)} {σ : L2.St} {H : Hp} {s : Shared} {Q : VK} {E : L2.St → XK} {us : List Value} {vs : List V} {p : Addr × Obj} (F : FnZ X.prog X.w X.K X.mg X.base CX k f fd ps sp cl) (hr : L2H.RoomH k X.A) (hot : L2H.Hot1 X.A p) (hp : p ∈ X.pn) (hz : Zc (.ref cl) none p.2)
    (hb : Binds X.K fd ps []) (hx : PassesAt CX X σ (E σ)) (I : Inv X pins σ H s) (r : Vals vs us) (h : sp p.1 vs H Q (E σ)) : wpAny (model X.prog X.w) X.A (call (.ref f) us) (EP X pins σ Q) X.xe s := by
  have hl : us.length = ps.length := by
    have := F.len _ _ _ _ _ h
    rw [← r.length]; exact this
  have b0 := hb s us I.kIn (by rw [List.append_nil]; exact hl)
  rw [List.append_nil] at b0
  have P0 := I.pin p (List.mem_append_left _ hp)
  have pin : L2H.PinOk X.stack H s p := by
    refine ⟨P0.1, P0.2.1, fun hm => ?_, P0.2.2.2.2⟩
    rcases List.mem_cons.mp (I.stkSub p.1 hm) with z | z
    · exact P0.2.2.1 z
    · exact P0.2.2.2.1 z
  refine wpAny_call (codeAny_mono (F.run X.A X.stack s H ⟨us, []⟩ us vs Q (E σ) p hr hot hz pin I.env0 b0 r h) fun res s' hq => ?_)
  cases res with
  | error e => exact hx pins H s e s' I hq
  | ok fl => cases fl with
    | ret u => exact I.after hq
    | _ => exact False.elim hq
end
/-- what the suite return f(n) wishes -/
def tsAs (W : Wd) (G : Gt) (C : Calls) (i f : Nat) (a : Addr) (cls : Value) (d : Option Addr) : TS := fun D σ H => ∃ id y, (id, y) ∈ G.cls ∧ cls = .ref (W.ca id) ∧ d = none ∧ σ[i]? = some (some (.ref a)) ∧ spEv { W with hx := some (a, id) } C f [.ref a] H D.rt fun _ _ _ => False
mutual
def chkS (G : Gt) : Ck → S → Stmt → Bool
  | _, .pass, .Pass _ => true
  | _, .nev, _ => true
  | _, .brk, .Break _ => true
  | _, .cont, .Continue _ => true
  | c, .expr e, .Expr x _ => chkE G c e x && !isComp x
  | c, .ret e, .Return (some x) _ => chkE G c e x
  | _, .retN, .Return none _ => true
  | c, .asg t e, .Assign [tg] x _ => chkE G c e x && asgB c t tg x
  | c, .par i j a b, .Assign [tg] x _ => (match parPat tg x with
    | some (u, v, xa, xb) => !c.hot && isFnK c.sc && decide (c.N[i]? = some u) && decide (c.N[j]? = some v) && decide (i ≠ j) && locB c.sc u && locB c.sc v && chkE G c a xa && chkE G c b xb
    | none => false)
  | c, .setI o i e, .Assign [.Subscript xo xi _] x _ => chkE G c e x && chkE G c o xo && chkE G c i xi && !isSlice xi
  | c, .ite m a b, .If x as bs _ => chkE G c m x && chkSs G c a as && chkSs G c b bs
  | c, .for_ t it b, .For tg x bs [] _ => !c.hot && chkW G c it x tg && chkT c t tg && chkSs G c b bs
  | c, .while_ m b, .While x bs [] _ => chkE G c m x && chkSs G c b bs
  | c, .raise id, .Raise (some x) none _ => (match raisePat x with
    | some z => !c.hot && glB c.sc z && decide ((id, z) ∈ G.cls) && plainName z
    | none => false)
  | c, .tryAs n i b f, x => (match tryPat x with
    | some (body, z, nm, fz, nm') => !c.hot && chkSs G c b body && glB c.sc z && decide ((0, z) ∈ G.cls) && plainName z && decide (c.N[i]? = some nm) && locB c.sc nm && decide (nm' = nm) && plainName nm && glB c.sc fz && decide ((f, fz) ∈ G.fns) && decide (f ∈ G.hots) && plainName fz && knowsB G n
    | none => false)
  | c, .tryC n b s, x => (match tryPat2 x with
    | some (body, z, b0, su) => !c.hot && chkSs G c b body && glB c.sc z && decide ((0, z) ∈ G.cls) && plainName z && chkSs G { c with hot := true } s (b0 :: su) && knowsB G n
    | none => false)
  | _, _, _ => false
def chkSs (G : Gt) : Ck → S → List Stmt → Bool
  | _, .nil, [] => true
  | c, .cons s r, x :: xs => chkS G c s x && chkSs G c r xs
  | _, _, _ => false
end
section
variable {W : Wd} {G : Gt} {C : Calls} {k : Nat}
theorem asgName_ok {i : Nat} {m : E} {c : Ck} {x : Expr} {y : Str} {py pos : Pos} {X : Cx} {Wx : WX} (h : chkE G c m x = true) (hk : isFnK c.sc = true) (hN : c.N[i]? = some y) (hst : storeB c y = true) (hsd : isSetD x = false) (g : Gd c X) (gl : Glb W G C k X) (tk : L2N.Takes X Wx) :
    PS X (.Assign [.Name y py] x pos) (tSx W C Wx (.asg (.name i) m)) := by
  have sn := sw_name (x := x) (y := y) (py := py) g hk (fun a b sc d e => by rw [e] at hsd; cases hsd) (fun a b e sc d z => by rw [z] at hsd; cases hsd)
  cases hb : swB c y py x with
  | false => exact set_ok g (ev_ok m c x X Wx h g gl tk) hN hst fun l => by rw [sn l, hb]
  | true =>
    cases x with
    | ListComp elt gens scope lp =>
      have hloc : c.sc.names.lookup y = some .local := by
        simp only [swB, Bool.and_eq_true] at hb
        have := hb.1.1
        split at this
        · assumption
        · cases this
      cases m with
      | lc mm own t it cc e' =>
        rcases gens with _ | ⟨⟨tg, iter, ifs, as⟩, _ | ⟨_, gens⟩⟩
        · exact nope h
        · simp only [chkE, Bool.and_eq_true, Bool.not_eq_true', decide_eq_true_eq] at h
          obtain ⟨⟨⟨hh, ha⟩, hw⟩, ⟨⟨⟨hb', ho⟩, ht⟩, hcc⟩, he⟩ := h
          subst ha
          obtain ⟨hi, hf⟩ := evw_ok it c iter tg X Wx hw hh g gl tk
          refine lcs_ok g hh hN hloc (fun l => by rw [sn l, hb]) hi hf hb' ho (fun X' g' => tg_ok g' t tg ht) fun X' g' hx tk' => ?_
          obtain ⟨s, H, env, fp, rfl⟩ := hx
          exact ⟨evc_ok cc _ ifs _ noX hcc g' (gl.blk (by rw [g.calm, hh]; rfl)) tk', ev_ok e' _ elt _ noX he g' (gl.blk (by rw [g.calm, hh]; rfl)) tk'⟩
        · exact nope h
      | _ => exact nope h
    | _ => cases hb
theorem tryAs_ok {c : Ck} {X : Cx} {Wx : WX} (g : Gd c X) (gl : Glb W G C k X) (tk : L2N.Takes X Wx) (hp : Bd X) {n i f : Nat} {b : S} {body : List Stmt} {z nm fz : Str} {p1 p2 p3 p4 p5 p6 p7 : Pos} (c1 : c.hot = false)
    (hb : ∀ (Wb : WX) (pn : List (Addr × Obj)) (xe : Value → Shared → Prop), L2N.Takes (X.tr pn xe) Wb → PassesOwn (model X.prog X.w) X.A X.env xe → PSs (X.tr pn xe) body (tSx W C Wb b))
    (c3 : glB c.sc z = true) (c4 : (0, z) ∈ G.cls) (c5 : plainName z = true) (c6 : c.N[i]? = some nm) (c7 : locB c.sc nm = true) (c9 : plainName nm = true) (c10 : glB c.sc fz = true) (c11 : (f, fz) ∈ G.fns) (c12 : f ∈ G.hots) (c13 : plainName fz = true) (c14 : knowsB G n = true) :
    PS X (.Try body [.ExceptHandler (some (.Name z p1)) (some nm) [.Return (some (.Call (.Name fz p2) [.Name nm p3] [] p4)) p5] p6] [] [] p7) (tSx W C Wx (.tryAs n i b f)) := by
  have cm : X.calm = true := by rw [g.calm, c1]; rfl
  obtain ⟨n1, n2, n3⟩ := plainName_ok c5
  obtain ⟨f1, f2, f3⟩ := plainName_ok c13
  obtain ⟨v1, v2, v3⟩ := plainName_ok c9
  obtain ⟨m1, m2, fd, pp, m3, _, m5⟩ := gl.fn _ _ c11
  have hloc : X.env.kindOf nm = some .local := by
    have := locB_ok c7
    rw [← g.sc] at this
    exact this
  refine PS.imp (L2N.ps_try_as (i := i) (tb := fun Wb => tSx W C Wb b) (ts := tsAs W G C i f) (Wout := Wx) (c := .ref (W.ca 0)) hp.hs hp.hf (by rw [g.N]; exact g.nd) (by rw [g.N]; exact c6) hloc ⟨g.gl c3, n1, .inl (gl.cls _ _ c4).1⟩ tk hb ?_) fun D σ H q => ?_
  · intro a oe cls d pn hz hf
    refine ⟨fun pins s σ H D I q => ?_⟩
    obtain ⟨id, y, hm, rfl, rfl, hσ, hsp⟩ := q
    have hot : L2H.Hot1 (X.suite a ((a, oe) :: pn)).A (a, oe) := by
      obtain ⟨vs, hv⟩ := hf
      exact ⟨rfl, vs, hv, hz.2.2 vs hv⟩
    have tk0 : L2N.Takes (X.suite a ((a, oe) :: pn)) noX := fun u s' xx => by
      obtain ⟨_, _, _, _, _, _, _, _, _, _, _, _, _, _, _, _, w⟩ := xx
      exact w
    have rm : L2H.RoomH k (X.suite a ((a, oe) :: pn)).A := by
      have r0 := gl.room cm
      exact ⟨r0.dp, r0.un⟩
    have pe : PE (X.suite a ((a, oe) :: pn)) (.Call (.Name fz p2) [.Name nm p3] [] p4) (fun σ H Q => σ[i]? = some (some (.ref a)) ∧ spEv { W with hx := some (a, id) } C f [.ref a] H Q fun _ _ _ => False) := by
      refine ⟨fun pins s σ H Q I hq => ?_⟩
      obtain ⟨hσ, hq⟩ := hq
      have ha : PA (X.suite a ((a, oe) :: pn)) [.Name nm p3] (tCons (tVar i) tNil) := pa_cons (pe_var (X := X.suite a ((a, oe) :: pn)) (i := i) (by rw [show (X.suite a ((a, oe) :: pn)).N = X.N from rfl, g.N]; exact c6) (.inl hloc) v1 v2) pa_nil rfl
      refine wpAny_Call_Name_kw (ld_glob I (show Gl (X.suite a ((a, oe) :: pn)) fz from g.gl c10) m1 ?_ f1)
      refine PySem.W.callWith_K (h₀ := X.base) I.ok.mod.kin m2 (thn (ha.run p4 pins s σ H (fun vs H1 => vs = [.ref a] ∧ H1 = H) I ⟨_, hσ, rfl, rfl⟩) fun us s1 hh => ?_) rfl rfl
      obtain ⟨vs, H1, I1, r, e1, e2⟩ := hh
      subst e1; subst e2
      exact ⟨I1.kIn, run_Z (X := X.suite a ((a, oe) :: pn)) (E := fun σ => WE noX σ) (m5 c12 id y hm) rm hot List.mem_cons_self hz.zc m3 (L2N.passAt tk0 σ) I1 r hq⟩
    exact (PSs.imp (pss_cons (ps_ret pe) pss_nil) fun D σ H q => q).run pins s σ H D I ⟨hσ, hsp⟩
  · obtain ⟨hid, env, st, ι, S, SE, post⟩ := q
    refine ⟨hid, env, st, ι, S, SE, ?_⟩
    simp only [exec] at post
    cases he : exec C b env st with
    | next env' st' => rw [he] at post; exact post
    | ret d st' => rw [he] at post; exact post
    | brk env' st' => rw [he] at post; exact post
    | cont env' st' => rw [he] at post; exact post
    | err => rw [he] at post; exact post
    | exc cc env' st' =>
      rw [he] at post
      dsimp only at post
      split at post
      · rename_i hcc
        obtain ⟨y, hy⟩ := knowsB_ok c14 hcc.1
        intro ι1 H1 σ1 x1 S1 SE1
        refine ⟨true, (gl.exc _ _ hy).2.2.2 _ c4, fun _ a ha => ?_, fun z => nomatch z⟩
        cases hr : C f [.ex cc] [] with
        | err => rw [hr] at post; exact post.elim
        | exc _ _ => rw [hr] at post; exact post.elim
        | ok d st2 =>
          rw [hr] at post
          dsimp only at post
          split at post
          · rename_i hd
            have hi : i < σ1.length := by
              rw [← SE1.len]
              exact hcc.2
            refine ⟨cc, y, hy, rfl, rfl, by simp [hi], ι1 ++ hid, [.ex cc], [], [], ⟨rfl, List.nodup_nil, fun n a o h => by simp at h, fun b hb => ?_⟩, .cons (.ex rfl) .nil, ?_⟩
            · have hb' : b ∈ ι1 ++ hid := hb
              refine And.intro (fun z => nomatch z) ?_
              rcases List.mem_append.mp hb' with z | z
              · exact S1.has z
              · exact (S1.hid b z).2
            · rw [hr]
              intro ι2 H2 v x2 S2 r2
              obtain ⟨S3, x3⟩ := S1.kept x2
              refine post ι1 H2 v (x1.trans x3) S3 (R.back (fun b hb => ?_) hd r2)
              have hb2 := hb.2
              exact ⟨fun m => hb2 (List.mem_append_left _ m), fun m => hb2 (List.mem_append_right _ m)⟩
          · exact post.elim
      · exact post.elim
theorem tryC_ok {c : Ck} {X : Cx} {Wx : WX} (g : Gd c X) (gl : Glb W G C k X) (tk : L2N.Takes X Wx) (hp : Bd X) {n : Nat} {b s : S} {body su : List Stmt} {b0 : Stmt} {z : Str} {p1 p2 p3 : Pos} (c1 : c.hot = false)
    (hb : ∀ (Wb : WX) (pn : List (Addr × Obj)) (xe : Value → Shared → Prop), L2N.Takes (X.tr pn xe) Wb → PassesOwn (model X.prog X.w) X.A X.env xe → PSs (X.tr pn xe) body (tSx W C Wb b))
    (hsu : ∀ (a : Addr) (pn : List (Addr × Obj)), PSs (X.suite a pn) (b0 :: su) (tSx W C noX s))
    (c3 : glB c.sc z = true) (c4 : (0, z) ∈ G.cls) (c5 : plainName z = true) (c14 : knowsB G n = true) :
    PS X (.Try body [.ExceptHandler (some (.Name z p1)) none (b0 :: su) p2] [] [] p3) (tSx W C Wx (.tryC n b s)) := by
  obtain ⟨n1, n2, n3⟩ := plainName_ok c5
  refine PS.imp (L2N.ps_try_many (tb := fun Wb => tSx W C Wb b) (Wout := Wx) hp.hs hp.hf tk hb (.cons (c := .ref (W.ca 0)) (ts := fun _ _ _ => tSx W C noX s) ⟨g.gl c3, n1, .inl (gl.cls _ _ c4).1⟩ (fun a oe cls d pn _ _ => hsu a ((a, oe) :: pn)) .nil)) fun D σ H q => ?_
  obtain ⟨hid, env, st, ι, S, SE, post⟩ := q
  refine ⟨hid, env, st, ι, S, SE, ?_⟩
  simp only [exec] at post
  cases he : exec C b env st with
  | next env' st' => rw [he] at post; exact post
  | ret d st' => rw [he] at post; exact post
  | brk env' st' => rw [he] at post; exact post
  | cont env' st' => rw [he] at post; exact post
  | err => rw [he] at post; exact post
  | exc cc env' st' =>
    rw [he] at post
    dsimp only at post
    split at post
    · rename_i hcc
      obtain ⟨y, hy⟩ := knowsB_ok c14 hcc
      intro ι1 H1 σ1 x1 S1 SE1
      refine ⟨true, (gl.exc _ _ hy).2.2.2 _ c4, fun _ a ha => ⟨hid, env', st', ι1, S1, SE1, ?_⟩, fun z => nomatch z⟩
      cases hr : exec C s env' st' with
      | next e2 s2 => rw [hr] at post; exact PostO.ext (Wx := Wx) (o := .next e2 s2) post x1
      | ret d s2 => rw [hr] at post; exact PostO.ext (Wx := Wx) (o := .ret d s2) post x1
      | brk e2 s2 => rw [hr] at post; exact PostO.ext (Wx := Wx) (o := .brk e2 s2) post x1
      | cont e2 s2 => rw [hr] at post; exact PostO.ext (Wx := Wx) (o := .cont e2 s2) post x1
      | err => rw [hr] at post; exact post.elim
      | exc _ _ _ => rw [hr] at post; exact post.elim
    · exact post.elim
mutual
theorem exec_ok : ∀ (m : S) (c : Ck) (x : Stmt) (X : Cx) (Wx : WX), chkS G c m x = true → Gd c X → Glb W G C k X → L2N.Takes X Wx → Bd X → PS X x (tSx W C Wx m)
  | .nev, c, x, X, Wx, h, g, gl, tk, hp => ⟨fun pins s σ H D I q => by
    obtain ⟨hid, env, st, ι, S, SE, post⟩ := q
    exact post.elim⟩
  | .pass, c, x, X, Wx, h, g, gl, tk, hp => by
    cases x with
    | Pass _ => exact pass_ok
    | _ => exact nope h
  | .brk, c, x, X, Wx, h, g, gl, tk, hp => by
    cases x with
    | Break _ => exact brk_ok
    | _ => exact nope h
  | .cont, c, x, X, Wx, h, g, gl, tk, hp => by
    cases x with
    | Continue _ => exact cont_ok
    | _ => exact nope h
  | .expr e, c, x, X, Wx, h, g, gl, tk, hp => by
    cases x with
    | Expr y _ =>
      obtain ⟨h1, h2⟩ := andT (show (chkE G c e y && !isComp y) = true from h)
      exact expr_ok (ev_ok e c y X Wx h1 g gl tk) fun l => sw_none (notF h2)
    | _ => exact nope h
  | .ret e, c, x, X, Wx, h, g, gl, tk, hp => by
    cases x with
    | Return v _ =>
      cases v with
      | some y => exact ret_ok (ev_ok e c y X Wx h g gl tk)
      | none => exact nope h
    | _ => exact nope h
  | .retN, c, x, X, Wx, h, g, gl, tk, hp => by
    cases x with
    | Return v _ =>
      cases v with
      | some y => exact nope h
      | none => exact retN_ok
    | _ => exact nope h
  | .asg t e, c, x, X, Wx, h, g, gl, tk, hp => by
    cases x with
    | Assign ts y _ =>
      rcases ts with _ | ⟨tg, _ | ⟨_, ts⟩⟩
      · exact nope h
      · obtain ⟨h1, h2⟩ := andT (show (chkE G c e y && asgB c t tg y) = true from h)
        unfold asgB at h2
        split at h2
        · rename_i i z py
          simp only [Bool.and_eq_true, Bool.not_eq_true', decide_eq_true_eq] at h2
          exact asgName_ok h1 h2.1.1.1 h2.1.1.2 h2.1.2 h2.2 g gl tk
        · simp only [Bool.and_eq_true, Bool.not_eq_true'] at h2
          exact asg_ok (ev_ok e c y X Wx h1 g gl tk) (tg_ok g t tg h2.1.1.1) h2.1.1.2 h2.1.2 h2.2
      · exact nope h
    | _ => exact nope h
  | .par i j a b, c, x, X, Wx, h, g, gl, tk, hp => by
    cases x with
    | Assign ts y _ =>
      rcases ts with _ | ⟨tg, _ | ⟨_, ts⟩⟩
      · exact nope h
      · have h' : (match parPat tg y with
          | some (u, v, xa, xb) => !c.hot && isFnK c.sc && decide (c.N[i]? = some u) && decide (c.N[j]? = some v) && decide (i ≠ j) && locB c.sc u && locB c.sc v && chkE G c a xa && chkE G c b xb
          | none => false) = true := h
        cases hn : parPat tg y with
        | none => rw [hn] at h'; cases h'
        | some q =>
          obtain ⟨u, v, xa, xb⟩ := q
          rw [hn] at h'
          simp only [Bool.and_eq_true, Bool.not_eq_true', decide_eq_true_eq] at h'
          obtain ⟨px, py, k1, p1, k2, p2, e1, e2, f1, f2, f3, f4, f5⟩ := parPat_eq hn
          subst e1; subst e2
          refine par_ok g h'.1.1.1.1.1.1.1.1 h'.1.1.1.1.1.1.1.2 h'.1.1.1.1.1.1.2 h'.1.1.1.1.1.2 h'.1.1.1.1.2 (locB_ok h'.1.1.1.2) (locB_ok h'.1.1.2) (evs_ok (.cons a (.cons b .nil)) c [xa, xb] X Wx ?_ g gl tk) f2 f3 f1 f4 f5
          simp only [chkL, f2, f3, h'.1.2, h'.2]
          rfl
      · exact nope h
    | _ => exact nope h
  | .setI o i e, c, x, X, Wx, h, g, gl, tk, hp => by
    cases x with
    | Assign ts y _ =>
      rcases ts with _ | ⟨tg, _ | ⟨_, ts⟩⟩
      · exact nope h
      · cases tg with
        | Subscript xo xi _ =>
          have h' : (chkE G c e y && chkE G c o xo && chkE G c i xi && !isSlice xi) = true := h
          simp only [Bool.and_eq_true, Bool.not_eq_true'] at h'
          exact setI_ok gl (ev_ok e c y X Wx h'.1.1.1 g gl tk) (ev_ok o c xo X Wx h'.1.1.2 g gl tk) (ev_ok i c xi X Wx h'.1.2 g gl tk) h'.2
        | _ => exact nope h
      · cases tg <;> exact nope h
    | _ => exact nope h
  | .ite m a b, c, x, X, Wx, h, g, gl, tk, hp => by
    cases x with
    | If y as bs _ =>
      have h' : (chkE G c m y && chkSs G c a as && chkSs G c b bs) = true := h
      simp only [Bool.and_eq_true] at h'
      exact if_ok (ev_ok m c y X Wx h'.1.1 g gl tk) (execs_ok a c as X Wx h'.1.2 g gl tk hp) (execs_ok b c bs X Wx h'.2 g gl tk hp)
    | _ => exact nope h
  | .for_ t it b, c, x, X, Wx, h, g, gl, tk, hp => by
    cases x with
    | For tg y bs els _ =>
      cases els with
      | nil =>
        have h' : (!c.hot && chkW G c it y tg && chkT c t tg && chkSs G c b bs) = true := h
        simp only [Bool.and_eq_true, Bool.not_eq_true'] at h'
        obtain ⟨hi, hf⟩ := evw_ok it c y tg X Wx h'.1.1.2 h'.1.1.1 g gl tk
        exact for_ok hp.pass (by rw [g.calm, h'.1.1.1]; rfl) hi hf (tg_ok g t tg h'.1.2) (execs_ok b c bs X Wx h'.2 g gl tk hp)
      | cons _ _ => exact nope h
    | _ => exact nope h
  | .while_ m b, c, x, X, Wx, h, g, gl, tk, hp => by
    cases x with
    | While y bs els _ =>
      cases els with
      | nil =>
        have h' : (chkE G c m y && chkSs G c b bs) = true := h
        obtain ⟨h1, h2⟩ := andT h'
        exact while_ok hp.pass (ev_ok m c y X Wx h1 g gl tk) (execs_ok b c bs X Wx h2 g gl tk hp)
      | cons _ _ => exact nope h
    | _ => exact nope h
  | .raise id, c, x, X, Wx, h, g, gl, tk, hp => by
    cases x with
    | Raise y z _ =>
      cases y with
      | none => exact nope h
      | some y =>
        cases z with
        | some _ => exact nope h
        | none =>
          have h' : (match raisePat y with
            | some z => !c.hot && glB c.sc z && decide ((id, z) ∈ G.cls) && plainName z
            | none => false) = true := h
          cases hn : raisePat y with
          | none => rw [hn] at h'; cases h'
          | some z =>
            rw [hn] at h'
            simp only [Bool.and_eq_true, Bool.not_eq_true', decide_eq_true_eq] at h'
            obtain ⟨p1, m, j, p2, p3, e1⟩ := raisePat_eq hn
            subst e1
            exact raise_ok g gl tk h'.1.1.1 h'.1.1.2 h'.1.2 h'.2
    | _ => exact nope h
  | .nil, c, x, X, Wx, h, g, gl, tk, hp => by cases x <;> exact nope h
  | .cons _ _, c, x, X, Wx, h, g, gl, tk, hp => by cases x <;> exact nope h
  | .setF _ _ _, c, x, X, Wx, h, g, gl, tk, hp => by cases x <;> exact nope h
  | .tryAs n i b f, c, x, X, Wx, h, g, gl, tk, hp => by
    have h' : (match tryPat x with
      | some (body, z, nm, fz, nm') => !c.hot && chkSs G c b body && glB c.sc z && decide ((0, z) ∈ G.cls) && plainName z && decide (c.N[i]? = some nm) && locB c.sc nm && decide (nm' = nm) && plainName nm && glB c.sc fz && decide ((f, fz) ∈ G.fns) && decide (f ∈ G.hots) && plainName fz && knowsB G n
      | none => false) = true := by cases x <;> exact h
    cases hn : tryPat x with
    | none => rw [hn] at h'; cases h'
    | some q =>
      obtain ⟨body, z, nm, fz, nm'⟩ := q
      rw [hn] at h'
      simp only [Bool.and_eq_true, Bool.not_eq_true', decide_eq_true_eq] at h'
      obtain ⟨⟨⟨⟨⟨⟨⟨⟨⟨⟨⟨⟨⟨c1, c2⟩, c3⟩, c4⟩, c5⟩, c6⟩, c7⟩, c8⟩, c9⟩, c10⟩, c11⟩, c12⟩, c13⟩, c14⟩ := h'
      obtain ⟨p1, p2, p3, p4, p5, p6, p7, e1⟩ := tryPat_eq hn
      subst e1; subst c8
      exact tryAs_ok g gl tk hp c1 (fun Wb pn xe tk' pass => execs_ok b c body (X.tr pn xe) Wb c2 ⟨g.N, g.nd, g.sc, g.fn, g.calm⟩ (gl.tr (by rw [g.calm, c1]; rfl)) tk' ⟨pass, hp.hs, hp.hf⟩) c3 c4 c5 c6 c7 c9 c10 c11 c12 c13 c14
  | .tryC n b s, c, x, X, Wx, h, g, gl, tk, hp => by
    have h' : (match tryPat2 x with
      | some (body, z, b0, su) => !c.hot && chkSs G c b body && glB c.sc z && decide ((0, z) ∈ G.cls) && plainName z && chkSs G { c with hot := true } s (b0 :: su) && knowsB G n
      | none => false) = true := by cases x <;> exact h
    cases hn : tryPat2 x with
    | none => rw [hn] at h'; cases h'
    | some q =>
      obtain ⟨body, z, b0, su⟩ := q
      rw [hn] at h'
      simp only [Bool.and_eq_true, Bool.not_eq_true', decide_eq_true_eq] at h'
      obtain ⟨⟨⟨⟨⟨⟨c1, c2⟩, c3⟩, c4⟩, c5⟩, c6⟩, c7⟩ := h'
      obtain ⟨p1, p2, p3, e1⟩ := tryPat2_eq hn
      subst e1
      have cm : X.calm = true := by rw [g.calm, c1]; rfl
      exact tryC_ok g gl tk hp c1 (fun Wb pn xe tk' pass => execs_ok b c body (X.tr pn xe) Wb c2 ⟨g.N, g.nd, g.sc, g.fn, g.calm⟩ (gl.tr cm) tk' ⟨pass, hp.hs, hp.hf⟩)
        (fun a pn => execs_ok s { c with hot := true } (b0 :: su) (X.suite a pn) noX c6 ⟨g.N, g.nd, g.sc, g.fn, rfl⟩ (gl.suite cm) (fun u s' xx => by
          obtain ⟨_, _, _, _, _, _, _, _, _, _, _, _, _, _, _, _, w⟩ := xx
          exact w) ⟨fun e s' z => z.elim, hp.hs, hp.hf⟩) c3 c4 c5 c7
theorem execs_ok : ∀ (m : S) (c : Ck) (xs : List Stmt) (X : Cx) (Wx : WX), chkSs G c m xs = true → Gd c X → Glb W G C k X → L2N.Takes X Wx → Bd X → PSs X xs (tSx W C Wx m)
  | .nil, c, xs, X, Wx, h, g, gl, tk, hp => by
    cases xs with
    | nil => exact nil_ok
    | cons _ _ => exact nope h
  | .cons s r, c, xs, X, Wx, h, g, gl, tk, hp => by
    cases xs with
    | nil => exact nope h
    | cons x xs =>
      obtain ⟨h1, h2⟩ := andT (show (chkS G c s x && chkSs G c r xs) = true from h)
      exact seq_ok (exec_ok s c x X Wx h1 g gl tk hp) (execs_ok r c xs X Wx h2 g gl tk hp)
  | .pass, c, xs, X, Wx, h, g, gl, tk, hp => by cases xs <;> exact nope h
  | .nev, c, xs, X, Wx, h, g, gl, tk, hp => by cases xs <;> exact nope h
  | .brk, c, xs, X, Wx, h, g, gl, tk, hp => by cases xs <;> exact nope h
  | .cont, c, xs, X, Wx, h, g, gl, tk, hp => by cases xs <;> exact nope h
  | .expr _, c, xs, X, Wx, h, g, gl, tk, hp => by cases xs <;> exact nope h
  | .ret _, c, xs, X, Wx, h, g, gl, tk, hp => by cases xs <;> exact nope h
  | .retN, c, xs, X, Wx, h, g, gl, tk, hp => by cases xs <;> exact nope h
  | .asg _ _, c, xs, X, Wx, h, g, gl, tk, hp => by cases xs <;> exact nope h
  | .par _ _ _ _, c, xs, X, Wx, h, g, gl, tk, hp => by cases xs <;> exact nope h
  | .setI _ _ _, c, xs, X, Wx, h, g, gl, tk, hp => by cases xs <;> exact nope h
  | .setF _ _ _, c, xs, X, Wx, h, g, gl, tk, hp => by cases xs <;> exact nope h
  | .ite _ _ _, c, xs, X, Wx, h, g, gl, tk, hp => by cases xs <;> exact nope h
  | .for_ _ _ _, c, xs, X, Wx, h, g, gl, tk, hp => by cases xs <;> exact nope h
  | .while_ _ _, c, xs, X, Wx, h, g, gl, tk, hp => by cases xs <;> exact nope h
  | .raise _, c, xs, X, Wx, h, g, gl, tk, hp => by cases xs <;> exact nope h
  | .tryAs _ _ _ _, c, xs, X, Wx, h, g, gl, tk, hp => by cases xs <;> exact nope h
  | .tryC _ _ _, c, xs, X, Wx, h, g, gl, tk, hp => by cases xs <;> exact nope h
end
end
end Mn

set_option Elab.async false
set_option linter.all false
set_option maxRecDepth 100000
set_option maxHeartbeats 8000000
/-! Snd20: defs, the module, the law. -/
namespace Mn
open PySem PySem.Spec PyProof.Rows L2
/-- a def of the module: its name, its text, its form here, its slots' names, its parameters -/
structure Fn where
  x : Str
  st : Stmt
  df : Df
  N : List Str
  ps : List Str
def fScB (N ps : List Str) (sc : Scope) : Bool := isFnK sc && !sc.isCoroutine && !sc.isGenerator && decide N.Nodup && decide (N.take ps.length = ps) && (ps.all fun x => match sc.names.lookup x with
  | some .local => true
  | some .cell => true
  | _ => false) && (sc.names.all fun y => match y.2 with
  | .free => false
  | _ => true)
theorem isFnK_ok {sc : Scope} (h : isFnK sc = true) : sc.kind = .function := by
  unfold isFnK at h
  split at h
  · assumption
  · cases h
theorem fScB_ok {N ps : List Str} {sc : Scope} (h : fScB N ps sc = true) : FnScope N ps sc := by
  simp only [fScB, Bool.and_eq_true, Bool.not_eq_true', decide_eq_true_eq, List.all_eq_true] at h
  obtain ⟨⟨⟨⟨⟨⟨h1, h2⟩, h3⟩, h4⟩, h5⟩, h6⟩, h7⟩ := h
  refine ⟨isFnK_ok h1, h2, h3, h4, h5, fun x hx => ?_, fun y hy e => ?_⟩
  · have := h6 x hx
    split at this
    · exact .inl (by assumption)
    · exact .inr (by assumption)
    · cases this
  · have := h7 y hy
    rw [e] at this
    cases this
def Fn.c (f : Fn) : Ck := ⟨f.N, defScope f.st, fun _ => true, false⟩
def chkF (G : Gt) (f : Fn) : Bool := fScB f.N f.ps (defScope f.st) && decide (f.df.ps = f.ps.length) && decide (f.df.n = f.N.length) && chkSs G f.c f.df.body (defBody f.st)
def tab (L : List Fn) : Nat → Option Df := fun i => (L[i]?).map (·.df)
def fnsOf (L : List Fn) : List (Nat × Str) := ((L.map (·.x)).zipIdx).map fun p => (p.2, p.1)
theorem fnsOf_mem {L : List Fn} {i : Nat} {x : Str} (h : (i, x) ∈ fnsOf L) : ∃ f, L[i]? = some f ∧ f.x = x := by
  unfold fnsOf at h
  obtain ⟨p, hp, e⟩ := List.mem_map.mp h
  obtain ⟨y, j⟩ := p
  have e1 : j = i := congrArg Prod.fst e
  have e2 : y = x := congrArg Prod.snd e
  subst e1; subst e2
  have := List.mem_zipIdx_iff_getElem?.mp hp
  rw [List.getElem?_map] at this
  cases hl : L[j]? with
  | none => rw [hl] at this; cases this
  | some f => rw [hl] at this; exact ⟨f, rfl, Option.some.inj this⟩
/-- what stands behind the module's top -/
structure Md (W : Wd) (G : Gt) (L : List Fn) (mg : Str → Option Value) : Prop where
  fns : G.fns = fnsOf L
  fn : ∀ (i : Nat) (f : Fn), L[i]? = some f → mg f.x = some (.ref (W.fa i)) ∧ ∃ fd, FunD W.K f.x f.x (defArgs f.st) (defBody f.st) (defScope f.st) [] [] (W.fa i) fd
  bd : ∀ f ∈ L, ∀ (kV doc pm : Value) (an : Option Addr) (cdv ct : Value) (us : List Value), us.length = f.ps.length → bindArgs (PySem.W.fnOf f.x f.x (defArgs f.st) (defBody f.st) (defScope f.st) .none kV doc pm an cdv ct) ⟨us, []⟩ = pure (f.ps.zip us)
  con : ∀ x d, (x, d) ∈ G.cons → ∃ v u, mg x = some u ∧ RelV v u ∧ ∀ hid ι H, R (W.wh hid) ι H d v
  bi : ∀ x ∈ G.bis, mg x = none
  cls : ∀ id x, (id, x) ∈ G.cls → mg x = some (.ref (W.ca id)) ∧ PySem.W.keepIn W.K (.ref (W.ca id)) = true ∧ PySem.W.subIn W.K (.ref (W.ca id)) (.type "BaseException") = some true ∧ PySem.W.typeIn W.K (.ref (W.ca id)) = some (.type "type") ∧ PySem.W.excIn W.K (W.ca id) He.veBase "ValueError.__new__" = true
  ok : ∀ f ∈ L, chkF G f = true
  okz : ∀ (i : Nat) (f : Fn), L[i]? = some f → i ∈ G.hots → chkSs G { f.c with hot := true } f.df.body (defBody f.st) = true
  exc : ∀ id x, (id, x) ∈ G.cls → L2.ExcC W.K (W.ca id) ∧ PySem.W.kitOne W.K (.ref (W.ca id)) (.type "ValueError") = some true ∧ (∀ id' x', (id', x') ∈ G.cls → id' ≠ 0 → PySem.W.kitOne W.K (.ref (W.ca id)) (.ref (W.ca id')) = some (decide (id = id'))) ∧ (∀ x', (0, x') ∈ G.cls → PySem.W.exmOne W.K (.ref (W.ca id)) (.ref (W.ca 0)) = some true)
  nohx : W.hx = none
theorem start_sim {W : Wd} {ι : List Addr} {H : Hp} {N : List Str} {ds : List D} {vs : List V} (r : RL W ι H ds vs) : SimE W ι H (L2.start N vs) (ds.map some ++ List.replicate (N.length - ds.length) none) := by
  have hl := r.length
  refine ⟨by simp [L2.start, hl], fun i d e => ?_⟩
  by_cases hi : i < ds.length
  · rw [List.getElem?_append_left (by simpa using hi), List.getElem?_map] at e
    cases hd : ds[i]? with
    | none => rw [hd] at e; cases e
    | some d' =>
      rw [hd] at e
      cases e
      obtain ⟨v, h1, h2⟩ := r.get hd
      refine ⟨v, ?_, h2⟩
      unfold L2.start
      rw [List.getElem?_append_left (by simp; omega), List.getElem?_map, h1]
      rfl
  · rw [List.getElem?_append_right (by simp; omega)] at e
    rw [List.getElem?_replicate] at e
    split at e <;> cases e
section
variable {W : Wd} {G : Gt} {L : List Fn} {mg : Str → Option Value} {base : Heap}
mutual
theorem R.hxT {W : Wd} {ι : List Addr} {H : Hp} (z : Option (Addr × Nat)) (hn : W.hx = none) : ∀ {d : D} {v : V}, R W ι H d v → R { W with hx := z } ι H d v
  | _, _, .non => .non
  | _, _, .bl b => .bl b
  | _, _, .int i => .int i
  | _, _, .str x => .str x
  | _, _, .tup h1 h2 h3 => .tup h1 h2 (RL.hxT z hn h3)
  | _, _, .lst h1 h2 h3 => .lst h1 h2 (RL.hxT z hn h3)
  | _, _, .ob h => .ob h
  | _, _, .fn n => .fn (W := { W with hx := z }) n
  | _, _, .ex h => by rw [hn] at h; cases h
  | _, _, .scr h => .scr h
theorem RL.hxT {W : Wd} {ι : List Addr} {H : Hp} (z : Option (Addr × Nat)) (hn : W.hx = none) : ∀ {d : List D} {v : List V}, RL W ι H d v → RL { W with hx := z } ι H d v
  | _, _, .nil => .nil
  | _, _, .cons r rl => .cons (R.hxT z hn r) (RL.hxT z hn rl)
end
/-- a def that is called with the handled exception -/
theorem fnZ_of {CX : CXT} {P : Program} {w : World} {K : PySem.W.Frag} {k : Nat} {fa cl : Addr} {name qual : Str} {params : Arguments} {body : List Stmt} {scope : Scope} {dvs : List V} {kws : List (Str × V)} {fd : FuncData} {N ps : List Str} {sp : Addr → Sp}
    (FD : FunD K name qual params body scope dvs kws fa fd) (S : FnScope N ps scope) (len : ∀ a vs H Q E, sp a vs H Q E → vs.length = ps.length)
    (hbody : ∀ (cdv : Value) (A : Around) (outer : List PySem.Env) (s : Shared) (H : Hp) (vs : List V) (Q : VK) (E : XK) (p : Addr × Obj), L2H.Hot1 A p → Zc (.ref cl) none p.2 → L2H.RoomH k (A.deeper (envOfC qual scope s.heap.objs.size fa cdv)) → sp p.1 vs H Q E →
      ∃ t, PSs (L2H.cxH CX P w K mg base N qual scope fa cdv A outer s H E p) body t ∧ t { nx := fun _ H' => Q .non H', rt := Q } (L2.start N vs) H) :
    FnZ P w K mg base CX (k + 1) fa fd ps sp cl := by
  obtain ⟨oc, od, dV, kV, doc, pm, an, cdv, ct, osl, rfl, lk, hcd, _, _⟩ := FD.ex
  refine ⟨len, fun A outer s H args us vs Q E p room hot hz pin e0 binds rel hsp => ?_⟩
  have hlen := len _ _ _ _ _ hsp
  have kin : K.In s.heap := PySem.W.Frag.In.keeps e0.mod.kin fun b o e => (e0.bs b o e).1
  have nolim : s.heap.NoLimit := Heap.NoLimit.keeps e0.mod.nolimit fun b o e => (e0.bs b o e).1
  have kinds : ∀ y ∈ ps.zip us, scope.names.lookup y.1 = some .local ∨ (scope.names.lookup y.1 = some .cell ∧ ((cellsFrom (s.heap.objs.size + 1) scope.names []).lookup y.1).isSome = true) := by
    rintro ⟨n, v⟩ hy
    rcases S.par n (List.of_mem_zip hy).1 with z | z
    · exact Or.inl z
    · exact Or.inr ⟨z, PySem.W.cellsFrom_some _ _ _ (Or.inl z)⟩
  refine codeAny_call_function room.depth (kin _ _ lk) rfl S.co S.gen rfl (PySem.W.codeRec_of kin hcd) (binds _ _ _ _ (wpAny_newFunctionEnv_cells S.kind kinds fun env he s1 x => ?_))
  subst he
  refine ⟨Heap.NoLimit.keeps nolim x.toInCall.keep, codeAny_func ?_⟩
  obtain ⟨t, ht, hq⟩ := hbody cdv A outer s H vs Q E p hot hz (room.deeper _) hsp
  have I := L2H.inv_startH (CX := CX) (E := E) S pin e0 hlen rel x
  have fin : ∀ {σ' : L2.St} {H' : Hp} {v : V} {u : Value} {s' : Shared}, Inv (L2H.cxH CX P w K mg base N qual scope fa cdv A outer s H E p) [] σ' H' s' → RelV v u → Q v H' → CE outer P w H s Q u s' := by
    intro σ' H' v u s' J rv q
    exact ⟨v, H', J.os, J.bare, J.base, J.hok, rv, q⟩
  refine wpAny_mono (ht.run [] s1 (L2.start N vs) H _ I hq) (fun fl s' hs => ?_) (fun e s' hs => hs)
  cases fl with
  | next => obtain ⟨σ', H', J, q⟩ := hs; exact fin (v := V.non) (u := Value.none) J rfl q
  | ret u => obtain ⟨v, σ', H', J, rv, q⟩ := hs; exact fin J rv q
  | brk => exact hs.elim fun _ z => z.elim fun _ z => z.2.elim
  | cont => exact hs.elim fun _ z => z.elim fun _ z => z.2.elim
theorem run_post {W' : Wd} {C : Calls} {f : Fn} {ds : List D} {st : Store} {ι : List Addr} {H : Hp} {Q : VK} {E : XK} (c3 : f.df.n = f.N.length) (p : PostG W' (R W') (fun c H' => E (.ref (W'.ca c)) none H') ι H Q (runDf C f.df ds st)) :
    PostO W' (fun cls d _ H' => E cls d H') { nx := fun _ H' => Q .non H', rt := Q } ι H (exec C f.df.body (ds.map some ++ List.replicate (f.N.length - ds.length) none) st) := by
  unfold runDf at p
  split at p
  · rename_i hd
    have hn : f.df.n - ds.length = f.N.length - ds.length := by rw [c3]
    rw [hn] at p
    cases he : exec C f.df.body (ds.map some ++ List.replicate (f.N.length - ds.length) none) st with
    | next env' st' => rw [he] at p; exact fun ι' H' σ' x' S' SE' => p ι' H' _ x' S' .non
    | ret d st' => rw [he] at p; exact fun ι' H' v x' S' r' => p ι' H' v x' S' r'
    | brk env' st' => rw [he] at p; exact p.elim
    | cont env' st' => rw [he] at p; exact p.elim
    | exc cc env' st' => rw [he] at p; exact fun ι' H' σ' x' S' SE' => p ι' H' x' S'
    | err => rw [he] at p; exact p
  · exact p.elim
theorem fnsZ_ok (md : Md W G L mg) (F : ExcBaseFacts "ValueError" "ValueError.__new__" "ValueError.__init__" He.veBase) : ∀ (k i : Nat) (f : Fn) (fd : FuncData), L[i]? = some f → i ∈ G.hots → FunD W.K f.x f.x (defArgs f.st) (defBody f.st) (defScope f.st) [] [] (W.fa i) fd → ∀ cid y, (cid, y) ∈ G.cls →
    FnZ W.P W.w W.K mg base (L2N.CX W.P W.w) k (W.fa i) fd f.ps (fun a => spEv { W with hx := some (a, cid) } (callN (tab L) k) i) (W.ca cid)
  | 0, i, f, fd, hi, hh, FD, cid, y, hy => ⟨fun a vs H Q E ⟨hid, ds, st, ι, S, rl, p⟩ => p.elim, fun A outer s H args us vs Q E p h1 h2 h3 h4 h5 h6 h7 ⟨hid, ds, st, ι, S, rl, p⟩ => p.elim⟩
  | k + 1, i, f, fd, hi, hh, FD, cid, y, hy => by
    have hm := List.mem_of_getElem? hi
    have ck := md.ok f hm
    simp only [chkF, Bool.and_eq_true, decide_eq_true_eq] at ck
    obtain ⟨⟨⟨c1, c2⟩, c3⟩, _⟩ := ck
    have c4 := md.okz i f hi hh
    have sc := fScB_ok c1
    have eT : tab L i = some f.df := by unfold tab; rw [hi]; rfl
    have ec : ∀ ds st, callN (tab L) (k + 1) i ds st = runDf (callN (tab L) k) f.df ds st := fun ds st => by simp only [callN, eT]
    refine fnZ_of FD sc (fun a vs H Q E h => ?_) fun cdv A outer s H vs Q E p hot hz hr h => ?_
    · obtain ⟨hid, ds, st, ι, S, rl, p⟩ := h
      rw [ec] at p
      unfold runDf at p
      split at p
      · rename_i hd
        rw [← rl.length, hd, c2]
      · exact p.elim
    · obtain ⟨hid, ds, st, ι, S, rl, q⟩ := h
      refine ⟨tSx { W with hx := some (p.1, cid) } (callN (tab L) k) (fun cls d _ H' => E cls d H') f.df.body, ?_, hid, _, st, ι, S, start_sim rl, ?_⟩
      · refine execs_ok (G := G) (k := k) f.df.body { f.c with hot := true } (defBody f.st) _ _ c4 ⟨rfl, sc.nd, rfl, rfl, rfl⟩ ?_ (L2N.takes_of rfl rfl rfl rfl) ⟨passes_of rfl, rfl, rfl⟩
        refine ⟨rfl, rfl, rfl, ?_, fun z => (nomatch z), fun id x hx => ?_, fun x d hx => let ⟨v, u, k1, k2, k3⟩ := md.con x d hx; ⟨v, u, k1, k2, fun hid ι H => R.hxT (W := W.wh hid) (some (p.1, cid)) md.nohx (k3 hid ι H)⟩, md.bi, fun id x hx => ?_, md.exc, fun z => (nomatch z), fun a id e => ?_⟩
        · have := hr.un
          show (A.deeper _).units + 200 < cLine
          omega
        · rw [md.fns] at hx
          obtain ⟨f', h1, h2⟩ := fnsOf_mem hx
          subst h2
          obtain ⟨g1, fd', g2⟩ := md.fn id f' h1
          exact ⟨g1, g2.kp, fd', f'.ps, g2.bindsN (md.bd f' (List.mem_of_getElem? h1)), fun z => (nomatch z), fun hz' cid' y' hy' => fnsZ_ok md F k id f' fd' h1 hz' g2 cid' y' hy'⟩
        · obtain ⟨g1, g2, g3, g4, g5⟩ := md.cls id x hx
          exact ⟨g1, g2, raises_own g3 g4, _, _, _, _, F, g5⟩
        · cases e
          obtain ⟨hh1, vv, hv, _⟩ := hot
          exact ⟨p.2, y, List.mem_cons_self, hz, ⟨vv, hv⟩, hy⟩
      · rw [ec] at q
        exact run_post (E := E) c3 q
theorem fns_ok (md : Md W G L mg) (F : ExcBaseFacts "ValueError" "ValueError.__new__" "ValueError.__init__" He.veBase) : ∀ (k i : Nat) (f : Fn) (fd : FuncData), L[i]? = some f → FunD W.K f.x f.x (defArgs f.st) (defBody f.st) (defScope f.st) [] [] (W.fa i) fd →
    FnOk W.P W.w W.K mg base (L2N.CX W.P W.w) k (W.fa i) fd f.ps (spEv W (callN (tab L) k) i)
  | 0, i, f, fd, hi, FD => ⟨fun vs H Q E ⟨hid, ds, st, ι, S, rl, p⟩ => p.elim, fun A outer s H args us vs Q E hr he hb hv ⟨hid, ds, st, ι, S, rl, p⟩ => p.elim⟩
  | k + 1, i, f, fd, hi, FD => by
    have hm := List.mem_of_getElem? hi
    have ck := md.ok f hm
    simp only [chkF, Bool.and_eq_true, decide_eq_true_eq] at ck
    obtain ⟨⟨⟨c1, c2⟩, c3⟩, c4⟩ := ck
    have sc := fScB_ok c1
    have eT : tab L i = some f.df := by unfold tab; rw [hi]; rfl
    have ec : ∀ ds st, callN (tab L) (k + 1) i ds st = runDf (callN (tab L) k) f.df ds st := fun ds st => by simp only [callN, eT]
    refine FD.ok (CX := L2N.CX W.P W.w) sc (fun vs H Q E h => ?_) fun cdv A outer s H vs Q E hr h => ?_
    · obtain ⟨hid, ds, st, ι, S, rl, p⟩ := h
      rw [ec] at p
      unfold runDf at p
      split at p
      · rename_i hd
        rw [← rl.length, hd, c2]
      · exact p.elim
    · obtain ⟨hid, ds, st, ι, S, rl, p⟩ := h
      refine ⟨tSx W (callN (tab L) k) (fun cls d _ H' => E cls d H') f.df.body, ?_, ?_⟩
      · refine execs_ok (G := G) (k := k) f.df.body f.c (defBody f.st) _ _ c4 ⟨rfl, sc.nd, rfl, rfl, rfl⟩ ?_ (L2N.takes_of rfl rfl rfl rfl) ⟨passes_of rfl, rfl, rfl⟩
        refine ⟨rfl, rfl, rfl, ?_, fun _ => hr, fun id x hx => ?_, md.con, md.bi, fun id x hx => ?_, md.exc, fun _ => md.nohx, fun a id e => by rw [md.nohx] at e; cases e⟩
        · have := hr.un
          show (A.deeper _).units + 200 < cLine
          omega
        · rw [md.fns] at hx
          obtain ⟨f', h1, h2⟩ := fnsOf_mem hx
          subst h2
          obtain ⟨g1, fd', g2⟩ := md.fn id f' h1
          exact ⟨g1, g2.kp, fd', f'.ps, g2.bindsN (md.bd f' (List.mem_of_getElem? h1)), fun _ => fns_ok md F k id f' fd' h1 g2, fun hz' cid' y' hy' => fnsZ_ok md F k id f' fd' h1 hz' g2 cid' y' hy'⟩
        · obtain ⟨g1, g2, g3, g4, g5⟩ := md.cls id x hx
          exact ⟨g1, g2, raises_own g3 g4, _, _, _, _, F, g5⟩
      · rw [ec] at p
        unfold runDf at p
        split at p
        · rename_i hd
          have hn : f.df.n - ds.length = f.N.length - ds.length := by rw [c3]
          rw [hn] at p
          refine ⟨hid, _, st, ι, S, start_sim rl, ?_⟩
          cases he : exec (callN (tab L) k) f.df.body (ds.map some ++ List.replicate (f.N.length - ds.length) none) st with
          | next env' st' => rw [he] at p; exact fun ι' H' σ' x' S' SE' => p ι' H' _ x' S' .non
          | ret d st' => rw [he] at p; exact fun ι' H' v x' S' r' => p ι' H' v x' S' r'
          | brk env' st' => rw [he] at p; exact p.elim
          | cont env' st' => rw [he] at p; exact p.elim
          | exc cc env' st' => rw [he] at p; exact fun ι' H' σ' x' S' SE' => p ι' H' x' S'
          | err => rw [he] at p; exact p
        · exact p.elim
/-- the law's def answers True at every script -/
theorem law_sp {k i : Nat} {ns : List Int} {H : Hp} {a : Addr} (hl : ∃ st, callN (tab L) k i [.scr ns] [] = .ok (.bl true) st) (hS : SqL W.K H a (ns.map V.int)) : spEv W (callN (tab L) k) i [.ref a] H (fun v _ => v = .bl true) fun _ _ _ => False := by
  obtain ⟨st, e⟩ := hl
  refine ⟨[], [.scr ns], [], [], ⟨rfl, List.nodup_nil, fun n a o h => by simp at h, fun a h => nomatch h⟩, .cons (.scr ?_) .nil, ?_⟩
  · rcases hS with h | h
    · exact .inl ⟨h, fun m => (nomatch m), fun m => (nomatch m)⟩
    · exact .inr h
  · rw [e]
    intro ι' H' b x' S' r
    cases r
    rfl
end
end Mn

set_option Elab.async false
set_option linter.all false
set_option maxRecDepth 100000
set_option maxHeartbeats 8000000
/-! Snd21: the module's facts from the head. -/
namespace Mn
open PySem PySem.Spec PyProof.Rows L2
def conFa : Str × D → He.Fa
  | (x, .int i) => .int x i
  | (x, .str z) => .str x z
  | (x, _) => .glo x
def isCn : D → Bool
  | .int _ => true
  | .str _ => true
  | _ => false
def faOf (L : List Fn) (G : Gt) : List He.Fa := (L.map fun f => He.Fa.glo f.x) ++ ((G.cls.map fun p => He.Fa.glo p.2) ++ ((G.cls.map fun p => He.Fa.exc p.2) ++ ((G.bis.map fun x => He.Fa.free x) ++ G.cons.map conFa)))
def dfOf (L : List Fn) : List He.DefD := L.map fun f => ⟨(f.x, none), f.x, f.x, defArgs f.st, defBody f.st, defScope f.st, [], []⟩
def nmAt (L : List Fn) (i : Nat) : Str := ((L[i]?).map (·.x)).getD ""
def clAt (G : Gt) (i : Nat) : Str := (G.cls.lookup i).getD ""
def WdOf (P : Program) (w : World) (K : PySem.W.Frag) (L : List Fn) (G : Gt) : Wd := ⟨P, w, K, fun i => He.ga K (nmAt L i), fun i => He.ga K (clAt G i), none, []⟩
/-- what the classes say: isinstance, except -/
def excB (G : Gt) (K : PySem.W.Frag) : Bool := G.cls.all fun p => He.eqO (PySem.W.findIn K (.ref (He.ga K p.2)) "__getattribute__") (some (some (.builtin "BaseException.__getattribute__"))) && (He.eqO (PySem.W.findIn K (.ref (He.ga K p.2)) "__getattr__") (some none) &&
  (decide (PySem.W.subIn K (.ref (He.ga K p.2)) (.type "BaseException") = some true) && (PySem.W.hasDictIn K (He.ga K p.2) && (He.eqO (PySem.W.findIn K (.ref (He.ga K p.2)) "__class__") (some (some (.builtin "object.__class__"))) &&
  (He.eqO (PySem.W.specialIn K (.builtin "object.__class__") "__get__") (some (some (.builtin "getset_descriptor.__get__"))) && (decide (PySem.W.takesIn K (.builtin "object.__class__") = some true) && (decide (PySem.W.mroIn K (He.ga K p.2) (.type "object") = some true) &&
  (decide (PySem.W.kitOne K (.ref (He.ga K p.2)) (.type "ValueError") = some true) && ((G.cls.all fun q => decide (q.1 = 0) || decide (PySem.W.kitOne K (.ref (He.ga K p.2)) (.ref (He.ga K q.2)) = some (decide (p.1 = q.1)))) &&
  (G.cls.all fun q => !decide (q.1 = 0) || decide (PySem.W.exmOne K (.ref (He.ga K p.2)) (.ref (He.ga K q.2)) = some true)))))))))))
def obsX (n : Nat) (fa : List He.Fa) (fn : List He.DefD) (ex : PySem.W.Frag → Bool) (g : Addr → Option Obj) : Bool × He.AlD := (ex (He.frG g (He.asD g n)), He.obsD fa fn (He.frG g (He.asD g n)))
def hookX (n : Nat) (fa : List He.Fa) (fn : List He.DefD) (ex : PySem.W.Frag → Bool) : PySem.W.Hook where
  α := Bool × He.AlD
  obs := fun s => obsX n fa fn ex s.heap.get?
  val := fun _ => (true, He.valD fn)
  says := fun _ h => ∃ K : PySem.W.Frag, K.In h ∧ He.SaysD fa fn K ∧ ex K = true
  of := fun _ _ e => ⟨_, He.frG_in, congrArg Prod.snd e, congrArg Prod.fst e⟩
  keeps := fun _ _ _ h k => by
    obtain ⟨K, hK, c1, c2⟩ := h
    exact ⟨K, hK.keeps k, c1, c2⟩
theorem obsX_eq {n : Nat} {fa : List He.Fa} {fn : List He.DefD} {ex : PySem.W.Frag → Bool} {g : Addr → Option Obj} {s : Shared} (h : ∀ a, g a = s.heap.get? a) : obsX n fa fn ex g = (hookX n fa fn ex).obs s := by
  have e : g = s.heap.get? := funext h
  subst e
  rfl
theorem fact_mem {fa : List He.Fa} {fn : List He.DefD} {K : PySem.W.Frag} (c : He.SaysD fa fn K) {f : He.Fa} (h : f ∈ fa) : f.ok K = true := by
  obtain ⟨i, hi, e⟩ := List.mem_iff_getElem.mp h
  exact c.fact i (f := f) (by rw [List.getElem?_eq_getElem hi, e])
def BdOk (f : Fn) : Prop := ∀ (kV doc pm : Value) (an : Option Addr) (cdv ct : Value) (us : List Value), us.length = f.ps.length → bindArgs (PySem.W.fnOf f.x f.x (defArgs f.st) (defBody f.st) (defScope f.st) .none kV doc pm an cdv ct) ⟨us, []⟩ = pure (f.ps.zip us)
theorem md_of {P : Program} {w : World} {K : PySem.W.Frag} {h : Heap} {mg : Str → Option Value} {L : List Fn} {G : Gt} (X : K.In h) (N : h.Ns mainGlobals mg) (c : He.SaysD (faOf L G) (dfOf L) K) (hG : G.fns = fnsOf L) (bd : ∀ f ∈ L, BdOk f)
    (hcon : (G.cons.all fun p => isCn p.2) = true) (hcls : (G.cls.all fun p => decide (G.cls.lookup p.1 = some p.2)) = true) (ok : ∀ f ∈ L, chkF G f = true) (okz : (G.hots.all fun i => match L[i]? with
      | some f => chkSs G { f.c with hot := true } f.df.body (defBody f.st)
      | none => false) = true) (hex : excB G K = true) : Md (WdOf P w K L G) G L mg := by
  have eca : ∀ id x, (id, x) ∈ G.cls → (WdOf P w K L G).ca id = He.ga K x := fun id x hx => by
    have hl := of_decide_eq_true (List.all_eq_true.mp hcls _ hx)
    show He.ga K (clAt G id) = _
    unfold clAt
    rw [show G.cls.lookup id = some x from hl]
    rfl
  refine ⟨hG, fun i f hi => ?_, bd, fun x d hx => ?_, fun x hx => ?_, fun id x hx => ?_, ok, fun i f hi hh => ?_, fun id x hx => ?_, rfl⟩
  · have hm := List.mem_of_getElem? hi
    have e : (WdOf P w K L G).fa i = He.ga K f.x := by
      show He.ga K (nmAt L i) = _
      unfold nmAt
      rw [hi]
      rfl
    rw [e]
    refine ⟨He.glo_ok X N (fact_mem c (List.mem_append_left _ (List.mem_map.mpr ⟨f, hm, rfl⟩))), ?_⟩
    have hd : (dfOf L)[i]? = some ⟨(f.x, none), f.x, f.x, defArgs f.st, defBody f.st, defScope f.st, [], []⟩ := by
      unfold dfOf
      rw [List.getElem?_map, hi]
      rfl
    exact c.def_ i hd
  · have hc := List.all_eq_true.mp hcon _ hx
    have hf := fact_mem c (List.mem_append_right _ (List.mem_append_right _ (List.mem_append_right _ (List.mem_append_right _ (List.mem_map.mpr ⟨_, hx, rfl⟩)))))
    cases d with
    | int i =>
      obtain ⟨t, e⟩ := He.int_ok X N hf
      exact ⟨.int i, _, e, ⟨t, rfl⟩, fun _ _ _ => .int i⟩
    | str z =>
      obtain ⟨t, e⟩ := He.str_ok X N hf
      exact ⟨.str z, _, e, ⟨t, rfl⟩, fun _ _ _ => .str z⟩
    | _ => cases hc
  · exact He.free_ok X N (fact_mem c (List.mem_append_right _ (List.mem_append_right _ (List.mem_append_right _ (List.mem_append_left _ (List.mem_map.mpr ⟨x, hx, rfl⟩))))))
  · have hl := of_decide_eq_true (List.all_eq_true.mp hcls _ hx)
    have e : (WdOf P w K L G).ca id = He.ga K x := by
      show He.ga K (clAt G id) = _
      unfold clAt
      rw [show G.cls.lookup id = some x from hl]
      rfl
    rw [e]
    have g1 := He.glo_ok X N (fact_mem c (List.mem_append_right _ (List.mem_append_left _ (List.mem_map.mpr ⟨(id, x), hx, rfl⟩))))
    obtain ⟨g2, g3, g4, g5⟩ := He.exc_ok (fact_mem c (List.mem_append_right _ (List.mem_append_right _ (List.mem_append_left _ (List.mem_map.mpr ⟨(id, x), hx, rfl⟩)))))
    exact ⟨g1, g3, g4, g5, g2⟩
  · have h := List.all_eq_true.mp okz i hh
    rw [hi] at h
    exact h
  · have h := List.all_eq_true.mp hex _ hx
    simp only [Bool.and_eq_true, decide_eq_true_eq] at h
    obtain ⟨h1, h2, h3, h4, h5, h6, h7, h8, h9, h10, h11⟩ := h
    rw [eca id x hx]
    refine ⟨⟨He.eqO_ok h1, He.eqO_ok h2, h3, h4, He.eqO_ok h5, He.eqO_ok h6, h7, h8⟩, h9, fun id' x' hx' hne => ?_, fun x' hx' => ?_⟩
    · rw [eca id' x' hx']
      have h := List.all_eq_true.mp h10 _ hx'
      rcases Bool.or_eq_true_iff.mp h with z | z
      · exact absurd (of_decide_eq_true z) hne
      · exact of_decide_eq_true z
    · rw [eca 0 x' hx']
      have h := List.all_eq_true.mp h11 _ hx'
      rcases Bool.or_eq_true_iff.mp h with z | z
      · simp at z
      · exact of_decide_eq_true z
/-- in some world -/
def CXw (P : Program) : CXT := fun outer H s E u s' => ∃ w, L2N.CX P w outer H s E u s'
theorem CXw.no {P : Program} (H : Hp) (s : Shared) (e : Value) (s' : Shared) (h : CXw P [] H s (fun _ _ _ => False) e s') : False := by
  obtain ⟨w, a, B, H', cls, d, _, _, _, _, _, _, _, z⟩ := h
  exact z
/-- what walk_ofE asks for -/
theorem law_facts {P : Program} {w : World} {K : PySem.W.Frag} {h : Heap} {mg : Str → Option Value} {L : List Fn} {G : Gt} {k i : Nat} {f : Fn} {fa : Addr} (X : K.In h) (N : h.Ns mainGlobals mg) (c : He.SaysD (faOf L G) (dfOf L) K) (hG : G.fns = fnsOf L) (bd : ∀ f ∈ L, BdOk f)
    (hcon : (G.cons.all fun p => isCn p.2) = true) (hcls : (G.cls.all fun p => decide (G.cls.lookup p.1 = some p.2)) = true) (ok : ∀ f ∈ L, chkF G f = true) (okz : (G.hots.all fun i => match L[i]? with
      | some f => chkSs G { f.c with hot := true } f.df.body (defBody f.st)
      | none => false) = true) (hex : excB G K = true) (F : ExcBaseFacts "ValueError" "ValueError.__new__" "ValueError.__init__" He.veBase)
    (hi : L[i]? = some f) (hps : f.ps = [("script" : Str)]) (hmg : mg f.x = some (.ref fa)) (hlaw : ∀ ns : List Int, ns.length ≤ 63 → ∃ st, callN (tab L) k i [.scr ns] [] = .ok (.bl true) st) :
    ∃ (K : PySem.W.Frag) (fd : FuncData) (sp : Sp), K.In h ∧ (∀ (s : Shared) (u : Value), BindsTo s fd ⟨[u], []⟩ [(("script" : Str), u)]) ∧
        (∀ (H : Hp) (a : Addr) (ns : List Int), ns.length ≤ 63 → Only H → SqL K H a (ns.map V.int) → sp [.ref a] H (fun v _ => v = .bl true) fun _ _ _ => False) ∧
        ∀ base : Heap, K.In base → base.Ns mainGlobals mg → FnOk P w K mg base (CXw P) k fa fd [("script" : Str)] sp := by
  have md := md_of (P := P) (w := w) X N c hG bd hcon hcls ok okz hex
  obtain ⟨g1, fd, g2⟩ := md.fn i f hi
  have e : fa = (WdOf P w K L G).fa i := by
    rw [g1] at hmg
    cases hmg
    rfl
  subst e
  refine ⟨K, fd, spEv (WdOf P w K L G) (callN (tab L) k) i, X, fun s u => ?_, fun H a ns hl _ hS => law_sp (hlaw ns hl) hS, fun base _ _ => ?_⟩
  · have b := FunD.bindsA (ps := f.ps) g2 (bd f (List.mem_of_getElem? hi)) s [u] (by rw [hps]; rfl)
    rw [hps] at b
    exact b
  · have := fns_ok (base := base) md F k i f fd hi g2
    rw [hps] at this
    exact ⟨this.len, fun A outer s H args us vs Q E hr he hb hv hs => codeAny_mono (this.run A outer s H args us vs Q E hr he hb hv hs) fun r s' h => by
      cases r with
      | error e => exact ⟨w, h⟩
      | ok v => cases v <;> exact h⟩
end Mn

set_option Elab.async false
set_option linter.all false
set_option maxRecDepth 100000
set_option maxHeartbeats 8000000
/-! Evl: the evaluator's rows, for running it by hand. -/
namespace Mn
def forBody (C : Calls) (t : Tg) (b : S) : D → En → Store → Out := fun x env1 st2 => match asgT t x env1 with
  | some env2 => exec C b env2 st2
  | none => .err
section
variable (C : Calls) (env : En) (st : Store)
@[simp] theorem ev_var (i : Nat) : ev C (.var i) env st = (match env[i]? with
    | some (some d) => .ok d st
    | _ => .err) := rfl
@[simp] theorem ev_con (d : D) : ev C (.con d) env st = .ok d st := rfl
@[simp] theorem ev_glo (x) (d : D) : ev C (.glo x d) env st = .ok d st := rfl
@[simp] theorem ev_tup (es : E) : ev C (.tup es) env st = (evs C es env st).bind fun ds st1 => prim (newT ds st1) := rfl
@[simp] theorem ev_lst (m) (es : E) : ev C (.lst m es) env st = (evs C es env st).bind fun ds st1 => prim (newL m ds st1) := rfl
@[simp] theorem ev_bin (o) (a b : E) : ev C (.bin o a b) env st = (ev C a env st).bind fun x st1 => (ev C b env st1).bind fun y st2 => prim (pBin o x y st2) := rfl
@[simp] theorem ev_neg (a : E) : ev C (.neg a) env st = (ev C a env st).bind fun x st1 => match x with
    | .int i => .ok (.int (-i)) st1
    | _ => .err := rfl
@[simp] theorem ev_not (a : E) : ev C (.not a) env st = (boolR (ev C a env st)).bind fun b st1 => .ok (.bl (!b)) st1 := rfl
@[simp] theorem ev_and (a b : E) : ev C (.and a b) env st = (boolR (ev C a env st)).bind fun c st1 => if c then ev C b env st1 else .ok (.bl false) st1 := rfl
@[simp] theorem ev_or (a b : E) : ev C (.or a b) env st = (boolR (ev C a env st)).bind fun c st1 => if c then .ok (.bl true) st1 else ev C b env st1 := rfl
@[simp] theorem ev_orV (a b : E) : ev C (.orV a b) env st = (ev C a env st).bind fun x st1 => match x with
    | .non => ev C b env st1
    | .int i => if i = 0 then ev C b env st1 else .ok (.int i) st1
    | _ => .err := rfl
@[simp] theorem ev_cmp (o) (a b : E) : ev C (.cmp o a b) env st = (ev C a env st).bind fun x st1 => (ev C b env st1).bind fun y st2 => oB (pCmp o x y st2) st2 := rfl
@[simp] theorem ev_chain (o p) (a b c : E) : ev C (.chain o p a b c) env st = (ev C a env st).bind fun x st1 => (ev C b env st1).bind fun y st2 => match pCmp o x y st2 with
    | some true => (ev C c env st2).bind fun z st3 => oB (pCmp p y z st3) st3
    | some false => .ok (.bl false) st2
    | none => .err := rfl
@[simp] theorem ev_chn (o p q) (a b c d : E) : ev C (.chn o p q a b c d) env st = (ev C a env st).bind fun x st1 => (ev C b env st1).bind fun y st2 => match pCmp o x y st2 with
    | some true => (ev C c env st2).bind fun z st3 => (match pCmp p y z st3 with
      | some true => (ev C d env st3).bind fun w st4 => oB (pCmp q z w st4) st4
      | some false => .ok (.bl false) st3
      | none => .err)
    | some false => .ok (.bl false) st2
    | none => .err := rfl
@[simp] theorem ev_isN (a : E) : ev C (.isN a) env st = (ev C a env st).bind fun x st1 => .ok (.bl x.isNon) st1 := rfl
@[simp] theorem ev_notN (a : E) : ev C (.notN a) env st = (ev C a env st).bind fun x st1 => .ok (.bl (!x.isNon)) st1 := rfl
@[simp] theorem ev_ite (c a b : E) : ev C (.ite c a b) env st = (boolR (ev C c env st)).bind fun k st1 => if k then ev C a env st1 else ev C b env st1 := rfl
@[simp] theorem ev_call (f) (es : E) : ev C (.call f es) env st = (evs C es env st).bind fun ds st1 => C f ds st1 := rfl
@[simp] theorem ev_fnv (f) : ev C (.fnv f) env st = .ok (.fn f) st := rfl
@[simp] theorem ev_callV (fs) (f es : E) : ev C (.callV fs f es) env st = (ev C f env st).bind fun x st1 => match x with
    | .fn n => if fs.contains n then (evs C es env st1).bind fun ds st2 => C n ds st2 else .err
    | _ => .err := rfl
@[simp] theorem ev_bi (b) (es : E) : ev C (.bi b es) env st = (evs C es env st).bind fun ds st1 => prim (pBi b ds st1) := rfl
@[simp] theorem ev_bi2 (b) (e : E) : ev C (.bi2 b e) env st = (ev C e env st).bind fun d st1 => prim (pBi b [d] st1) := rfl
@[simp] theorem ev_isi (t) (e : E) : ev C (.isi t e) env st = (ev C e env st).bind fun x st1 => oB (pIsi t x st1) st1 := rfl
@[simp] theorem ev_me (m) (o es : E) : ev C (.me m o es) env st = (ev C o env st).bind fun x st1 => if (asL st1 x).isSome then (evs C es env st1).bind fun ds st2 => prim (pMe m x ds st2) else .err := rfl
@[simp] theorem ev_idx (a i : E) : ev C (.idx a i) env st = (ev C a env st).bind fun x st1 => (ev C i env st1).bind fun y st2 => prim (pIdx x y st2) := rfl
@[simp] theorem ev_sl (a lo hi : E) : ev C (.sl a lo hi) env st = (ev C a env st).bind fun x st1 => (evo C lo env st1).bind fun l st2 => (evo C hi env st2).bind fun h st3 => prim (pSl x l h st3) := rfl
@[simp] theorem ev_lc (m own t) (it c e : E) : ev C (.lc m own t it c e) env st = (evw C it env st).bind fun w st1 => (lcLoop w.src (lcBody C own t c e env) w.items [] st1).bind fun ds st5 => prim (newL m ds st5) := rfl
@[simp] theorem ev_dic : ev C .dic env st = .ok (.ob st.length) (st ++ [.dct []]) := rfl
@[simp] theorem evs_cons (e es : E) : evs C (.cons e es) env st = (ev C e env st).bind fun d st1 => (evs C es env st1).bind fun ds st2 => .ok (d :: ds) st2 := rfl
@[simp] theorem evs_nil : evs C .nil env st = .ok [] st := rfl
@[simp] theorem evo_nil : evo C .nil env st = .ok none st := rfl
@[simp] theorem evo_cons (e : E) : evo C (.cons e .nil) env st = (ev C e env st).bind fun d st1 => match d with
    | .int i => .ok (some i) st1
    | _ => .err := rfl
@[simp] theorem evt_nil : evt C .nil env st = .ok true st := rfl
@[simp] theorem evt_cons (e : E) : evt C (.cons e .nil) env st = boolR (ev C e env st) := rfl
@[simp] theorem evw_rng (a : E) : evw C (.rng a) env st = (ev C a env st).bind fun x st1 => match x with
    | .int n => if small n then .ok ⟨rangeD 0 n.toNat, []⟩ st1 else .err
    | _ => .err := rfl
@[simp] theorem evw_rng2 (a b : E) : evw C (.rng2 a b) env st = (ev C a env st).bind fun x st1 => (ev C b env st1).bind fun y st2 => match x, y with
    | .int i, .int j => if small i && small j then .ok ⟨rangeD i (j - i).toNat, []⟩ st2 else .err
    | _, _ => .err := rfl
@[simp] theorem evw_enu (a : E) : evw C (.enu a) env st = (ev C a env st).bind fun x st1 => match wkOf st1 x with
    | some w => .ok ⟨enuD 0 w.items, w.src⟩ st1
    | none => .err := rfl
@[simp] theorem evw_zip (a b : E) : evw C (.zip a b) env st = (ev C a env st).bind fun x st1 => (ev C b env st1).bind fun y st2 => match wkOf st2 x, wkOf st2 y with
    | some w, some v => .ok ⟨zipD w.items v.items, w.src ++ v.src⟩ st2
    | _, _ => .err := rfl
@[simp] theorem evw_one (a : E) : evw C (.cons a .nil) env st = (ev C a env st).bind fun x st1 => match wkOf st1 x with
    | some w => .ok w st1
    | none => .err := rfl
@[simp] theorem bind_ok {α β : Type} (a : α) (st : Store) (f : α → Store → Res β) : Res.bind (.ok a st) f = f a st := rfl
@[simp] theorem prim_ok (d : D) (st : Store) : prim (.ok d st) = .ok d st := rfl
@[simp] theorem boolR_ok (b : Bool) (st : Store) : boolR (.ok (.bl b) st) = .ok b st := rfl
@[simp] theorem oB_some (b : Bool) (st : Store) : oB (some b) st = .ok (.bl b) st := rfl
@[simp] theorem ex_nil : exec C .nil env st = .next env st := rfl
@[simp] theorem ex_cons (s r : S) : exec C (.cons s r) env st = (match exec C s env st with
    | .next env' st' => exec C r env' st'
    | o => o) := rfl
@[simp] theorem ex_pass : exec C .pass env st = .next env st := rfl
@[simp] theorem ex_brk : exec C .brk env st = .brk env st := rfl
@[simp] theorem ex_cont : exec C .cont env st = .cont env st := rfl
@[simp] theorem ex_expr (e : E) : exec C (.expr e) env st = (match ev C e env st with
    | .ok _ st1 => .next env st1
    | .exc c st1 => .exc c env st1
    | .err => .err) := rfl
@[simp] theorem ex_ret (e : E) : exec C (.ret e) env st = (match ev C e env st with
    | .ok d st1 => .ret d st1
    | .exc c st1 => .exc c env st1
    | .err => .err) := rfl
@[simp] theorem ex_retN : exec C .retN env st = .ret .non st := rfl
@[simp] theorem ex_asg (t) (e : E) : exec C (.asg t e) env st = (match ev C e env st with
    | .ok d st1 => (match asgT t d env with
      | some env' => .next env' st1
      | none => .err)
    | .exc c st1 => .exc c env st1
    | .err => .err) := rfl
@[simp] theorem ex_par (i j) (a b : E) : exec C (.par i j a b) env st = (match evs C (.cons a (.cons b .nil)) env st with
    | .ok [x, y] st1 => if i < env.length ∧ j < env.length then .next ((env.set i (some x)).set j (some y)) st1 else .err
    | .ok _ _ => .err
    | .exc c st1 => .exc c env st1
    | .err => .err) := rfl
@[simp] theorem ex_setI (o i e : E) : exec C (.setI o i e) env st = (match ev C e env st with
    | .ok d st1 => (match ev C o env st1 with
      | .ok x st2 => (match ev C i env st2 with
        | .ok y st3 => (match pSetI x y d st3 with
          | some st4 => .next env st4
          | none => .err)
        | .exc c st3 => .exc c env st3
        | .err => .err)
      | .exc c st2 => .exc c env st2
      | .err => .err)
    | .exc c st1 => .exc c env st1
    | .err => .err) := rfl
@[simp] theorem ex_ite (c : E) (a b : S) : exec C (.ite c a b) env st = (match boolR (ev C c env st) with
    | .ok true st1 => exec C a env st1
    | .ok false st1 => exec C b env st1
    | .exc k st1 => .exc k env st1
    | .err => .err) := rfl
@[simp] theorem ex_for (t) (it : E) (b : S) : exec C (.for_ t it b) env st = (match evw C it env st with
    | .ok w st1 => forLoop w.src (forBody C t b) w.items env st1
    | .exc c st1 => .exc c env st1
    | .err => .err) := rfl
@[simp] theorem ex_while (c : E) (b : S) : exec C (.while_ c b) env st = whLoop (evB C c) (exec C b) whFuel env st := rfl
@[simp] theorem ex_tryAs (n i) (b : S) (f) : exec C (.tryAs n i b f) env st = (match exec C b env st with
    | .exc c env' st' => if c < n ∧ i < env'.length then (match C f [.ex c] [] with
      | .ok d _ => if d.isP then .ret d st' else .err
      | _ => .err) else .err
    | o => o) := rfl
@[simp] theorem ex_tryC (n) (b s : S) : exec C (.tryC n b s) env st = (match exec C b env st with
    | .exc c env' st' => if c < n then (match exec C s env' st' with
      | .exc _ _ _ => .err
      | o => o) else .err
    | o => o) := rfl
@[simp] theorem ex_raise (c) : exec C (.raise c) env st = .exc c env st := rfl
end
@[simp] theorem ndT (xs : List D) (st : Store) (h : xs.length ≤ maxLen) : newT xs st = .ok (.tup xs) st := by simp [newT, h]
@[simp] theorem ndL (xs : List D) (st : Store) (h : xs.length ≤ maxLen) : newL false xs st = .ok (.lst xs) st := by simp [newL, h]
@[simp] theorem ndM (xs : List D) (st : Store) (h : xs.length ≤ maxLen) : newL true xs st = .ok (.ob st.length) (st ++ [.lst xs]) := by simp [newL, h]
end Mn

set_option Elab.async false
set_option linter.all false
set_option maxRecDepth 100000
set_option maxHeartbeats 8000000
/-! Wp: what is wanted behind an expression, a statement. -/
namespace Mn
def RWd {α : Type} (r : Res α) (K : α → Store → Prop) (X : Nat → Store → Prop) : Prop := match r with
  | .ok a s => K a s
  | .exc c s => X c s
  | .err => False
structure RW {α : Type} (r : Res α) (K : α → Store → Prop) (X : Nat → Store → Prop) : Prop where
  h : RWd r K X
abbrev NoX : Nat → Store → Prop := fun _ _ => False
theorem RW.of {α : Type} {r : Res α} {K : α → Store → Prop} {X : Nat → Store → Prop} {a : α} {s : Store} (h : r = .ok a s) (k : K a s) : RW r K X := ⟨by rw [h]; exact k⟩
theorem RW.ofX {α : Type} {r : Res α} {K : α → Store → Prop} {X : Nat → Store → Prop} {c : Nat} {s : Store} (h : r = .exc c s) (k : X c s) : RW r K X := ⟨by rw [h]; exact k⟩
theorem RW.cs {α : Type} {r : Res α} {K : α → Store → Prop} {X : Nat → Store → Prop} (h : RW r K X) : (∃ a s, r = .ok a s ∧ K a s) ∨ ∃ c s, r = .exc c s ∧ X c s := by
  obtain ⟨h⟩ := h
  cases r with
  | ok a s => exact .inl ⟨a, s, rfl, h⟩
  | exc c s => exact .inr ⟨c, s, rfl, h⟩
  | err => exact h.elim
theorem RW.bind {α β : Type} {r : Res α} {f : α → Store → Res β} {K : β → Store → Prop} {X : Nat → Store → Prop} (h : RW r (fun a s => RW (f a s) K X) X) : RW (r.bind f) K X := by
  rcases h.cs with ⟨a, s, rfl, g⟩ | ⟨c, s, rfl, g⟩
  · exact g
  · exact ⟨g⟩
theorem RW.mono {α : Type} {r : Res α} {K K' : α → Store → Prop} {X X' : Nat → Store → Prop} (h : RW r K X) (hk : ∀ a s, K a s → K' a s) (hx : ∀ c s, X c s → X' c s) : RW r K' X' := by
  rcases h.cs with ⟨a, s, rfl, g⟩ | ⟨c, s, rfl, g⟩
  · exact ⟨hk _ _ g⟩
  · exact ⟨hx _ _ g⟩
theorem RW.ex {α : Type} {r : Res α} {K : α → Store → Prop} (h : RW r K NoX) : ∃ a s, r = .ok a s ∧ K a s := by
  rcases h.cs with z | ⟨c, s, rfl, g⟩
  · exact z
  · exact g.elim
theorem RW.prim {r : Res D} {K : D → Store → Prop} {X : Nat → Store → Prop} {d : D} {s : Store} (h : r = .ok d s) (k : K d s) : RW (Mn.prim r) K X := ⟨by rw [h]; exact k⟩
theorem RW.oB {o : Option Bool} {K : D → Store → Prop} {X : Nat → Store → Prop} {b : Bool} {s : Store} (h : o = some b) (k : K (.bl b) s) : RW (Mn.oB o s) K X := ⟨by rw [h]; exact k⟩
structure EW (C : Calls) (e : E) (env : En) (st : Store) (K : D → Store → Prop) (X : Nat → Store → Prop) : Prop where
  h : RW (ev C e env st) K X
structure EsW (C : Calls) (es : E) (env : En) (st : Store) (K : List D → Store → Prop) (X : Nat → Store → Prop) : Prop where
  h : RW (evs C es env st) K X
structure EoW (C : Calls) (es : E) (env : En) (st : Store) (K : Option Int → Store → Prop) (X : Nat → Store → Prop) : Prop where
  h : RW (evo C es env st) K X
structure EtW (C : Calls) (es : E) (env : En) (st : Store) (K : Bool → Store → Prop) (X : Nat → Store → Prop) : Prop where
  h : RW (evt C es env st) K X
structure WkW (C : Calls) (es : E) (env : En) (st : Store) (K : Wk → Store → Prop) (X : Nat → Store → Prop) : Prop where
  h : RW (evw C es env st) K X
section
variable {C : Calls} {env : En} {st : Store} {K : D → Store → Prop} {X : Nat → Store → Prop}
theorem EW.of {e : E} {d : D} {s : Store} (h : ev C e env st = .ok d s) (k : K d s) : EW C e env st K X := ⟨RW.of h k⟩
theorem EW.var {i : Nat} {d : D} (h : env[i]? = some (some d)) (k : K d st) : EW C (.var i) env st K X := ⟨RW.of (by rw [ev_var, h]) k⟩
theorem EW.con {d : D} (k : K d st) : EW C (.con d) env st K X := ⟨⟨k⟩⟩
theorem EW.glo {x : PySem.Str} {d : D} (k : K d st) : EW C (.glo x d) env st K X := ⟨⟨k⟩⟩
theorem EW.fnv {f : Nat} (k : K (.fn f) st) : EW C (.fnv f) env st K X := ⟨⟨k⟩⟩
theorem EW.tup {es : E} (h : EsW C es env st (fun ds s => ds.length ≤ maxLen ∧ K (.tup ds) s) X) : EW C (.tup es) env st K X := ⟨by
  rw [ev_tup]
  exact RW.bind (RW.mono h.h (fun ds s q => RW.prim (ndT ds s q.1) q.2) fun _ _ q => q)⟩
theorem EW.lst {es : E} (h : EsW C es env st (fun ds s => ds.length ≤ maxLen ∧ K (.lst ds) s) X) : EW C (.lst false es) env st K X := ⟨by
  rw [ev_lst]
  exact RW.bind (RW.mono h.h (fun ds s q => RW.prim (ndL ds s q.1) q.2) fun _ _ q => q)⟩
theorem EW.lstM {es : E} (h : EsW C es env st (fun ds s => ds.length ≤ maxLen ∧ K (.ob s.length) (s ++ [.lst ds])) X) : EW C (.lst true es) env st K X := ⟨by
  rw [ev_lst]
  exact RW.bind (RW.mono h.h (fun ds s q => RW.prim (ndM ds s q.1) q.2) fun _ _ q => q)⟩
theorem EW.dic (k : K (.ob st.length) (st ++ [.dct []])) : EW C .dic env st K X := ⟨⟨k⟩⟩
theorem EW.bin {o : Bop} {a b : E} (h : EW C a env st (fun x s => EW C b env s (fun y t => RW (prim (pBin o x y t)) K X) X) X) : EW C (.bin o a b) env st K X := ⟨RW.bind (RW.mono h.h (fun _ _ q => RW.bind q.h) fun _ _ q => q)⟩
theorem EW.neg {a : E} (h : EW C a env st (fun x s => ∃ i, x = .int i ∧ K (.int (-i)) s) X) : EW C (.neg a) env st K X := ⟨RW.bind (RW.mono h.h (fun _ _ q => by obtain ⟨i, rfl, k⟩ := q; exact ⟨k⟩) fun _ _ q => q)⟩
theorem RW.boolR {r : Res D} {K : Bool → Store → Prop} (h : RW r (fun d s => ∃ b, d = .bl b ∧ K b s) X) : RW (Mn.boolR r) K X := RW.bind (RW.mono h (fun _ _ q => by obtain ⟨i, rfl, k⟩ := q; exact ⟨k⟩) fun _ _ q => q)
theorem EW.not {a : E} (h : EW C a env st (fun x s => ∃ b, x = .bl b ∧ K (.bl (!b)) s) X) : EW C (.not a) env st K X := ⟨RW.bind (RW.mono (RW.boolR h.h) (fun _ _ q => ⟨q⟩) fun _ _ q => q)⟩
theorem EW.and {a b : E} (h : EW C a env st (fun x s => ∃ c, x = .bl c ∧ (c = true → EW C b env s K X) ∧ (c = false → K (.bl false) s)) X) : EW C (.and a b) env st K X := ⟨RW.bind (RW.mono (RW.boolR h.h) (fun c _ q => by
  cases c with
  | true => exact (q.1 rfl).h
  | false => exact ⟨q.2 rfl⟩) fun _ _ q => q)⟩
theorem EW.or {a b : E} (h : EW C a env st (fun x s => ∃ c, x = .bl c ∧ (c = true → K (.bl true) s) ∧ (c = false → EW C b env s K X)) X) : EW C (.or a b) env st K X := ⟨RW.bind (RW.mono (RW.boolR h.h) (fun c _ q => by
  cases c with
  | true => exact ⟨q.1 rfl⟩
  | false => exact (q.2 rfl).h) fun _ _ q => q)⟩
theorem EW.ite {c a b : E} (h : EW C c env st (fun x s => ∃ k, x = .bl k ∧ (k = true → EW C a env s K X) ∧ (k = false → EW C b env s K X)) X) : EW C (.ite c a b) env st K X := ⟨RW.bind (RW.mono (RW.boolR h.h) (fun c _ q => by
  cases c with
  | true => exact (q.1 rfl).h
  | false => exact (q.2 rfl).h) fun _ _ q => q)⟩
theorem EW.cmp {o : Cop} {a b : E} (h : EW C a env st (fun x s => EW C b env s (fun y t => RW (oB (pCmp o x y t) t) K X) X) X) : EW C (.cmp o a b) env st K X := ⟨RW.bind (RW.mono h.h (fun _ _ q => RW.bind q.h) fun _ _ q => q)⟩
theorem EW.isN {a : E} (h : EW C a env st (fun x s => K (.bl x.isNon) s) X) : EW C (.isN a) env st K X := ⟨RW.bind (RW.mono h.h (fun _ _ q => ⟨q⟩) fun _ _ q => q)⟩
theorem EW.notN {a : E} (h : EW C a env st (fun x s => K (.bl (!x.isNon)) s) X) : EW C (.notN a) env st K X := ⟨RW.bind (RW.mono h.h (fun _ _ q => ⟨q⟩) fun _ _ q => q)⟩
theorem EW.call {f : Nat} {es : E} (h : EsW C es env st (fun ds s => RW (C f ds s) K X) X) : EW C (.call f es) env st K X := ⟨RW.bind h.h⟩
theorem EW.callV {fs : List Nat} {f es : E} (h : EW C f env st (fun x s => ∃ n, x = .fn n ∧ fs.contains n = true ∧ EsW C es env s (fun ds t => RW (C n ds t) K X) X) X) : EW C (.callV fs f es) env st K X := ⟨RW.bind (RW.mono h.h (fun _ s q => by
    obtain ⟨n, rfl, k1, k2⟩ := q
    show RW (if fs.contains n then (evs C es env s).bind fun ds st2 => C n ds st2 else .err) K X
    rw [if_pos k1]
    exact RW.bind k2.h) fun _ _ q => q)⟩
theorem EW.bi {b : Bi} {es : E} (h : EsW C es env st (fun ds s => RW (prim (pBi b ds s)) K X) X) : EW C (.bi b es) env st K X := ⟨RW.bind h.h⟩
theorem EW.bi2 {b : Bi} {e : E} (h : EW C e env st (fun d s => RW (prim (pBi b [d] s)) K X) X) : EW C (.bi2 b e) env st K X := ⟨RW.bind h.h⟩
theorem EW.isi {t : Ty} {e : E} (h : EW C e env st (fun d s => RW (oB (pIsi t d s) s) K X) X) : EW C (.isi t e) env st K X := ⟨RW.bind h.h⟩
theorem EW.me {m : Me} {o es : E} (h : EW C o env st (fun x s => (asL s x).isSome = true ∧ EsW C es env s (fun ds t => RW (prim (pMe m x ds t)) K X) X) X) : EW C (.me m o es) env st K X := ⟨RW.bind (RW.mono h.h (fun x s q => by
    show RW (if (asL s x).isSome then (evs C es env s).bind fun ds st2 => prim (pMe m x ds st2) else .err) K X
    rw [if_pos q.1]
    exact RW.bind q.2.h) fun _ _ q => q)⟩
theorem EW.idx {a i : E} (h : EW C a env st (fun x s => EW C i env s (fun y t => RW (prim (pIdx x y t)) K X) X) X) : EW C (.idx a i) env st K X := ⟨RW.bind (RW.mono h.h (fun _ _ q => RW.bind q.h) fun _ _ q => q)⟩
theorem EW.sl {a lo hi : E} (h : EW C a env st (fun x s => EoW C lo env s (fun l t => EoW C hi env t (fun g u => RW (prim (pSl x l g u)) K X) X) X) X) : EW C (.sl a lo hi) env st K X :=
  ⟨RW.bind (RW.mono h.h (fun _ _ q => RW.bind (RW.mono q.h (fun _ _ r => RW.bind r.h) fun _ _ r => r)) fun _ _ q => q)⟩
theorem EW.lc {m : Bool} {own : List Nat} {t : Tg} {it c e : E} (h : WkW C it env st (fun w s => RW (lcLoop w.src (lcBody C own t c e env) w.items [] s) (fun ds u => RW (prim (newL m ds u)) K X) X) X) : EW C (.lc m own t it c e) env st K X := ⟨by
  rw [ev_lc]
  exact RW.bind (RW.mono h.h (fun _ _ q => RW.bind q) fun _ _ q => q)⟩
theorem EsW.nil {K : List D → Store → Prop} (k : K [] st) : EsW C .nil env st K X := ⟨⟨k⟩⟩
theorem EsW.cons {K : List D → Store → Prop} {e es : E} (h : EW C e env st (fun d s => EsW C es env s (fun ds t => K (d :: ds) t) X) X) : EsW C (.cons e es) env st K X := ⟨RW.bind (RW.mono h.h (fun _ _ q => RW.bind (RW.mono q.h (fun _ _ k => ⟨k⟩) fun _ _ q => q)) fun _ _ q => q)⟩
theorem EoW.nil {K : Option Int → Store → Prop} (k : K none st) : EoW C .nil env st K X := ⟨⟨k⟩⟩
theorem EoW.one {K : Option Int → Store → Prop} {e : E} (h : EW C e env st (fun d s => ∃ i, d = .int i ∧ K (some i) s) X) : EoW C (.cons e .nil) env st K X := ⟨RW.bind (RW.mono h.h (fun _ _ q => by obtain ⟨i, rfl, k⟩ := q; exact ⟨k⟩) fun _ _ q => q)⟩
theorem EtW.nil {K : Bool → Store → Prop} (k : K true st) : EtW C .nil env st K X := ⟨⟨k⟩⟩
theorem EtW.one {K : Bool → Store → Prop} {e : E} (h : EW C e env st (fun d s => ∃ b, d = .bl b ∧ K b s) X) : EtW C (.cons e .nil) env st K X := ⟨RW.boolR h.h⟩
theorem WkW.rng {K : Wk → Store → Prop} {a : E} (h : EW C a env st (fun d s => ∃ n, d = .int n ∧ small n = true ∧ K ⟨rangeD 0 n.toNat, []⟩ s) X) : WkW C (.rng a) env st K X := ⟨RW.bind (RW.mono h.h (fun _ s q => by
    obtain ⟨n, rfl, k1, k2⟩ := q
    show RW (if small n then Res.ok ⟨rangeD 0 n.toNat, []⟩ s else .err) K X
    rw [if_pos k1]; exact ⟨k2⟩) fun _ _ q => q)⟩
theorem WkW.rng2 {K : Wk → Store → Prop} {a b : E} (h : EW C a env st (fun d s => EW C b env s (fun d2 t => ∃ i j, d = .int i ∧ d2 = .int j ∧ small i = true ∧ small j = true ∧ K ⟨rangeD i (j - i).toNat, []⟩ t) X) X) : WkW C (.rng2 a b) env st K X := ⟨RW.bind (RW.mono h.h (fun _ s q => RW.bind (RW.mono q.h (fun _ t q => by
    obtain ⟨i, j, rfl, rfl, k1, k2, k3⟩ := q
    show RW (if small i && small j then Res.ok ⟨rangeD i (j - i).toNat, []⟩ t else .err) K X
    rw [if_pos (by rw [k1, k2]; rfl)]; exact ⟨k3⟩) fun _ _ q => q)) fun _ _ q => q)⟩
theorem WkW.zip {K : Wk → Store → Prop} {a b : E} (h : EW C a env st (fun d s => EW C b env s (fun d2 t => ∃ w v, wkOf t d = some w ∧ wkOf t d2 = some v ∧ K ⟨zipD w.items v.items, w.src ++ v.src⟩ t) X) X) : WkW C (.zip a b) env st K X := ⟨RW.bind (RW.mono h.h (fun d s q => RW.bind (RW.mono q.h (fun d2 t q => by
    obtain ⟨w, v, h1, h2, k3⟩ := q
    show RW (match wkOf t d, wkOf t d2 with
      | some w, some v => Res.ok ⟨zipD w.items v.items, w.src ++ v.src⟩ t
      | _, _ => .err) K X
    rw [h1, h2]; exact ⟨k3⟩) fun _ _ q => q)) fun _ _ q => q)⟩
theorem WkW.enu {K : Wk → Store → Prop} {a : E} (h : EW C a env st (fun d s => ∃ w, wkOf s d = some w ∧ K ⟨enuD 0 w.items, w.src⟩ s) X) : WkW C (.enu a) env st K X := ⟨RW.bind (RW.mono h.h (fun d s q => by
    obtain ⟨w, h1, k⟩ := q
    show RW (match wkOf s d with
      | some w => Res.ok ⟨enuD 0 w.items, w.src⟩ s
      | none => .err) K X
    rw [h1]; exact ⟨k⟩) fun _ _ q => q)⟩
theorem WkW.one {K : Wk → Store → Prop} {a : E} (h : EW C a env st (fun d s => ∃ w, wkOf s d = some w ∧ K w s) X) : WkW C (.cons a .nil) env st K X := ⟨RW.bind (RW.mono h.h (fun d s q => by
    obtain ⟨w, h1, k⟩ := q
    show RW (match wkOf s d with
      | some w => Res.ok w s
      | none => .err) K X
    rw [h1]; exact ⟨k⟩) fun _ _ q => q)⟩
theorem EW.chain {o p : Cop} {a b c : E} (h : EW C a env st (fun x s => EW C b env s (fun y t => ∃ k, pCmp o x y t = some k ∧ (k = true → EW C c env t (fun z u => RW (oB (pCmp p y z u) u) K X) X) ∧ (k = false → K (.bl false) t)) X) X) : EW C (.chain o p a b c) env st K X := ⟨RW.bind (RW.mono h.h (fun x s q => RW.bind (RW.mono q.h (fun y t q => by
    obtain ⟨k, h1, k1, k2⟩ := q
    show RW (match pCmp o x y t with
      | some true => (ev C c env t).bind fun z st3 => oB (pCmp p y z st3) st3
      | some false => .ok (.bl false) t
      | none => .err) K X
    rw [h1]
    cases k with
    | true => exact RW.bind (k1 rfl).h
    | false => exact ⟨k2 rfl⟩) fun _ _ q => q)) fun _ _ q => q)⟩
theorem EW.chn {o p q : Cop} {a b c d : E} (h : EW C a env st (fun x s => EW C b env s (fun y t => ∃ k, pCmp o x y t = some k ∧ (k = true → EW C c env t (fun z u => ∃ k2, pCmp p y z u = some k2 ∧ (k2 = true → EW C d env u (fun w v => RW (oB (pCmp q z w v) v) K X) X) ∧ (k2 = false → K (.bl false) u)) X) ∧ (k = false → K (.bl false) t)) X) X) : EW C (.chn o p q a b c d) env st K X := ⟨RW.bind (RW.mono h.h (fun x s g => RW.bind (RW.mono g.h (fun y t g => by
    obtain ⟨k, h1, k1, k2⟩ := g
    show RW (match pCmp o x y t with
      | some true => (ev C c env t).bind fun z st3 => (match pCmp p y z st3 with
        | some true => (ev C d env st3).bind fun w st4 => oB (pCmp q z w st4) st4
        | some false => .ok (.bl false) st3
        | none => .err)
      | some false => .ok (.bl false) t
      | none => .err) K X
    rw [h1]
    cases k with
    | true =>
      refine RW.bind (RW.mono (k1 rfl).h (fun z u g => ?_) fun _ _ g => g)
      obtain ⟨k3, h3, k4, k5⟩ := g
      rw [h3]
      cases k3 with
      | true => exact RW.bind (k4 rfl).h
      | false => exact ⟨k5 rfl⟩
    | false => exact ⟨k2 rfl⟩) fun _ _ q => q)) fun _ _ q => q)⟩
theorem EW.orV {a b : E} (h : EW C a env st (fun x s => (x = .non ∧ EW C b env s K X) ∨ (∃ i, x = .int i ∧ i = 0 ∧ EW C b env s K X) ∨ ∃ i, x = .int i ∧ i ≠ 0 ∧ K (.int i) s) X) : EW C (.orV a b) env st K X := ⟨RW.bind (RW.mono h.h (fun x s q => by
    rcases q with ⟨rfl, k⟩ | ⟨i, rfl, h0, k⟩ | ⟨i, rfl, h0, k⟩
    · exact k.h
    · show RW (if i = 0 then ev C b env s else .ok (.int i) s) K X
      rw [if_pos h0]; exact k.h
    · show RW (if i = 0 then ev C b env s else .ok (.int i) s) K X
      rw [if_neg h0]; exact ⟨k⟩) fun _ _ q => q)⟩
end
theorem lt_i (a b : Int) (st : Store) : pCmp .lt (.int a) (.int b) st = some (decide (a < b)) := rfl
theorem le_i (a b : Int) (st : Store) : pCmp .le (.int a) (.int b) st = some (decide (a ≤ b)) := rfl
theorem gt_i (a b : Int) (st : Store) : pCmp .gt (.int a) (.int b) st = some (decide (b < a)) := rfl
theorem ge_i (a b : Int) (st : Store) : pCmp .ge (.int a) (.int b) st = some (decide (b ≤ a)) := rfl
theorem eq_i (a b : Int) (st : Store) : pCmp .eq (.int a) (.int b) st = some (decide (a = b)) := rfl
theorem ne_i (a b : Int) (st : Store) : pCmp .ne (.int a) (.int b) st = some (!decide (a = b)) := rfl
/-! ### statements -/
structure Po where
  nx : En → Store → Prop
  rt : D → Store → Prop
  ex : Nat → En → Store → Prop
  bk : En → Store → Prop
  ct : En → Store → Prop
def OW (o : Out) (P : Po) : Prop := match o with
  | .next e s => P.nx e s
  | .ret d s => P.rt d s
  | .exc c e s => P.ex c e s
  | .brk e s => P.bk e s
  | .cont e s => P.ct e s
  | .err => False
structure SW (C : Calls) (s : S) (env : En) (st : Store) (P : Po) : Prop where
  h : OW (exec C s env st) P
section
variable {C : Calls} {env : En} {st : Store} {P : Po}
theorem SW.nil (k : P.nx env st) : SW C .nil env st P := ⟨k⟩
theorem OW.mono {o : Out} {P Q : Po} (h : OW o P) (h1 : ∀ e s, P.nx e s → Q.nx e s) (h2 : ∀ e s, P.rt e s → Q.rt e s) (h3 : ∀ c e s, P.ex c e s → Q.ex c e s) (h4 : ∀ e s, P.bk e s → Q.bk e s) (h5 : ∀ e s, P.ct e s → Q.ct e s) : OW o Q := by
  cases o with
  | next e s => exact h1 _ _ h
  | ret e s => exact h2 _ _ h
  | exc c e s => exact h3 _ _ _ h
  | brk e s => exact h4 _ _ h
  | cont e s => exact h5 _ _ h
  | err => exact h.elim
def Po.seq (C : Calls) (r : S) (P : Po) : Po := { P with nx := fun e t => SW C r e t P }
theorem SW.cons {s r : S} (h : SW C s env st (P.seq C r)) : SW C (.cons s r) env st P := ⟨by
  rw [ex_cons]
  have h := h.h
  cases he : exec C s env st with
  | next e t => rw [he] at h; exact h.h
  | ret e t => rw [he] at h; exact h
  | exc c e t => rw [he] at h; exact h
  | brk e t => rw [he] at h; exact h
  | cont e t => rw [he] at h; exact h
  | err => rw [he] at h; exact h.elim⟩
theorem SW.pass (k : P.nx env st) : SW C .pass env st P := ⟨k⟩
theorem SW.brk (k : P.bk env st) : SW C .brk env st P := ⟨k⟩
theorem SW.cont (k : P.ct env st) : SW C .cont env st P := ⟨k⟩
theorem SW.expr {e : E} (h : EW C e env st (fun _ s => P.nx env s) fun c s => P.ex c env s) : SW C (.expr e) env st P := ⟨by
  rw [ex_expr]
  rcases h.h.cs with ⟨d, t, he, h⟩ | ⟨c, t, he, h⟩ <;> rw [he] <;> exact h⟩
theorem SW.ret {e : E} (h : EW C e env st (fun d s => P.rt d s) fun c s => P.ex c env s) : SW C (.ret e) env st P := ⟨by
  rw [ex_ret]
  rcases h.h.cs with ⟨d, t, he, h⟩ | ⟨c, t, he, h⟩ <;> rw [he] <;> exact h⟩
theorem SW.retN (k : P.rt .non st) : SW C .retN env st P := ⟨k⟩
theorem SW.raise {c : Nat} (k : P.ex c env st) : SW C (.raise c) env st P := ⟨k⟩
theorem SW.asgT {t : Tg} {e : E} (h : EW C e env st (fun d s => ∃ env', Mn.asgT t d env = some env' ∧ P.nx env' s) fun c s => P.ex c env s) : SW C (.asg t e) env st P := ⟨by
  rw [ex_asg]
  rcases h.h.cs with ⟨d, t, he, env', h1, h2⟩ | ⟨c, t, he, h⟩
  · rw [he]
    simp only [h1]
    exact h2
  · rw [he]; exact h⟩
theorem SW.par {i j : Nat} {a b : E} (hi : i < env.length) (hj : j < env.length) (h : EW C a env st (fun x s => EW C b env s (fun y t => P.nx ((env.set i (some x)).set j (some y)) t) fun c s => P.ex c env s) fun c s => P.ex c env s) : SW C (.par i j a b) env st P := ⟨by
  have h2 : EsW C (.cons a (.cons b .nil)) env st (fun ds t => ∃ x y, ds = [x, y] ∧ P.nx ((env.set i (some x)).set j (some y)) t) fun c s => P.ex c env s :=
    EsW.cons ⟨RW.mono h.h (fun x s q => EsW.cons ⟨RW.mono q.h (fun y t q => EsW.nil ⟨x, y, rfl, q⟩) fun _ _ q => q⟩) fun _ _ q => q⟩
  rw [ex_par]
  rcases h2.h.cs with ⟨d, t, he, x, y, rfl, h3⟩ | ⟨c, t, he, h⟩
  · rw [he]
    simp only [hi, hj, and_self, if_true]
    exact h3
  · rw [he]; exact h⟩
theorem SW.setI {o i e : E} (h : EW C e env st (fun d s => EW C o env s (fun x t => EW C i env t (fun y u => ∃ v, pSetI x y d u = some v ∧ P.nx env v) fun c s => P.ex c env s) fun c s => P.ex c env s) fun c s => P.ex c env s) : SW C (.setI o i e) env st P := ⟨by
  rw [ex_setI]
  rcases h.h.cs with ⟨d, s, he, h⟩ | ⟨c, t, he, h⟩
  · rw [he]
    dsimp only
    rcases h.h.cs with ⟨x, t, ho, h⟩ | ⟨c, t, ho, h⟩
    · rw [ho]
      dsimp only
      rcases h.h.cs with ⟨y, u, hi, v, h1, h2⟩ | ⟨c, t, hi, h⟩
      · rw [hi]
        simp only [h1]
        exact h2
      · rw [hi]; exact h
    · rw [ho]; exact h
  · rw [he]; exact h⟩
theorem SW.ite {c : E} {a b : S} (h : EW C c env st (fun x s => ∃ k, x = .bl k ∧ (k = true → SW C a env s P) ∧ (k = false → SW C b env s P)) fun c s => P.ex c env s) : SW C (.ite c a b) env st P := ⟨by
  rw [ex_ite]
  rcases h.h.cs with ⟨d, s, he, k, rfl, h1, h2⟩ | ⟨c, t, he, h⟩
  · rw [he]
    cases k with
    | true => exact (h1 rfl).h
    | false => exact (h2 rfl).h
  · rw [he]; exact h⟩
/-- a for, by an invariant -/
theorem for_w {src : List (Nat × List D)} {body : D → En → Store → Out} {P : Po} (I : Nat → En → Store → Prop) (hs : ∀ i e s, I i e s → still s src = true) : ∀ (xs : List D) (i : Nat) (e : En) (s : Store), I i e s →
    (∀ (j : Nat) x e s, xs[j]? = some x → I (i + j) e s → OW (body x e s) { P with nx := I (i + j + 1), ct := I (i + j + 1), bk := P.nx }) → (∀ e s, I (i + xs.length) e s → P.nx e s) → OW (forLoop src body xs e s) P
  | [], i, e, s, h, _, hd => by
    simp only [forLoop, hs i e s h, if_true]
    exact hd e s h
  | x :: xs, i, e, s, h, hb, hd => by
    have h1 := hb 0 x e s rfl h
    have ih : ∀ e' s', I (i + 1) e' s' → OW (forLoop src body xs e' s') P := fun e' s' h' => for_w I hs xs (i + 1) e' s' h' (fun j x e s hx hp => by
      have := hb (j + 1) x e s (by simpa using hx) (by rw [show i + (j + 1) = i + 1 + j by omega]; exact hp)
      rw [show i + (j + 1) + 1 = i + 1 + j + 1 by omega] at this
      exact this) (fun e s q => hd e s (by rw [show i + (x :: xs).length = i + 1 + xs.length by simp; omega]; exact q))
    simp only [forLoop, hs i e s h, if_true]
    cases hx : body x e s with
    | next e' s' => rw [hx] at h1; exact ih _ _ h1
    | cont e' s' => rw [hx] at h1; exact ih _ _ h1
    | ret d s' => rw [hx] at h1; exact h1
    | exc c e' s' => rw [hx] at h1; exact h1
    | brk e' s' => rw [hx] at h1; exact h1
    | err => rw [hx] at h1; exact h1.elim
theorem SW.for_ {t : Tg} {it : E} {b : S} (h : WkW C it env st (fun w s => OW (forLoop w.src (forBody C t b) w.items env s) P) fun c s => P.ex c env s) : SW C (.for_ t it b) env st P := ⟨by
  rw [ex_for]
  rcases h.h.cs with ⟨d, t, he, h⟩ | ⟨c, t, he, h⟩ <;> rw [he] <;> exact h⟩
theorem fb_of {C : Calls} {t : Tg} {b : S} {x : D} {env env' : En} {st : Store} {P : Po} (h : Mn.asgT t x env = some env') (k : SW C b env' st P) : OW (forBody C t b x env st) P := by
  unfold forBody
  simp only [h]
  exact k.h
/-- a while, by an invariant with a number that falls -/
theorem while_w {cond : En → Store → Res Bool} {body : En → Store → Out} {P : Po} (I : Nat → En → Store → Prop)
    (hb : ∀ n e s, I n e s → RW (cond e s) (fun b t => if b then ∃ m, n = m + 1 ∧ OW (body e t) { P with nx := I m, ct := I m, bk := P.nx } else P.nx e t) fun c t => P.ex c e t) : ∀ (n fuel : Nat) (e : En) (s : Store), n < fuel → I n e s → OW (whLoop cond body fuel e s) P
  | n, 0, e, s, h, _ => by omega
  | n, fuel + 1, e, s, h, hi => by
    unfold whLoop
    rcases (hb n e s hi).cs with ⟨b, t, hc, h1⟩ | ⟨c, t, hc, h1⟩
    · rw [hc]
      cases b with
      | false => exact h1
      | true =>
        obtain ⟨m, rfl, h2⟩ := h1
        dsimp only
        cases hx : body e t with
        | next e' s' => rw [hx] at h2; exact while_w I hb m fuel e' s' (by omega) h2
        | cont e' s' => rw [hx] at h2; exact while_w I hb m fuel e' s' (by omega) h2
        | ret d s' => rw [hx] at h2; exact h2
        | exc c e' s' => rw [hx] at h2; exact h2
        | brk e' s' => rw [hx] at h2; exact h2
        | err => rw [hx] at h2; exact h2.elim
    · rw [hc]; exact h1
theorem SW.while_ {c : E} {b : S} (I : Nat → En → Store → Prop) (n : Nat) (hn : n < whFuel) (h0 : I n env st)
    (hb : ∀ n e s, I n e s → EW C c e s (fun x t => ∃ k, x = .bl k ∧ (k = true → ∃ m, n = m + 1 ∧ SW C b e t { P with nx := I m, ct := I m, bk := P.nx }) ∧ (k = false → P.nx e t)) fun c t => P.ex c e t) : SW C (.while_ c b) env st P := ⟨by
  rw [ex_while]
  refine while_w I (fun n e s hi => ?_) n whFuel env st hn h0
  refine RW.boolR (RW.mono (hb n e s hi).h (fun x t q => ?_) fun _ _ q => q)
  obtain ⟨k, rfl, h1, h2⟩ := q
  cases k with
  | true =>
    obtain ⟨m, h3, h4⟩ := h1 rfl
    exact ⟨_, rfl, m, h3, h4.h⟩
  | false => exact ⟨_, rfl, h2 rfl⟩⟩
theorem SW.tryAs {n i : Nat} {b : S} {f : Nat} (h : SW C b env st { P with ex := fun c e s => c < n ∧ i < e.length ∧ ∃ d s', C f [.ex c] [] = .ok d s' ∧ d.isP = true ∧ P.rt d s }) : SW C (.tryAs n i b f) env st P := ⟨by
  rw [ex_tryAs]
  have h := h.h
  cases he : exec C b env st with
  | next e t => rw [he] at h; exact h
  | ret e t => rw [he] at h; exact h
  | brk e t => rw [he] at h; exact h
  | cont e t => rw [he] at h; exact h
  | err => rw [he] at h; exact h.elim
  | exc c e t =>
    rw [he] at h
    obtain ⟨h1, h2, d, s', h3, h4, h5⟩ := h
    simp only [h1, h2, and_self, if_true, h3, h4]
    exact h5⟩
theorem SW.tryC {n : Nat} {b s : S} (h : SW C b env st { P with ex := fun c e t => c < n ∧ SW C s e t { P with ex := fun _ _ _ => False } }) : SW C (.tryC n b s) env st P := ⟨by
  rw [ex_tryC]
  have h := h.h
  cases he : exec C b env st with
  | next e t => rw [he] at h; exact h
  | ret e t => rw [he] at h; exact h
  | brk e t => rw [he] at h; exact h
  | cont e t => rw [he] at h; exact h
  | err => rw [he] at h; exact h.elim
  | exc c e t =>
    rw [he] at h
    obtain ⟨h1, h2⟩ := h
    simp only [h1, if_true]
    have h2 := h2.h
    cases hs : exec C s e t with
    | next e t => rw [hs] at h2; exact h2
    | ret e t => rw [hs] at h2; exact h2
    | brk e t => rw [hs] at h2; exact h2
    | cont e t => rw [hs] at h2; exact h2
    | err => rw [hs] at h2; exact h2.elim
    | exc c e t => rw [hs] at h2; exact h2.elim⟩
end
/-- a def's run -/
theorem run_w {C : Calls} {d : Df} {ds : List D} {st : Store} {K : D → Store → Prop} {X : Nat → Store → Prop} (hp : ds.length = d.ps) (h : SW C d.body (ds.map some ++ List.replicate (d.n - ds.length) none) st ⟨fun _ s => K .non s, K, fun c _ s => X c s, fun _ _ => False, fun _ _ => False⟩) : RW (runDf C d ds st) K X := by
  unfold runDf
  rw [if_pos hp]
  have h := h.h
  cases he : exec C d.body (ds.map some ++ List.replicate (d.n - ds.length) none) st with
  | next e t => rw [he] at h; exact ⟨h⟩
  | ret e t => rw [he] at h; exact ⟨h⟩
  | exc c e t => rw [he] at h; exact ⟨h⟩
  | brk e t => rw [he] at h; exact h.elim
  | cont e t => rw [he] at h; exact h.elim
  | err => rw [he] at h; exact h.elim
/-! ### comprehensions -/
/-- a comprehension, by an invariant -/
theorem lc_w {src : List (Nat × List D)} {body : D → Store → Res (Option D)} {K : List D → Store → Prop} {X : Nat → Store → Prop} (I : Nat → List D → Store → Prop) (hs : ∀ i a s, I i a s → still s src = true) : ∀ (xs : List D) (i : Nat) (acc : List D) (s : Store), I i acc.reverse s →
    (∀ (j : Nat) x a s, xs[j]? = some x → I (i + j) a s → RW (body x s) (fun o t => I (i + j + 1) (match o with
      | some d => a ++ [d]
      | none => a) t) NoX) → (∀ a s, I (i + xs.length) a s → K a s) → RW (lcLoop src body xs acc s) K X
  | [], i, acc, s, h, _, hd => by
    simp only [lcLoop, hs i _ s h, if_true]
    exact ⟨hd _ s h⟩
  | x :: xs, i, acc, s, h, hb, hd => by
    obtain ⟨o, s', e1, h1⟩ := (hb 0 x acc.reverse s rfl h).ex
    simp only [lcLoop, hs i _ s h, if_true, e1]
    have ih : ∀ acc', I (i + 1) acc'.reverse s' → RW (lcLoop src body xs acc' s') K X := fun acc' h' => lc_w I hs xs (i + 1) acc' s' h' (fun j x a s hx hp => by
      have := hb (j + 1) x a s (by simpa using hx) (by rw [show i + (j + 1) = i + 1 + j by omega]; exact hp)
      rw [show i + (j + 1) + 1 = i + 1 + j + 1 by omega] at this
      exact this) (fun a s q => hd a s (by rw [show i + (x :: xs).length = i + 1 + xs.length by simp; omega]; exact q))
    cases o with
    | none => exact ih acc h1
    | some d => exact ih (d :: acc) (by rw [List.reverse_cons]; exact h1)
theorem lcB_of {C : Calls} {own : List Nat} {t : Tg} {c e : E} {env env' : En} {x : D} {st : Store} {K : Option D → Store → Prop} {X : Nat → Store → Prop} (h : Mn.asgT t x (wipeE env own) = some env') (k : EtW C c env' st (fun b s => (b = true → EW C e env' s (fun d u => K (some d) u) X) ∧ (b = false → K none s)) X) : RW (lcBody C own t c e env x st) K X := by
  unfold lcBody
  simp only [h]
  refine RW.bind (RW.mono k.h (fun b s q => ?_) fun _ _ q => q)
  cases b with
  | true =>
    show RW ((ev C e env' s).bind fun d st4 => .ok (some d) st4) K X
    exact RW.bind (RW.mono (q.1 rfl).h (fun _ _ q => ⟨q⟩) fun _ _ q => q)
  | false => exact ⟨q.2 rfl⟩
/-- pure comprehensions: the store stands still -/
theorem lc_pure {src : List (Nat × List D)} {body : D → Store → Res (Option D)} {K : List D → Store → Prop} {X : Nat → Store → Prop} {α : Type} {st : Store} (hs : still st src = true) (f : α → D) (g : α → Option D) (xs : List α) (hb : ∀ x ∈ xs, body (f x) st = .ok (g x) st) (k : K (xs.filterMap g) st) : RW (lcLoop src body (xs.map f) [] st) K X := by
  have : ∀ (ys : List α) (acc : List D), (∀ x ∈ ys, body (f x) st = .ok (g x) st) → lcLoop src body (ys.map f) acc st = .ok (acc.reverse ++ ys.filterMap g) st := by
    intro ys
    induction ys with
    | nil => intro acc _; simp [lcLoop, hs]
    | cons y ys ih =>
      intro acc h
      have h1 := h y (by simp)
      have h2 := fun acc => ih acc fun x hx => h x (by simp [hx])
      simp only [List.map_cons, lcLoop, hs, if_true, h1]
      cases hg : g y with
      | none => simp only [h2, List.filterMap_cons, hg]
      | some d => simp only [h2, List.filterMap_cons, hg, List.reverse_cons, List.append_assoc, List.singleton_append]
  exact RW.of (this xs [] hb) (by simpa using k)
end Mn

set_option Elab.async false
set_option linter.all false
set_option maxRecDepth 100000
set_option maxHeartbeats 8000000
/-! Defs: the text of the law and of what it reaches, in Mini. -/
namespace Pg
open PySem Mn
abbrev pw : Program := PySem.Challenge.pw_commonlots_k18_whole_regions_and_counts
def top (i : Nat) : Stmt := pw.main.body.getD i (.Pass ⟨0, 0, 0, 0⟩)
abbrev i_is_whole : Nat := 0
abbrev i_are_sets : Nat := 1
abbrev i_is_row : Nat := 2
abbrev i_is_telling : Nat := 3
abbrev i_need_telling : Nat := 4
abbrev i_need_sets : Nat := 5
abbrev i_regions : Nat := 6
abbrev i_is_within : Nat := 7
abbrev i_columns : Nat := 8
abbrev i_rows_of : Nat := 9
abbrev i_free_places : Nat := 10
abbrev i_most_at : Nat := 11
abbrev i_go_on : Nat := 12
abbrev i_is_dead : Nat := 13
abbrev i_first_from : Nat := 14
abbrev i_least_lots : Nat := 15
abbrev i_can : Nat := 16
abbrev i_with_row : Nat := 17
abbrev i_both_rows : Nat := 18
abbrev i_top_of : Nat := 19
abbrev i_bounds : Nat := 20
abbrev i_filled_from : Nat := 21
abbrev i_region_bounds : Nat := 22
abbrev i_need_names : Nat := 23
abbrev i_called : Nat := 24
abbrev i_renamed : Nat := 25
abbrev i__law_regions : Nat := 26
abbrev i__law_common : Nat := 27
abbrev i__law_fit : Nat := 28
abbrev i__law_cell_at : Nat := 29
abbrev i__law_mixed : Nat := 30
abbrev i__law_draw : Nat := 31
abbrev i__law_pick : Nat := 32
abbrev i__law_lots : Nat := 33
abbrev i__law_telling : Nat := 34
abbrev i__law_names : Nat := 35
abbrev i_law : Nat := 36
abbrev x_LotError : Nat := 0
abbrev x_NoTelling : Nat := 1
abbrev x_NoSets : Nat := 2
abbrev x_Never : Nat := 3
abbrev x_NoNames : Nat := 4
def b_is_whole : S :=
  (.cons (.ret (.and (.isi .int (.var 0)) (.and (.not (.isi .bool (.var 0))) (.chain .le .le (.var 1) (.var 0) (.var 2)))))
    .nil)
def d_is_whole : Df := ⟨3, 3, b_is_whole⟩
def f_is_whole : Fn := ⟨"is_whole", top 9, d_is_whole, ["thing", "low", "most"], ["thing", "low", "most"]⟩
def b_are_sets : S :=
  (.cons (.ite (.or (.not (.isi .tuple (.var 1))) (.not (.bi .all (.cons (.lc false [2] (.name 2) (.cons (.var 1) .nil) .nil (.call i_is_whole (.cons (.var 2) (.cons (.con (.int 0)) (.cons (.bin .sub (.var 0) (.con (.int 1))) .nil))))) .nil)))) (.cons (.ret (.con (.bl false)))
    .nil) .nil)
    (.cons (.ret (.cmp .eq (.bi (.list false) (.cons (.var 1) .nil)) (.bi2 .sset (.var 1))))
    .nil))
def d_are_sets : Df := ⟨2, 3, b_are_sets⟩
def f_are_sets : Fn := ⟨"are_sets", top 10, d_are_sets, ["many", "thing", "one"], ["many", "thing"]⟩
def b_is_row : S :=
  (.cons (.ret (.and (.isi .tuple (.var 1)) (.and (.cmp .eq (.bi .len (.cons (.var 1) .nil)) (.con (.int 2))) (.and (.call i_are_sets (.cons (.var 0) (.cons (.idx (.var 1) (.con (.int 0))) .nil))) (.call i_is_whole (.cons (.idx (.var 1) (.con (.int 1))) (.cons (.con (.int 0)) (.cons (.glo "MOST" (.int 9)) .nil))))))))
    .nil)
def d_is_row : Df := ⟨2, 2, b_is_row⟩
def f_is_row : Fn := ⟨"is_row", top 11, d_is_row, ["many", "thing"], ["many", "thing"]⟩
def b_is_telling : S :=
  (.cons (.ite (.or (.not (.isi .tuple (.var 0))) (.or (.cmp .ne (.bi .len (.cons (.var 0) .nil)) (.con (.int 2))) (.not (.call i_is_whole (.cons (.idx (.var 0) (.con (.int 0))) (.cons (.con (.int 1)) (.cons (.glo "SETS" (.int 3)) .nil))))))) (.cons (.ret (.con (.bl false)))
    .nil) .nil)
    (.cons (.ite (.or (.not (.isi .tuple (.idx (.var 0) (.con (.int 1))))) (.not (.bi .all (.cons (.lc false [1] (.name 1) (.cons (.idx (.var 0) (.con (.int 1))) .nil) .nil (.call i_is_row (.cons (.idx (.var 0) (.con (.int 0))) (.cons (.var 1) .nil)))) .nil)))) (.cons (.ret (.con (.bl false)))
    .nil) .nil)
    (.cons (.ret (.bi .all (.cons (.lc false [2, 3] (.tup (.cons (.name 2) (.cons (.name 3) .nil))) (.zip (.idx (.var 0) (.con (.int 1))) (.sl (.idx (.var 0) (.con (.int 1))) (.cons (.con (.int 1)) .nil) .nil)) .nil (.cmp .lt (.idx (.var 2) (.con (.int 0))) (.idx (.var 3) (.con (.int 0))))) .nil)))
    .nil)))
def d_is_telling : Df := ⟨1, 4, b_is_telling⟩
def f_is_telling : Fn := ⟨"is_telling", top 12, d_is_telling, ["thing", "row", "one", "other"], ["thing"]⟩
def b_need_telling : S :=
  (.cons (.ite (.not (.call i_is_telling (.cons (.var 0) .nil))) (.cons (.raise x_NoTelling)
    .nil) .nil)
    .nil)
def d_need_telling : Df := ⟨1, 1, b_need_telling⟩
def f_need_telling : Fn := ⟨"need_telling", top 13, d_need_telling, ["thing"], ["thing"]⟩
def b_need_sets : S :=
  (.cons (.ite (.not (.call i_are_sets (.cons (.idx (.var 0) (.con (.int 0))) (.cons (.var 1) .nil)))) (.cons (.raise x_NoSets)
    .nil) .nil)
    .nil)
def d_need_sets : Df := ⟨2, 2, b_need_sets⟩
def f_need_sets : Fn := ⟨"need_sets", top 14, d_need_sets, ["telling", "thing"], ["telling", "thing"]⟩
def b_regions : S :=
  (.cons (.asg (.name 1) (.lst false (.cons (.tup .nil) .nil)))
    (.cons (.for_ (.name 2) (.rng (.var 0)) (.cons (.asg (.name 1) (.bin .add (.var 1) (.lc false [3] (.name 3) (.cons (.var 1) .nil) .nil (.bin .add (.var 3) (.tup (.cons (.var 2) .nil))))))
    .nil))
    (.cons (.ret (.bi .sorted (.cons (.var 1) .nil)))
    .nil)))
def d_regions : Df := ⟨1, 4, b_regions⟩
def f_regions : Fn := ⟨"regions", top 15, d_regions, ["many", "made", "one", "some"], ["many"]⟩
def b_is_within : S :=
  (.cons (.ret (.bi .all (.cons (.lc false [2] (.name 2) (.cons (.var 0) .nil) .nil (.cmp .isin (.var 2) (.var 1))) .nil)))
    .nil)
def d_is_within : Df := ⟨2, 3, b_is_within⟩
def f_is_within : Fn := ⟨"is_within", top 16, d_is_within, ["some", "region", "one"], ["some", "region"]⟩
def b_columns : S :=
  (.cons (.ret (.lc false [2, 3] (.tup (.cons (.name 2) (.cons (.name 3) .nil))) (.enu (.call i_regions (.cons (.idx (.var 0) (.con (.int 0))) .nil))) (.cons (.call i_is_within (.cons (.var 1) (.cons (.var 3) .nil))) .nil) (.var 2)))
    .nil)
def d_columns : Df := ⟨2, 4, b_columns⟩
def f_columns : Fn := ⟨"columns", top 17, d_columns, ["telling", "some", "place", "region"], ["telling", "some"]⟩
def b_rows_of : S :=
  (.cons (.ret (.lc false [1, 2] (.tup (.cons (.name 1) (.cons (.name 2) .nil))) (.cons (.idx (.var 0) (.con (.int 1))) .nil) .nil (.tup (.cons (.call i_columns (.cons (.var 0) (.cons (.var 1) .nil))) (.cons (.var 2) .nil)))))
    .nil)
def d_rows_of : Df := ⟨1, 3, b_rows_of⟩
def f_rows_of : Fn := ⟨"rows_of", top 19, d_rows_of, ["telling", "some", "number"], ["telling"]⟩
def b_free_places : S :=
  (.cons (.asg (.name 1) (.call i_rows_of (.cons (.var 0) .nil)))
    (.cons (.ret (.lc false [2] (.name 2) (.rng (.bi .len (.cons (.call i_regions (.cons (.idx (.var 0) (.con (.int 0))) .nil)) .nil))) (.cons (.not (.bi .any (.cons (.lc false [3] (.name 3) (.cons (.var 1) .nil) .nil (.cmp .isin (.var 2) (.idx (.var 3) (.con (.int 0))))) .nil))) .nil) (.var 2)))
    .nil))
def d_free_places : Df := ⟨1, 4, b_free_places⟩
def f_free_places : Fn := ⟨"free_places", top 20, d_free_places, ["telling", "some", "place", "row"], ["telling"]⟩
def b_most_at : S :=
  (.cons (.asg (.name 3) (.lc false [4, 5] (.tup (.cons (.name 4) (.cons (.name 5) .nil))) (.enu (.var 0)) (.cons (.cmp .isin (.var 2) (.idx (.var 5) (.con (.int 0)))) .nil) (.idx (.var 1) (.var 4))))
    (.cons (.ite (.cmp .eq (.var 3) (.lst false .nil)) (.cons (.ret (.con .non))
    .nil) .nil)
    (.cons (.ret (.bi .min (.cons (.var 3) .nil)))
    .nil)))
def d_most_at : Df := ⟨3, 6, b_most_at⟩
def f_most_at : Fn := ⟨"most_at", top 21, d_most_at, ["rows", "left", "place", "some", "at", "row"], ["rows", "left", "place"]⟩
def b_go_on : S :=
  (.cons (.ret (.lc false [4, 5] (.tup (.cons (.name 4) (.cons (.name 5) .nil))) (.zip (.var 1) (.var 0)) .nil (.bin .sub (.var 4) (.bin (.mul false) (.var 3) (.bi .int (.cons (.cmp .isin (.var 2) (.idx (.var 5) (.con (.int 0)))) .nil))))))
    .nil)
def d_go_on : Df := ⟨4, 6, b_go_on⟩
def f_go_on : Fn := ⟨"go_on", top 22, d_go_on, ["rows", "left", "place", "many", "number", "row"], ["rows", "left", "place", "many"]⟩
def b_is_dead : S :=
  (.cons (.for_ (.tup (.cons (.name 3) (.cons (.name 4) .nil))) (.zip (.var 1) (.var 0)) (.cons (.ite (.and (.cmp .gt (.var 3) (.con (.int 0))) (.cmp .lt (.idx (.idx (.var 4) (.con (.int 0))) (.neg (.con (.int 1)))) (.var 2))) (.cons (.ret (.con (.bl true)))
    .nil) .nil)
    .nil))
    (.cons (.ret (.con (.bl false)))
    .nil))
def d_is_dead : Df := ⟨3, 5, b_is_dead⟩
def f_is_dead : Fn := ⟨"is_dead", top 23, d_is_dead, ["rows", "left", "place", "number", "row"], ["rows", "left", "place"]⟩
def b_first_from : S :=
  (.cons (.asg (.name 5) (.tup (.cons (.var 2) (.cons (.bi .tuple (.cons (.var 1) .nil)) .nil))))
    (.cons (.ite (.or (.cmp .isin (.var 5) (.var 4)) (.call i_is_dead (.cons (.var 0) (.cons (.var 1) (.cons (.var 2) .nil))))) (.cons (.ret (.con .non))
    .nil) .nil)
    (.cons (.ite (.cmp .eq (.var 2) (.var 3)) (.cons (.ret (.tup .nil))
    .nil) .nil)
    (.cons (.asg (.name 6) (.orV (.call i_most_at (.cons (.var 0) (.cons (.var 1) (.cons (.var 2) .nil)))) (.con (.int 0))))
    (.cons (.for_ (.name 7) (.rng (.bin .add (.var 6) (.con (.int 1)))) (.cons (.asg (.name 8) (.call i_first_from (.cons (.var 0) (.cons (.call i_go_on (.cons (.var 0) (.cons (.var 1) (.cons (.var 2) (.cons (.var 7) .nil))))) (.cons (.bin .add (.var 2) (.con (.int 1))) (.cons (.var 3) (.cons (.var 4) .nil)))))))
    (.cons (.ite (.notN (.var 8)) (.cons (.ret (.bin .add (.tup (.cons (.var 7) .nil)) (.var 8)))
    .nil) .nil)
    .nil)))
    (.cons (.setI (.var 4) (.var 5) (.con (.bl true)))
    (.cons (.ret (.con .non))
    .nil)))))))
def d_first_from : Df := ⟨5, 9, b_first_from⟩
def f_first_from : Fn := ⟨"first_from", top 24, d_first_from, ["rows", "left", "place", "many", "dead", "key", "top", "number", "rest"], ["rows", "left", "place", "many", "dead"]⟩
def b_least_lots : S :=
  (.cons (.asg (.name 1) (.call i_rows_of (.cons (.var 0) .nil)))
    (.cons (.ret (.call i_first_from (.cons (.var 1) (.cons (.lc false [2] (.name 2) (.cons (.var 1) .nil) .nil (.idx (.var 2) (.con (.int 1)))) (.cons (.con (.int 0)) (.cons (.bi .len (.cons (.call i_regions (.cons (.idx (.var 0) (.con (.int 0))) .nil)) .nil)) (.cons .dic .nil)))))))
    .nil))
def d_least_lots : Df := ⟨1, 3, b_least_lots⟩
def f_least_lots : Fn := ⟨"least_lots", top 25, d_least_lots, ["telling", "rows", "row"], ["telling"]⟩
def b_can : S :=
  (.cons (.expr (.call i_need_telling (.cons (.var 0) .nil)))
    (.cons (.ret (.notN (.call i_least_lots (.cons (.var 0) .nil))))
    .nil))
def d_can : Df := ⟨1, 1, b_can⟩
def f_can : Fn := ⟨"can", top 26, d_can, ["telling"], ["telling"]⟩
def b_with_row : S :=
  (.cons (.asg (.name 3) (.bin .add (.lc false [4] (.name 4) (.cons (.idx (.var 0) (.con (.int 1))) .nil) (.cons (.cmp .ne (.idx (.var 4) (.con (.int 0))) (.var 1)) .nil) (.var 4)) (.lst false (.cons (.tup (.cons (.var 1) (.cons (.var 2) .nil))) .nil))))
    (.cons (.ret (.tup (.cons (.idx (.var 0) (.con (.int 0))) (.cons (.bi .tuple (.cons (.bi .sorted (.cons (.var 3) .nil)) .nil)) .nil))))
    .nil))
def d_with_row : Df := ⟨3, 5, b_with_row⟩
def f_with_row : Fn := ⟨"with_row", top 27, d_with_row, ["telling", "some", "number", "rows", "row"], ["telling", "some", "number"]⟩
def b_both_rows : S :=
  (.cons (.for_ (.name 3) (.cons (.idx (.var 0) (.con (.int 1))) .nil) (.cons (.ite (.cmp .eq (.idx (.var 3) (.con (.int 0))) (.var 1)) (.cons (.ret (.cmp .eq (.idx (.var 3) (.con (.int 1))) (.var 2)))
    .nil) .nil)
    .nil))
    (.cons (.ret (.notN (.call i_least_lots (.cons (.call i_with_row (.cons (.var 0) (.cons (.var 1) (.cons (.var 2) .nil)))) .nil))))
    .nil))
def d_both_rows : Df := ⟨3, 4, b_both_rows⟩
def f_both_rows : Fn := ⟨"both_rows", top 28, d_both_rows, ["telling", "some", "number", "row"], ["telling", "some", "number"]⟩
def b_top_of : S :=
  (.cons (.ite (.bi .any (.cons (.lc false [2] (.name 2) (.cons (.call i_free_places (.cons (.var 0) .nil)) .nil) .nil (.cmp .isin (.var 2) (.call i_columns (.cons (.var 0) (.cons (.var 1) .nil))))) .nil)) (.cons (.ret (.con .non))
    .nil) .nil)
    (.cons (.ret (.bi .sum (.cons (.lc false [3] (.name 3) (.cons (.idx (.var 0) (.con (.int 1))) .nil) .nil (.idx (.var 3) (.con (.int 1)))) .nil)))
    .nil))
def d_top_of : Df := ⟨2, 4, b_top_of⟩
def f_top_of : Fn := ⟨"top_of", top 29, d_top_of, ["telling", "some", "place", "row"], ["telling", "some"]⟩
def b_bounds : S :=
  (.cons (.expr (.call i_need_telling (.cons (.var 0) .nil)))
    (.cons (.expr (.call i_need_sets (.cons (.var 0) (.cons (.var 1) .nil))))
    (.cons (.ite (.isN (.call i_least_lots (.cons (.var 0) .nil))) (.cons (.raise x_Never)
    .nil) .nil)
    (.cons (.asg (.name 2) (.con (.int 0)))
    (.cons (.while_ (.not (.call i_both_rows (.cons (.var 0) (.cons (.var 1) (.cons (.var 2) .nil))))) (.cons (.asg (.name 2) (.bin .add (.var 2) (.con (.int 1))))
    .nil))
    (.cons (.asg (.name 3) (.call i_top_of (.cons (.var 0) (.cons (.var 1) .nil))))
    (.cons (.ite (.isN (.var 3)) (.cons (.ret (.tup (.cons (.var 2) (.cons (.con .non) .nil))))
    .nil) .nil)
    (.cons (.while_ (.not (.call i_both_rows (.cons (.var 0) (.cons (.var 1) (.cons (.var 3) .nil))))) (.cons (.asg (.name 3) (.bin .sub (.var 3) (.con (.int 1))))
    .nil))
    (.cons (.ret (.tup (.cons (.var 2) (.cons (.var 3) .nil))))
    .nil)))))))))
def d_bounds : Df := ⟨2, 4, b_bounds⟩
def f_bounds : Fn := ⟨"bounds", top 30, d_bounds, ["telling", "some", "number", "top"], ["telling", "some"]⟩
def b_filled_from : S :=
  (.cons (.ite (.cmp .eq (.var 2) (.var 4)) (.cons (.ret (.ite (.cmp .eq (.bi .max (.cons (.bin .add (.lst false (.cons (.con (.int 0)) .nil)) (.var 1)) .nil)) (.con (.int 0))) (.tup (.cons (.con (.int 0)) (.cons (.con (.int 0)) .nil))) (.con .non)))
    .nil) .nil)
    (.cons (.asg (.name 6) (.tup (.cons (.var 2) (.cons (.bi .tuple (.cons (.var 1) .nil)) .nil))))
    (.cons (.ite (.cmp .notin (.var 6) (.var 5)) (.cons (.asg (.name 7) (.lc false [13, 14] (.tup (.cons (.name 13) (.cons (.name 14) .nil))) (.enu (.var 0)) (.cons (.cmp .isin (.var 2) (.idx (.var 14) (.con (.int 0)))) .nil) (.idx (.var 1) (.var 13))))
    (.cons (.asg (.name 8) (.lst true .nil))
    (.cons (.for_ (.name 9) (.rng (.bin .add (.bi .min (.cons (.bin .add (.var 7) (.lst false (.cons (.bin (.mul false) (.con (.int 99)) (.bi .int (.cons (.cmp .ne (.var 7) (.lst false .nil)) .nil))) .nil))) .nil)) (.con (.int 1)))) (.cons (.asg (.name 10) (.lc false [14, 15] (.tup (.cons (.name 15) (.cons (.name 14) .nil))) (.zip (.var 1) (.var 0)) .nil (.bin .sub (.var 15) (.bin (.mul false) (.var 9) (.bi .int (.cons (.cmp .isin (.var 2) (.idx (.var 14) (.con (.int 0)))) .nil))))))
    (.cons (.asg (.name 11) (.call i_filled_from (.cons (.var 0) (.cons (.var 10) (.cons (.bin .add (.var 2) (.con (.int 1))) (.cons (.var 3) (.cons (.var 4) (.cons (.var 5) .nil))))))))
    (.cons (.ite (.notN (.var 11)) (.cons (.asg (.name 12) (.bin (.mul false) (.var 9) (.bi .int (.cons (.cmp .eq (.var 2) (.var 3)) .nil))))
    (.cons (.expr (.me .append (.var 8) (.cons (.tup (.cons (.bin .add (.idx (.var 11) (.con (.int 0))) (.var 12)) (.cons (.bin .add (.idx (.var 11) (.con (.int 1))) (.var 12)) .nil))) .nil)))
    .nil)) .nil)
    .nil))))
    (.cons (.setI (.var 5) (.var 6) (.ite (.cmp .ne (.var 8) (.lst false .nil)) (.tup (.cons (.bi .min (.cons (.lc false [16, 17] (.tup (.cons (.name 16) (.cons (.name 17) .nil))) (.cons (.var 8) .nil) .nil (.var 16)) .nil)) (.cons (.bi .max (.cons (.lc false [16, 17] (.tup (.cons (.name 16) (.cons (.name 17) .nil))) (.cons (.var 8) .nil) .nil (.var 17)) .nil)) .nil))) (.con .non)))
    .nil)))) .nil)
    (.cons (.ret (.idx (.var 5) (.var 6)))
    .nil))))
def d_filled_from : Df := ⟨6, 18, b_filled_from⟩
def f_filled_from : Fn := ⟨"filled_from", top 32, d_filled_from, ["rows", "left", "place", "here", "many", "known", "key", "some", "found", "number", "later", "rest", "more", "at", "row", "one", "low", "high"], ["rows", "left", "place", "here", "many", "known"]⟩
def b_region_bounds : S :=
  (.cons (.expr (.call i_need_telling (.cons (.var 0) .nil)))
    (.cons (.expr (.call i_need_sets (.cons (.var 0) (.cons (.var 1) .nil))))
    (.cons (.ite (.isN (.call i_least_lots (.cons (.var 0) .nil))) (.cons (.raise x_Never)
    .nil) .nil)
    (.cons (.asg (.name 2) (.call i_regions (.cons (.idx (.var 0) (.con (.int 0))) .nil)))
    (.cons (.asg (.name 3) (.me .index (.var 2) (.cons (.var 1) .nil)))
    (.cons (.ite (.cmp .isin (.var 3) (.call i_free_places (.cons (.var 0) .nil))) (.cons (.ret (.tup (.cons (.con (.int 0)) (.cons (.con .non) .nil))))
    .nil) .nil)
    (.cons (.asg (.name 4) (.call i_rows_of (.cons (.var 0) .nil)))
    (.cons (.ret (.call i_filled_from (.cons (.var 4) (.cons (.lc false [5, 6] (.tup (.cons (.name 5) (.cons (.name 6) .nil))) (.cons (.var 4) .nil) .nil (.var 6)) (.cons (.con (.int 0)) (.cons (.var 3) (.cons (.bi .len (.cons (.var 2) .nil)) (.cons .dic .nil))))))))
    .nil))))))))
def d_region_bounds : Df := ⟨2, 7, b_region_bounds⟩
def f_region_bounds : Fn := ⟨"region_bounds", top 33, d_region_bounds, ["telling", "region", "every", "place", "rows", "some", "number"], ["telling", "region"]⟩
def b_need_names : S :=
  (.cons (.ite (.or (.not (.isi .tuple (.var 1))) (.not (.bi .all (.cons (.lc false [2] (.name 2) (.cons (.var 1) .nil) .nil (.call i_is_whole (.cons (.var 2) (.cons (.con (.int 0)) (.cons (.bin .sub (.var 0) (.con (.int 1))) .nil))))) .nil)))) (.cons (.raise x_NoNames)
    .nil) .nil)
    (.cons (.ite (.cmp .ne (.bi .sorted (.cons (.var 1) .nil)) (.bi2 (.lrng false) (.var 0))) (.cons (.raise x_NoNames)
    .nil) .nil)
    .nil))
def d_need_names : Df := ⟨2, 3, b_need_names⟩
def f_need_names : Fn := ⟨"need_names", top 35, d_need_names, ["many", "names", "one"], ["many", "names"]⟩
def b_called : S :=
  (.cons (.ret (.bi .tuple (.cons (.bi .sorted (.cons (.lc false [2] (.name 2) (.cons (.var 0) .nil) .nil (.idx (.var 1) (.var 2))) .nil)) .nil)))
    .nil)
def d_called : Df := ⟨2, 3, b_called⟩
def f_called : Fn := ⟨"called", top 36, d_called, ["some", "names", "one"], ["some", "names"]⟩
def b_renamed : S :=
  (.cons (.expr (.call i_need_telling (.cons (.var 0) .nil)))
    (.cons (.expr (.call i_need_names (.cons (.idx (.var 0) (.con (.int 0))) (.cons (.var 1) .nil))))
    (.cons (.ret (.tup (.cons (.idx (.var 0) (.con (.int 0))) (.cons (.bi .tuple (.cons (.bi .sorted (.cons (.lc false [2, 3] (.tup (.cons (.name 2) (.cons (.name 3) .nil))) (.cons (.idx (.var 0) (.con (.int 1))) .nil) .nil (.tup (.cons (.call i_called (.cons (.var 2) (.cons (.var 1) .nil))) (.cons (.var 3) .nil)))) .nil)) .nil)) .nil))))
    .nil)))
def d_renamed : Df := ⟨2, 4, b_renamed⟩
def f_renamed : Fn := ⟨"renamed", top 37, d_renamed, ["telling", "names", "some", "number"], ["telling", "names"]⟩
def b__law_regions : S :=
  (.cons (.asg (.name 1) (.lst false (.cons (.tup .nil) .nil)))
    (.cons (.for_ (.name 2) (.rng (.var 0)) (.cons (.asg (.name 1) (.bin .add (.var 1) (.lc false [3] (.name 3) (.cons (.var 1) .nil) .nil (.bin .add (.var 3) (.tup (.cons (.var 2) .nil))))))
    .nil))
    (.cons (.ret (.bi .sorted (.cons (.var 1) .nil)))
    .nil)))
def d__law_regions : Df := ⟨1, 4, b__law_regions⟩
def f__law_regions : Fn := ⟨"_law_regions", top 39, d__law_regions, ["many", "made", "one", "some"], ["many"]⟩
def b__law_common : S :=
  (.cons (.asg (.name 3) (.con (.int 0)))
    (.cons (.for_ (.tup (.cons (.name 4) (.cons (.name 5) .nil))) (.zip (.call i__law_regions (.cons (.var 0) .nil)) (.var 1)) (.cons (.ite (.cmp .eq (.lc false [6] (.name 6) (.cons (.var 2) .nil) (.cons (.cmp .notin (.var 6) (.var 4)) .nil) (.var 6)) (.lst false .nil)) (.cons (.asg (.name 3) (.bin .add (.var 3) (.var 5)))
    .nil) .nil)
    .nil))
    (.cons (.ret (.var 3))
    .nil)))
def d__law_common : Df := ⟨3, 7, b__law_common⟩
def f__law_common : Fn := ⟨"_law_common", top 40, d__law_common, ["many", "heap", "some", "total", "region", "number", "one"], ["many", "heap", "some"]⟩
def b__law_fit : S :=
  (.cons (.ret (.cmp .eq (.lc false [2] (.name 2) (.cons (.idx (.var 0) (.con (.int 1))) .nil) (.cons (.cmp .ne (.call i__law_common (.cons (.idx (.var 0) (.con (.int 0))) (.cons (.var 1) (.cons (.idx (.var 2) (.con (.int 0))) .nil)))) (.idx (.var 2) (.con (.int 1)))) .nil) (.var 2)) (.lst false .nil)))
    .nil)
def d__law_fit : Df := ⟨2, 3, b__law_fit⟩
def f__law_fit : Fn := ⟨"_law_fit", top 41, d__law_fit, ["telling", "heap", "row"], ["telling", "heap"]⟩
def b__law_cell_at : S :=
  (.cons (.ite (.cmp .lt (.var 1) (.bi .len (.cons (.var 0) .nil))) (.cons (.ret (.idx (.var 0) (.var 1)))
    .nil) .nil)
    (.cons (.ite (.cmp .eq (.var 0) (.lst false .nil)) (.cons (.ret (.con (.int 0)))
    .nil) .nil)
    (.cons (.ret (.bin .add (.bin (.mul false) (.idx (.var 0) (.bin .mod (.var 1) (.bi .len (.cons (.var 0) .nil)))) (.con (.int 31))) (.var 1)))
    .nil)))
def d__law_cell_at : Df := ⟨2, 2, b__law_cell_at⟩
def f__law_cell_at : Fn := ⟨"_law_cell_at", top 42, d__law_cell_at, ["script", "k"], ["script", "k"]⟩
def b__law_mixed : S :=
  (.cons (.asg (.name 3) (.bin .mod (.bin .add (.bin .add (.bin (.mul false) (.call i__law_cell_at (.cons (.var 0) (.cons (.var 1) .nil))) (.con (.int 1103515245))) (.bin (.mul false) (.con (.int 7919)) (.var 1))) (.con (.int 12345))) (.con (.int 2147483647))))
    (.cons (.ret (.bin .mod (.bin .mod (.bin .mod (.bin .pow (.var 3) (.con (.int 5))) (.con (.int 2147483647))) (.con (.int 999983))) (.var 2)))
    .nil))
def d__law_mixed : Df := ⟨3, 4, b__law_mixed⟩
def f__law_mixed : Fn := ⟨"_law_mixed", top 43, d__law_mixed, ["script", "k", "many", "drawn"], ["script", "k", "many"]⟩
def b__law_draw : S :=
  (.cons (.expr (.me .append (.var 1) (.cons (.con (.int 0)) .nil)))
    (.cons (.ret (.call i__law_mixed (.cons (.var 0) (.cons (.bi .len (.cons (.var 1) .nil)) (.cons (.var 2) .nil)))))
    .nil))
def d__law_draw : Df := ⟨3, 3, b__law_draw⟩
def f__law_draw : Fn := ⟨"_law_draw", top 44, d__law_draw, ["script", "town", "many"], ["script", "town", "many"]⟩
def b__law_pick : S :=
  (.cons (.ret (.idx (.var 2) (.call i__law_draw (.cons (.var 0) (.cons (.var 1) (.cons (.bi .len (.cons (.var 2) .nil)) .nil))))))
    .nil)
def d__law_pick : Df := ⟨3, 3, b__law_pick⟩
def f__law_pick : Fn := ⟨"_law_pick", top 45, d__law_pick, ["script", "town", "some"], ["script", "town", "some"]⟩
def b__law_lots : S :=
  (.cons (.ret (.bi .tuple (.cons (.lc false [4] (.name 4) (.cons (.call i__law_regions (.cons (.var 2) .nil)) .nil) .nil (.call i__law_draw (.cons (.var 0) (.cons (.var 1) (.cons (.var 3) .nil))))) .nil)))
    .nil)
def d__law_lots : Df := ⟨4, 5, b__law_lots⟩
def f__law_lots : Fn := ⟨"_law_lots", top 46, d__law_lots, ["script", "town", "many", "wide", "region"], ["script", "town", "many", "wide"]⟩
def b__law_telling : S :=
  (.cons (.asg (.name 4) (.call i__law_draw (.cons (.var 0) (.cons (.var 1) (.cons (.con (.int 4)) .nil)))))
    (.cons (.asg (.name 5) (.bin .add (.con (.int 1)) (.call i__law_draw (.cons (.var 0) (.cons (.var 1) (.cons (.con (.int 3)) .nil))))))
    (.cons (.asg (.name 6) (.call i__law_lots (.cons (.var 0) (.cons (.var 1) (.cons (.var 5) (.cons (.var 2) .nil))))))
    (.cons (.asg (.name 7) (.lst true .nil))
    (.cons (.for_ (.name 8) (.cons (.call i__law_regions (.cons (.var 5) .nil)) .nil) (.cons (.ite (.or (.cmp .ge (.call i__law_draw (.cons (.var 0) (.cons (.var 1) (.cons (.con (.int 4)) .nil)))) (.var 4)) (.cmp .eq (.var 8) (.tup .nil))) (.cons (.expr (.me .append (.var 7) (.cons (.tup (.cons (.var 8) (.cons (.bi .min (.cons (.con (.int 9)) (.cons (.call i__law_common (.cons (.var 5) (.cons (.var 6) (.cons (.var 8) .nil)))) .nil))) .nil))) .nil)))
    .nil) .nil)
    .nil))
    (.cons (.for_ (.name 9) (.rng (.var 3)) (.cons (.asg (.name 10) (.call i__law_draw (.cons (.var 0) (.cons (.var 1) (.cons (.bi .len (.cons (.var 7) .nil)) .nil)))))
    (.cons (.setI (.var 7) (.var 10) (.tup (.cons (.idx (.idx (.var 7) (.var 10)) (.con (.int 0))) (.cons (.call i__law_draw (.cons (.var 0) (.cons (.var 1) (.cons (.con (.int 10)) .nil)))) .nil))))
    .nil)))
    (.cons (.ret (.tup (.cons (.var 5) (.cons (.bi .tuple (.cons (.var 7) .nil)) .nil))))
    .nil)))))))
def d__law_telling : Df := ⟨4, 11, b__law_telling⟩
def f__law_telling : Fn := ⟨"_law_telling", top 47, d__law_telling, ["script", "town", "wide", "spoilt", "share", "many", "heap", "rows", "some", "k", "at"], ["script", "town", "wide", "spoilt"]⟩
def b__law_names : S :=
  (.cons (.asg (.name 3) (.bi2 (.lrng true) (.var 2)))
    (.cons (.asg (.name 4) (.lst true .nil))
    (.cons (.while_ (.cmp .ne (.var 3) (.lst false .nil)) (.cons (.expr (.me .append (.var 4) (.cons (.me .popAt (.var 3) (.cons (.call i__law_draw (.cons (.var 0) (.cons (.var 1) (.cons (.bi .len (.cons (.var 3) .nil)) .nil)))) .nil)) .nil)))
    .nil))
    (.cons (.ret (.bi .tuple (.cons (.var 4) .nil)))
    .nil))))
def d__law_names : Df := ⟨3, 5, b__law_names⟩
def f__law_names : Fn := ⟨"_law_names", top 48, d__law_names, ["script", "town", "many", "left", "made"], ["script", "town", "many"]⟩
def law_s0 : S :=
  (.asg (.name 1) (.lst true .nil))
def law_s1 : S :=
  (.asg (.name 2) (.call i__law_telling (.cons (.var 0) (.cons (.var 1) (.cons (.con (.int 2)) (.cons (.con (.int 0)) .nil))))))
def law_s2 : S :=
  (.asg (.name 3) (.idx (.var 2) (.con (.int 0))))
def law_s3 : S :=
  (.asg (.name 4) (.bi .tuple (.cons (.lc false [12] (.name 12) (.cons (.idx (.var 2) (.con (.int 1))) .nil) (.cons (.or (.cmp .ne (.idx (.var 12) (.con (.int 0))) (.tup .nil)) (.cmp .eq (.call i__law_draw (.cons (.var 0) (.cons (.var 1) (.cons (.con (.int 2)) .nil)))) (.con (.int 0)))) .nil) (.var 12)) .nil)))
def law_s4 : S :=
  (.asg (.name 2) (.tup (.cons (.var 3) (.cons (.var 4) .nil))))
def law_s5 : S :=
  (.ite (.not (.call i_can (.cons (.var 2) .nil))) (.cons (.ret (.con (.bl false)))
    .nil) .nil)
def law_s6 : S :=
  (.asg (.name 5) (.call i__law_names (.cons (.var 0) (.cons (.var 1) (.cons (.var 3) .nil)))))
def law_s7 : S :=
  (.for_ (.name 6) (.cons (.call i__law_regions (.cons (.var 3) .nil)) .nil) (.cons (.asg (.tup (.cons (.name 7) (.cons (.name 8) .nil))) (.call i_region_bounds (.cons (.var 2) (.cons (.var 6) .nil))))
    (.cons (.asg (.name 9) (.lc false [13, 14] (.tup (.cons (.name 13) (.cons (.name 14) .nil))) (.cons (.var 4) .nil) (.cons (.cmp .eq (.lc false [15] (.name 15) (.cons (.var 13) .nil) (.cons (.cmp .notin (.var 15) (.var 6)) .nil) (.var 15)) (.lst false .nil)) .nil) (.var 14)))
    (.cons (.ite (.or (.cmp .ne (.isN (.var 8)) (.cmp .eq (.var 9) (.lst false .nil))) (.and (.isN (.var 8)) (.cmp .ne (.var 7) (.con (.int 0))))) (.cons (.ret (.con (.bl false)))
    .nil) .nil)
    (.cons (.ite (.and (.notN (.var 8)) (.not (.chn .le .le .le (.con (.int 0)) (.var 7) (.var 8) (.bi .min (.cons (.var 9) .nil))))) (.cons (.ret (.con (.bl false)))
    .nil) .nil)
    (.cons (.asg (.name 10) (.call i_region_bounds (.cons (.call i_renamed (.cons (.var 2) (.cons (.var 5) .nil))) (.cons (.bi .tuple (.cons (.bi .sorted (.cons (.lc false [15] (.name 15) (.cons (.var 6) .nil) .nil (.idx (.var 5) (.var 15))) .nil)) .nil)) .nil))))
    (.cons (.ite (.cmp .ne (.var 10) (.tup (.cons (.var 7) (.cons (.var 8) .nil)))) (.cons (.ret (.con (.bl false)))
    .nil) .nil)
    .nil)))))))
def law_s8 : S :=
  (.asg (.name 11) (.bi2 .trng (.var 3)))
def law_s9 : S :=
  (.ret (.cmp .eq (.call i_region_bounds (.cons (.var 2) (.cons (.var 11) .nil))) (.call i_bounds (.cons (.var 2) (.cons (.var 11) .nil)))))
def b_law : S :=
  (.cons law_s0 (.cons law_s1 (.cons law_s2 (.cons law_s3 (.cons law_s4 (.cons law_s5 (.cons law_s6 (.cons law_s7 (.cons law_s8 (.cons law_s9 .nil))))))))))
def d_law : Df := ⟨1, 16, b_law⟩
def f_law : Fn := ⟨"law", top 49, d_law, ["script", "town", "telling", "many", "rows", "names", "region", "low", "high", "counted", "other", "whole", "row", "some", "number", "one"], ["script"]⟩
def L : List Fn := [f_is_whole, f_are_sets, f_is_row, f_is_telling, f_need_telling, f_need_sets, f_regions, f_is_within, f_columns, f_rows_of, f_free_places, f_most_at, f_go_on, f_is_dead, f_first_from, f_least_lots, f_can, f_with_row, f_both_rows, f_top_of, f_bounds, f_filled_from, f_region_bounds, f_need_names, f_called, f_renamed, f__law_regions, f__law_common, f__law_fit, f__law_cell_at, f__law_mixed, f__law_draw, f__law_pick, f__law_lots, f__law_telling, f__law_names, f_law]
def G : Gt := ⟨fnsOf L, [(0, "LotError"), (1, "NoTelling"), (2, "NoSets"), (3, "Never"), (4, "NoNames")], [("SETS", (.int 3)), ("MOST", (.int 9))], ["ValueError", "all", "any", "bool", "enumerate", "int", "isinstance", "len", "list", "max", "min", "range", "set", "sorted", "sum", "tuple", "zip"], []⟩
theorem c_is_whole (k : Nat) (ds : List Mn.D) (st : Store) : callN (tab L) (k + 1) i_is_whole ds st = runDf (callN (tab L) k) d_is_whole ds st := rfl
theorem c_are_sets (k : Nat) (ds : List Mn.D) (st : Store) : callN (tab L) (k + 1) i_are_sets ds st = runDf (callN (tab L) k) d_are_sets ds st := rfl
theorem c_is_row (k : Nat) (ds : List Mn.D) (st : Store) : callN (tab L) (k + 1) i_is_row ds st = runDf (callN (tab L) k) d_is_row ds st := rfl
theorem c_is_telling (k : Nat) (ds : List Mn.D) (st : Store) : callN (tab L) (k + 1) i_is_telling ds st = runDf (callN (tab L) k) d_is_telling ds st := rfl
theorem c_need_telling (k : Nat) (ds : List Mn.D) (st : Store) : callN (tab L) (k + 1) i_need_telling ds st = runDf (callN (tab L) k) d_need_telling ds st := rfl
theorem c_need_sets (k : Nat) (ds : List Mn.D) (st : Store) : callN (tab L) (k + 1) i_need_sets ds st = runDf (callN (tab L) k) d_need_sets ds st := rfl
theorem c_regions (k : Nat) (ds : List Mn.D) (st : Store) : callN (tab L) (k + 1) i_regions ds st = runDf (callN (tab L) k) d_regions ds st := rfl
theorem c_is_within (k : Nat) (ds : List Mn.D) (st : Store) : callN (tab L) (k + 1) i_is_within ds st = runDf (callN (tab L) k) d_is_within ds st := rfl
theorem c_columns (k : Nat) (ds : List Mn.D) (st : Store) : callN (tab L) (k + 1) i_columns ds st = runDf (callN (tab L) k) d_columns ds st := rfl
theorem c_rows_of (k : Nat) (ds : List Mn.D) (st : Store) : callN (tab L) (k + 1) i_rows_of ds st = runDf (callN (tab L) k) d_rows_of ds st := rfl
theorem c_free_places (k : Nat) (ds : List Mn.D) (st : Store) : callN (tab L) (k + 1) i_free_places ds st = runDf (callN (tab L) k) d_free_places ds st := rfl
theorem c_most_at (k : Nat) (ds : List Mn.D) (st : Store) : callN (tab L) (k + 1) i_most_at ds st = runDf (callN (tab L) k) d_most_at ds st := rfl
theorem c_go_on (k : Nat) (ds : List Mn.D) (st : Store) : callN (tab L) (k + 1) i_go_on ds st = runDf (callN (tab L) k) d_go_on ds st := rfl
theorem c_is_dead (k : Nat) (ds : List Mn.D) (st : Store) : callN (tab L) (k + 1) i_is_dead ds st = runDf (callN (tab L) k) d_is_dead ds st := rfl
theorem c_first_from (k : Nat) (ds : List Mn.D) (st : Store) : callN (tab L) (k + 1) i_first_from ds st = runDf (callN (tab L) k) d_first_from ds st := rfl
theorem c_least_lots (k : Nat) (ds : List Mn.D) (st : Store) : callN (tab L) (k + 1) i_least_lots ds st = runDf (callN (tab L) k) d_least_lots ds st := rfl
theorem c_can (k : Nat) (ds : List Mn.D) (st : Store) : callN (tab L) (k + 1) i_can ds st = runDf (callN (tab L) k) d_can ds st := rfl
theorem c_with_row (k : Nat) (ds : List Mn.D) (st : Store) : callN (tab L) (k + 1) i_with_row ds st = runDf (callN (tab L) k) d_with_row ds st := rfl
theorem c_both_rows (k : Nat) (ds : List Mn.D) (st : Store) : callN (tab L) (k + 1) i_both_rows ds st = runDf (callN (tab L) k) d_both_rows ds st := rfl
theorem c_top_of (k : Nat) (ds : List Mn.D) (st : Store) : callN (tab L) (k + 1) i_top_of ds st = runDf (callN (tab L) k) d_top_of ds st := rfl
theorem c_bounds (k : Nat) (ds : List Mn.D) (st : Store) : callN (tab L) (k + 1) i_bounds ds st = runDf (callN (tab L) k) d_bounds ds st := rfl
theorem c_filled_from (k : Nat) (ds : List Mn.D) (st : Store) : callN (tab L) (k + 1) i_filled_from ds st = runDf (callN (tab L) k) d_filled_from ds st := rfl
theorem c_region_bounds (k : Nat) (ds : List Mn.D) (st : Store) : callN (tab L) (k + 1) i_region_bounds ds st = runDf (callN (tab L) k) d_region_bounds ds st := rfl
theorem c_need_names (k : Nat) (ds : List Mn.D) (st : Store) : callN (tab L) (k + 1) i_need_names ds st = runDf (callN (tab L) k) d_need_names ds st := rfl
theorem c_called (k : Nat) (ds : List Mn.D) (st : Store) : callN (tab L) (k + 1) i_called ds st = runDf (callN (tab L) k) d_called ds st := rfl
theorem c_renamed (k : Nat) (ds : List Mn.D) (st : Store) : callN (tab L) (k + 1) i_renamed ds st = runDf (callN (tab L) k) d_renamed ds st := rfl
theorem c__law_regions (k : Nat) (ds : List Mn.D) (st : Store) : callN (tab L) (k + 1) i__law_regions ds st = runDf (callN (tab L) k) d__law_regions ds st := rfl
theorem c__law_common (k : Nat) (ds : List Mn.D) (st : Store) : callN (tab L) (k + 1) i__law_common ds st = runDf (callN (tab L) k) d__law_common ds st := rfl
theorem c__law_fit (k : Nat) (ds : List Mn.D) (st : Store) : callN (tab L) (k + 1) i__law_fit ds st = runDf (callN (tab L) k) d__law_fit ds st := rfl
theorem c__law_cell_at (k : Nat) (ds : List Mn.D) (st : Store) : callN (tab L) (k + 1) i__law_cell_at ds st = runDf (callN (tab L) k) d__law_cell_at ds st := rfl
theorem c__law_mixed (k : Nat) (ds : List Mn.D) (st : Store) : callN (tab L) (k + 1) i__law_mixed ds st = runDf (callN (tab L) k) d__law_mixed ds st := rfl
theorem c__law_draw (k : Nat) (ds : List Mn.D) (st : Store) : callN (tab L) (k + 1) i__law_draw ds st = runDf (callN (tab L) k) d__law_draw ds st := rfl
theorem c__law_pick (k : Nat) (ds : List Mn.D) (st : Store) : callN (tab L) (k + 1) i__law_pick ds st = runDf (callN (tab L) k) d__law_pick ds st := rfl
theorem c__law_lots (k : Nat) (ds : List Mn.D) (st : Store) : callN (tab L) (k + 1) i__law_lots ds st = runDf (callN (tab L) k) d__law_lots ds st := rfl
theorem c__law_telling (k : Nat) (ds : List Mn.D) (st : Store) : callN (tab L) (k + 1) i__law_telling ds st = runDf (callN (tab L) k) d__law_telling ds st := rfl
theorem c__law_names (k : Nat) (ds : List Mn.D) (st : Store) : callN (tab L) (k + 1) i__law_names ds st = runDf (callN (tab L) k) d__law_names ds st := rfl
theorem c_law (k : Nat) (ds : List Mn.D) (st : Store) : callN (tab L) (k + 1) i_law ds st = runDf (callN (tab L) k) d_law ds st := rfl
end Pg

set_option Elab.async false
set_option linter.all false
set_option maxRecDepth 100000
set_option maxHeartbeats 8000000
/-! Cm: helpers. -/
namespace Pg
open Mn
def outR : Out → Res Mn.D
  | .next _ st1 => .ok .non st1
  | .ret x st1 => .ok x st1
  | .exc c _ st1 => .exc c st1
  | _ => .err
theorem set_get {st : Store} {j : Nat} {o o' : Ob} (h : st[j]? = some o) : (st.set j o')[j]? = some o' := by
  have := (List.getElem?_eq_some_iff.mp h).1
  simp [this]
/-- a draw with the object 0 as town -/
def Town (st : Store) (n : Nat) : Prop := ∃ xs, st[0]? = some (.lst xs) ∧ xs.length = n
theorem Town.app {st : Store} {n : Nat} (h : Town st n) (r : Store) : Town (st ++ r) n := by
  obtain ⟨xs, h1, h2⟩ := h
  exact ⟨xs, by rw [List.getElem?_append_left (List.getElem?_eq_some_iff.mp h1).1]; exact h1, h2⟩
def Fin (o : Out) : Prop := ∃ st, outR o = .ok (.bl true) st
theorem stp {C : Calls} {s r : S} {env env' : En} {st st' : Store} (h : Mn.exec C s env st = .next env' st') (k : Fin (Mn.exec C r env' st')) : Fin (Mn.exec C (.cons s r) env st) := by
  rw [ex_cons, h]; exact k
theorem exS {C : Calls} {s r : S} {env env' : En} {st st' : Store} (h : Mn.exec C s env st = .next env' st') : Mn.exec C (.cons s r) env st = Mn.exec C r env' st' := by rw [ex_cons, h]
theorem set_self {st : Store} {j : Nat} {o : Ob} (h : st[j]? = some o) : st.set j o = st := by
  apply List.ext_getElem?
  intro i
  by_cases hi : j = i
  · subst hi; rw [set_get h, h]
  · rw [List.getElem?_set_ne hi]
/-- the store behind a statement -/
def stOf : Out → Store
  | .next _ st => st
  | .ret _ st => st
  | .brk _ st => st
  | .cont _ st => st
  | .exc _ _ st => st
  | .err => []
end Pg

set_option Elab.async false
set_option linter.all false
set_option maxRecDepth 100000
set_option maxHeartbeats 8000000
/-! DrB: draws (by powers). -/
namespace Pg
open Mn
theorem cell_ok (k : Nat) (ns : List Int) (st : Store) (c : Int) (hc : 0 ≤ c) : ∃ v, callN (tab L) (k + 1) i__law_cell_at [.scr ns, .int c] st = .ok (.int v) st := by
  rw [c__law_cell_at]
  by_cases h1 : c < ns.length
  · have e : atD ns c = some (ns[c.toNat]'(by omega)) := by
      simp only [atD, ixOf, hc, h1, if_true, Option.bind]
      exact List.getElem?_eq_getElem (by omega)
    refine ⟨ns[c.toNat]'(by omega), ?_⟩
    simp [runDf, d__law_cell_at, b__law_cell_at, Mn.exec, ev, evs, evB, boolR, Res.bind, prim, pBi, bLen, pCmp, oB, D.okp, D.isP, D.dep, D.alike, D.lt, h1, pIdx, e]
  · by_cases h2 : ns = []
    · subst h2
      refine ⟨0, ?_⟩
      have h0 : ¬ c < 0 := by omega
      simp [runDf, d__law_cell_at, b__law_cell_at, Mn.exec, ev, evs, evB, boolR, Res.bind, prim, pBi, bLen, pCmp, oB, D.okp, D.isP, D.dep, D.alike, D.lt, pIdx, scrEq, newL, maxLen, Option.orElse, h0]
    · have hne : ns.isEmpty = false := by cases ns with
        | nil => exact absurd rfl h2
        | cons _ _ => rfl
      have hp : (0 : Int) < (ns.length : Int) := by
        have := List.length_pos_iff.mpr h2
        omega
      have hp' : 0 < ns.length := by omega
      have hm1 := Int.emod_nonneg c (show (ns.length : Int) ≠ 0 by omega)
      have hm2 := Int.emod_lt_of_pos c hp
      have e : atD ns (c % (ns.length : Int)) = some (ns[(c % (ns.length : Int)).toNat]'(by omega)) := by
        simp only [atD, ixOf, hm1, hm2, if_true, Option.bind]
        exact List.getElem?_eq_getElem (by omega)
      refine ⟨ns[(c % (ns.length : Int)).toNat]'(by omega) * 31 + c, ?_⟩
      simp [runDf, d__law_cell_at, b__law_cell_at, Mn.exec, ev, evs, evB, boolR, Res.bind, prim, pBi, bLen, pCmp, oB, D.okp, D.isP, D.dep, D.alike, D.lt, h1, pIdx, scrEq, newL, maxLen, Option.orElse, hne, h2, pBin, hp', e]
theorem mixed_ok (k : Nat) (ns : List Int) (st : Store) (c many : Int) (hc : 0 ≤ c) (hm : 0 < many) : ∃ v, 0 ≤ v ∧ v < many ∧ callN (tab L) (k + 2) i__law_mixed [.scr ns, .int c, .int many] st = .ok (.int v) st := by
  obtain ⟨x, e⟩ := cell_ok k ns st c hc
  rw [c__law_mixed]
  generalize hd : (x * 1103515245 + 7919 * c + 12345) % 2147483647 = dr
  have d1 : 0 ≤ dr := by omega
  have d2 : dr < 2147483647 := by omega
  have hb : dr.natAbs < 18446744073709551616 := by omega
  refine ⟨dr ^ 5 % 2147483647 % 999983 % many, Int.emod_nonneg _ (by omega), Int.emod_lt_of_pos _ hm, ?_⟩
  simp [runDf, d__law_mixed, b__law_mixed, Mn.exec, ev, evs, Res.bind, prim, pBin, e, asgT, hm, hd, hb]
theorem draw_ok (k : Nat) (ns : List Int) (st : Store) (n : Nat) (xs : List Mn.D) (many : Int) (hm : 0 < many) (h : st[n]? = some (.lst xs)) (hl : xs.length < 1000) :
    ∃ v, 0 ≤ v ∧ v < many ∧ callN (tab L) (k + 3) i__law_draw [.scr ns, .ob n, .int many] st = .ok (.int v) (st.set n (.lst (xs ++ [.int 0]))) := by
  have hn : n < st.length := (List.getElem?_eq_some_iff.mp h).1
  obtain ⟨v, h1, h2, e⟩ := mixed_ok k ns (st.set n (.lst (xs ++ [.int 0]))) ((xs.length + 1 : Nat) : Int) many (by omega) hm
  refine ⟨v, h1, h2, ?_⟩
  rw [c__law_draw]
  have hl' : xs.length < maxLen := by unfold maxLen; omega
  have hg : (st.set n (.lst (xs ++ [.int 0])))[n]? = some (.lst (xs ++ [.int 0])) := by simp [hn]
  have e' : callN (tab L) (k + 2) i__law_mixed [.scr ns, .int (xs.length + 1), .int many] (st.set n (.lst (xs ++ [.int 0]))) = .ok (.int v) (st.set n (.lst (xs ++ [.int 0]))) := by simpa using e
  clear hn
  simp [runDf, d__law_draw, b__law_draw, Mn.exec, ev, evs, Res.bind, prim, pMe, mAppend, asL, obL, h, hl', pBi, bLen, asQ, hg, e', -List.getElem?_set]
theorem draw_t (k : Nat) (ns : List Int) {st : Store} {n : Nat} {many : Int} (hm : 0 < many) (h : Town st n) (hn : n < 500) : ∃ v st', (0 ≤ v ∧ v < many) ∧ callN (tab L) (k + 3) i__law_draw [.scr ns, .ob 0, .int many] st = .ok (.int v) st' ∧ Town st' (n + 1) := by
  obtain ⟨xs, h1, h2⟩ := h
  obtain ⟨v, g1, g2, e⟩ := draw_ok k ns st 0 xs many hm h1 (by omega)
  exact ⟨v, _, ⟨g1, g2⟩, e, _, set_get h1, by simp [h2]⟩
end Pg

set_option Elab.async false
set_option linter.all false
set_option maxRecDepth 100000
set_option maxHeartbeats 8000000
/-! Pu2: first_from. -/
namespace Pg
open Mn
/-! ### walks -/
theorem lc_ix {src : List (Nat × List Mn.D)} {body : Mn.D → Store → Res (Option Mn.D)} {st : Store} (hs : still st src = true) : ∀ (xs : List Mn.D) (ys : List (Option Mn.D)) (acc : List Mn.D), xs.length = ys.length → (∀ (i : Nat) x y, xs[i]? = some x → ys[i]? = some y → body x st = .ok y st) →
    lcLoop src body xs acc st = .ok (acc.reverse ++ ys.filterMap id) st
  | [], [], acc, _, _ => by simp [lcLoop, hs]
  | [], _ :: _, acc, h, _ => by simp at h
  | _ :: _, [], acc, h, _ => by simp at h
  | x :: xs, y :: ys, acc, h, hb => by
    have e := hb 0 x y rfl rfl
    have ih := fun acc => lc_ix hs xs ys acc (by simpa using h) fun i x y h1 h2 => hb (i + 1) x y (by simpa using h1) (by simpa using h2)
    cases y with
    | none => simp only [lcLoop, hs, if_true, e]; rw [ih]; simp
    | some d => simp only [lcLoop, hs, if_true, e]; rw [ih]; simp
theorem still_nil (st : Store) : still st [] = true := rfl
/-! ### rows -/
def iD (l : List Int) : List Mn.D := l.map .int
abbrev Rw := List Int × Int
def rD (r : Rw) : Mn.D := .tup [.lst (iD r.1), .int r.2]
theorem iD_okps (l : List Int) : okps (iD l) = true := by
  simp [okps, iD, isPs_ints, deps_ints]
theorem iD_any (l : List Int) (p : Int) : ((iD l).any fun y => y.eqv (.int p)) = decide (p ∈ l) := by
  induction l with
  | nil => rfl
  | cons a l ih =>
    show ((D.int a).eqv (.int p) || (iD l).any fun y => y.eqv (.int p)) = _
    rw [ih]
    by_cases h : a = p
    · subst h; simp [D.eqv]
    · have : ¬ p = a := fun z => h z.symm
      simp [D.eqv, h, this]
theorem in_cols (st : Store) (p : Int) (l : List Int) : pIn (.int p) (.lst (iD l)) st = some (decide (p ∈ l)) := by
  simp only [pIn, iD_okps]
  rw [iD_any]
  rfl
theorem iD_len (l : List Int) : (iD l).length = l.length := by simp [iD]
theorem iD_get (l : List Int) (i : Nat) : (iD l)[i]? = (l[i]?).map D.int := by simp [iD]
theorem dInts_iD (l : List Int) : dInts (iD l) = some l := by
  induction l with
  | nil => rfl
  | cons a l ih =>
    show (dInts (iD l)).map (a :: ·) = _
    rw [ih]; rfl
/-- the rows that hold the place p, by what is left -/
def mostL (cs : List (List Int)) (left : List Int) (p : Int) : List Int := ((cs.zip left).filter fun q => decide (p ∈ q.1)).map (·.2)
def topI (cs : List (List Int)) (left : List Int) (p : Int) : Int := match mostL cs left p with
  | [] => 0
  | x :: xs => minI x xs
def goL (cs : List (List Int)) (left : List Int) (p v : Int) : List Int := (left.zip cs).map fun q => q.1 - v * (if p ∈ q.2 then 1 else 0)
theorem goL_len {cs : List (List Int)} {left : List Int} (p v : Int) (h : left.length = cs.length) : (goL cs left p v).length = cs.length := by simp [goL, h]
theorem filterMap_most (cs : List (List Int)) (left : List Int) (p : Int) : (((cs.zip left).map fun q => if p ∈ q.1 then some (D.int q.2) else none).filterMap id) = iD (mostL cs left p) := by
  unfold mostL iD
  induction cs.zip left with
  | nil => rfl
  | cons q l ih =>
    by_cases h : p ∈ q.1
    · simp only [List.map_cons, h, if_true, List.filterMap_cons, id, ih, List.filter_cons, decide_true]
    · simp only [List.map_cons, h, if_false, List.filterMap_cons, id, ih, List.filter_cons, decide_false]
      simp
theorem most_ok (k : Nat) (rs : List Rw) (left : List Int) (p : Int) (st : Store) (hl : left.length = rs.length) (hm : rs.length ≤ 1000) :
    callN (tab L) (k + 1) i_most_at [.lst (rs.map rD), .lst (iD left), .int p] st = .ok (match mostL (rs.map (·.1)) left p with
      | [] => .non
      | x :: xs => .int (minI x xs)) st := by
  rw [c_most_at]
  have hlc : ∀ acc, lcLoop [] (lcBody (callN (tab L) k) [4, 5] (.tup (.cons (.name 4) (.cons (.name 5) .nil))) (.cons (.cmp .isin (.var 2) (.idx (.var 5) (.con (.int 0)))) .nil) (.idx (.var 1) (.var 4)) [some (.lst (rs.map rD)), some (.lst (iD left)), some (.int p), none, none, none]) (enuD 0 (rs.map rD)) acc st
      = .ok (acc.reverse ++ iD (mostL (rs.map (·.1)) left p)) st := by
    intro acc
    rw [← filterMap_most]
    refine lc_ix (still_nil st) _ _ acc ?_ fun i x y h1 h2 => ?_
    · have : (enuD 0 (rs.map rD)).length = rs.length := by
        have e : ∀ (xs : List Mn.D) j, (enuD j xs).length = xs.length := by
          intro xs
          induction xs with
          | nil => intro j; rfl
          | cons x xs ih => intro j; simp [enuD, ih]
        rw [e, List.length_map]
      rw [this]
      simp [hl]
    · have hi : i < rs.length := by
        rcases Nat.lt_or_ge i rs.length with z | z
        · exact z
        · rw [enuD_get, List.getElem?_map, List.getElem?_eq_none z] at h1; cases h1
      have hz : ((rs.map (·.1)).zip left)[i]? = some (rs[i].1, left[i]) := by
        rw [List.getElem?_eq_getElem (by simp; omega)]
        simp
      rw [enuD_get, List.getElem?_map, List.getElem?_eq_getElem hi] at h1
      rw [List.getElem?_map, hz] at h2
      simp only [Option.map, Option.some.injEq, Nat.zero_add] at h1 h2
      subst h1; subst h2
      have e0 : atD [Mn.D.lst (iD rs[i].1), .int rs[i].2] 0 = some (.lst (iD rs[i].1)) := rfl
      have e1 : atD (iD left) (i : Int) = some (.int left[i]) := by
        have h0 : (0 : Int) ≤ i := by omega
        have h1 : (i : Int) < ((iD left).length : Int) := by rw [iD_len]; omega
        simp only [atD, ixOf, h0, h1, if_true, Option.bind, Int.toNat_natCast, iD_get]
        rw [List.getElem?_eq_getElem (by omega)]
        rfl
      by_cases hp : p ∈ rs[i].1
      · simp [lcBody, asgT, asgTs, wipeE, pCmp, in_cols, pIdx, rD, optR, hp, e0, e1]
      · simp [lcBody, asgT, asgTs, wipeE, pCmp, in_cols, pIdx, rD, optR, hp, e0, e1]
  have hlen : (mostL (rs.map (·.1)) left p).length ≤ maxLen := by
    have : (mostL (rs.map (·.1)) left p).length ≤ ((rs.map (·.1)).zip left).length := by
      unfold mostL
      rw [List.length_map]
      exact List.length_filter_le _ _
    rw [List.length_zip, List.length_map] at this
    unfold maxLen
    omega
  have hl2 : (iD (mostL (rs.map (·.1)) left p)).length ≤ maxLen := by rw [iD_len]; exact hlen
  cases hmo : mostL (rs.map (·.1)) left p with
  | nil =>
    rw [hmo, show iD [] = [] from rfl] at hlc
    have m0 : 0 ≤ maxLen := Nat.zero_le _
    simp [runDf, d_most_at, b_most_at, wkOf, hlc, asgT, pCmp, scrEq, vw, D.okp, D.isP, isPs, D.dep, deps, D.eqv, eqvs, Option.orElse, m0]
  | cons x xs =>
    rw [hmo] at hlc hl2
    have hne : eqvs (iD (x :: xs)) [] = false := rfl
    have hok := iD_okps (x :: xs)
    have h1 := (Bool.and_eq_true_iff.mp hok).1
    have h2 : deps (iD (x :: xs)) = 0 := deps_ints _
    have hd := dInts_iD (x :: xs)
    generalize hg : iD (x :: xs) = xl at *
    have m0 : 0 ≤ maxLen := Nat.zero_le _
    simp [runDf, d_most_at, b_most_at, wkOf, hlc, asgT, pCmp, scrEq, vw, D.okp, D.isP, isPs, D.dep, deps, D.eqv, hne, h1, h2, Option.orElse, hl2, pBi, bMin, asL, hd, m0]
theorem zipD_eq : ∀ (xs ys : List Mn.D), zipD xs ys = (xs.zip ys).map fun q => .tup [q.1, q.2]
  | [], _ => by simp [zipD]
  | _ :: _, [] => by simp [zipD]
  | x :: xs, y :: ys => by simp [zipD, zipD_eq xs ys]
/-- what is walked: left and rows, side by side -/
theorem zip_items (left : List Int) (rs : List Rw) (i : Nat) (x : Mn.D) (h : (zipD (iD left) (rs.map rD))[i]? = some x) (hl : left.length = rs.length) : ∃ (h1 : i < left.length) (h2 : i < rs.length), x = .tup [.int left[i], rD rs[i]] := by
  rw [zipD_eq, List.getElem?_map] at h
  rcases Nat.lt_or_ge i rs.length with z | z
  · refine ⟨by omega, z, ?_⟩
    rw [List.getElem?_eq_getElem (by simp [iD_len]; omega)] at h
    simp only [Option.map, Option.some.injEq] at h
    rw [← h]
    simp [iD]
  · rw [List.getElem?_eq_none (by simp [iD_len]; omega)] at h
    cases h
theorem iD_some : ∀ l : List Int, (l.map fun z => some (D.int z)).filterMap id = iD l
  | [] => rfl
  | a :: l => by
    show D.int a :: ((l.map fun z => some (D.int z)).filterMap id) = D.int a :: iD l
    rw [iD_some l]
theorem go_ok (k : Nat) (rs : List Rw) (left : List Int) (p v : Int) (st : Store) (hl : left.length = rs.length) (hm : rs.length ≤ 1000) (hv : 0 ≤ v ∧ v < 1000) :
    callN (tab L) (k + 1) i_go_on [.lst (rs.map rD), .lst (iD left), .int p, .int v] st = .ok (.lst (iD (goL (rs.map (·.1)) left p v))) st := by
  rw [c_go_on]
  have hlc : ∀ acc, lcLoop [] (lcBody (callN (tab L) k) [4, 5] (.tup (.cons (.name 4) (.cons (.name 5) .nil))) .nil (.bin .sub (.var 4) (.bin (.mul false) (.var 3) (.bi .int (.cons (.cmp .isin (.var 2) (.idx (.var 5) (.con (.int 0)))) .nil)))) [some (.lst (rs.map rD)), some (.lst (iD left)), some (.int p), some (.int v), none, none]) (zipD (iD left) (rs.map rD)) acc st
      = .ok (acc.reverse ++ iD (goL (rs.map (·.1)) left p v)) st := by
    intro acc
    rw [← iD_some (goL (rs.map (·.1)) left p v)]
    refine lc_ix (still_nil st) _ _ acc ?_ fun i x y h1 h2 => ?_
    · rw [zipD_eq]
      simp [iD_len, goL, hl]
    · obtain ⟨g1, g2, rfl⟩ := zip_items left rs i x h1 hl
      have hy : y = some (.int (left[i] - v * (if p ∈ rs[i].1 then 1 else 0))) := by
        rw [List.getElem?_map] at h2
        unfold goL at h2
        rw [List.getElem?_map, List.getElem?_eq_getElem (by simp; omega)] at h2
        simp only [Option.map, Option.some.injEq] at h2
        rw [← h2]
        simp
      subst hy
      have e0 : atD [Mn.D.lst (iD rs[i].1), .int rs[i].2] 0 = some (.lst (iD rs[i].1)) := rfl
      have hv1 : -18446744073709551616 < v ∧ v < 18446744073709551616 := by omega
      by_cases hp : p ∈ rs[i].1
      · simp [lcBody, asgT, asgTs, wipeE, pCmp, in_cols, pIdx, rD, optR, hp, e0, pBi, bInt, pBin, hv1]
      · simp [lcBody, asgT, asgTs, wipeE, pCmp, in_cols, pIdx, rD, optR, hp, e0, pBi, bInt, pBin, hv1]
  have hl2 : (iD (goL (rs.map (·.1)) left p v)).length ≤ maxLen := by
    rw [iD_len, goL_len _ _ (by rw [List.length_map]; exact hl), List.length_map]
    unfold maxLen
    omega
  simp [runDf, d_go_on, b_go_on, wkOf, hlc, hl2]
/-- some row is not yet full and has no place left -/
def deadB (cs : List (List Int)) (left : List Int) (p : Int) : Bool := (left.zip cs).any fun q => decide (0 < q.1) && (match q.2.getLast? with
  | some c => decide (c < p)
  | none => false)
theorem last_at (l : List Int) (h : l ≠ []) : atD (iD l) (-1) = some (.int (l.getLast h)) := by
  have h1 : ¬ (0 : Int) ≤ -1 := by omega
  have hp := List.length_pos_iff.mpr h
  have h2 : -((iD l).length : Int) ≤ -1 := by rw [iD_len]; omega
  have h3 : (-1 + ((iD l).length : Int)).toNat = l.length - 1 := by rw [iD_len]; omega
  simp only [atD, ixOf, h1, h2, if_true, if_false, Option.bind, h3, iD_get]
  rw [List.getLast_eq_getElem, List.getElem?_eq_getElem (by omega)]
  rfl
theorem dead_ok (k : Nat) (rs : List Rw) (left : List Int) (p : Int) (st : Store) (hl : left.length = rs.length) (hne : ∀ r ∈ rs, r.1 ≠ []) :
    callN (tab L) (k + 1) i_is_dead [.lst (rs.map rD), .lst (iD left), .int p] st = .ok (.bl (deadB (rs.map (·.1)) left p)) st := by
  rw [c_is_dead]
  have key : ∀ (rs : List Rw) (left : List Int) (a b : Option Mn.D) (x y : Mn.D), left.length = rs.length → (∀ r ∈ rs, r.1 ≠ []) →
      (deadB (rs.map (·.1)) left p = true → forLoop [] (forBody (callN (tab L) k) (.tup (.cons (.name 3) (.cons (.name 4) .nil))) (.cons (.ite (.and (.cmp .gt (.var 3) (.con (.int 0))) (.cmp .lt (.idx (.idx (.var 4) (.con (.int 0))) (.neg (.con (.int 1)))) (.var 2))) (.cons (.ret (.con (.bl true))) .nil) .nil) .nil)) (zipD (iD left) (rs.map rD)) [some x, some y, some (.int p), a, b] st = .ret (.bl true) st) ∧
      (deadB (rs.map (·.1)) left p = false → ∃ a' b', forLoop [] (forBody (callN (tab L) k) (.tup (.cons (.name 3) (.cons (.name 4) .nil))) (.cons (.ite (.and (.cmp .gt (.var 3) (.con (.int 0))) (.cmp .lt (.idx (.idx (.var 4) (.con (.int 0))) (.neg (.con (.int 1)))) (.var 2))) (.cons (.ret (.con (.bl true))) .nil) .nil) .nil)) (zipD (iD left) (rs.map rD)) [some x, some y, some (.int p), a, b] st = .next [some x, some y, some (.int p), a', b'] st) := by
    intro rs
    induction rs with
    | nil =>
      intro left a b x y hl _
      have : left = [] := by simpa using hl
      subst this
      exact ⟨fun h => by simp [deadB] at h, fun _ => ⟨a, b, by simp [zipD, iD, forLoop, still]⟩⟩
    | cons r rs ih =>
      intro left a b x y hl hne
      cases left with
      | nil => simp at hl
      | cons l left =>
        have hr := hne r List.mem_cons_self
        obtain ⟨ih1, ih2⟩ := ih left (some (.int l)) (some (rD r)) x y (by simpa using hl) fun r' h => hne r' (List.mem_cons_of_mem _ h)
        have ez : zipD (iD (l :: left)) ((r :: rs).map rD) = .tup [.int l, rD r] :: zipD (iD left) (rs.map rD) := by simp [iD, zipD]
        have ed : deadB ((r :: rs).map (·.1)) (l :: left) p = ((decide (0 < l) && decide (r.1.getLast hr < p)) || deadB (rs.map (·.1)) left p) := by
          simp [deadB, List.getLast?_eq_some_getLast hr]
        have e0 : atD [Mn.D.lst (iD r.1), .int r.2] 0 = some (.lst (iD r.1)) := rfl
        have e1 := last_at r.1 hr
        have hb : forBody (callN (tab L) k) (.tup (.cons (.name 3) (.cons (.name 4) .nil))) (.cons (.ite (.and (.cmp .gt (.var 3) (.con (.int 0))) (.cmp .lt (.idx (.idx (.var 4) (.con (.int 0))) (.neg (.con (.int 1)))) (.var 2))) (.cons (.ret (.con (.bl true))) .nil) .nil) .nil) (.tup [.int l, rD r]) [some x, some y, some (.int p), a, b] st
            = if decide (0 < l) && decide (r.1.getLast hr < p) then .ret (.bl true) st else .next [some x, some y, some (.int p), some (.int l), some (rD r)] st := by
          by_cases h1 : 0 < l
          · by_cases h2 : r.1.getLast hr < p
            · simp [forBody, asgT, asgTs, pCmp, h1, h2, pIdx, rD, optR, e0, e1, D.okp, D.isP, D.dep, D.alike, D.lt]
            · simp [forBody, asgT, asgTs, pCmp, h1, h2, pIdx, rD, optR, e0, e1, D.okp, D.isP, D.dep, D.alike, D.lt]
          · simp [forBody, asgT, asgTs, pCmp, h1]
        rw [ez, ed]
        simp only [forLoop, still, if_true, hb]
        cases hc : (decide (0 < l) && decide (r.1.getLast hr < p)) with
        | true => exact ⟨fun _ => by simp, fun h => by simp at h⟩
        | false => simpa using ⟨ih1, ih2⟩
  obtain ⟨k1, k2⟩ := key rs left none none (.lst (rs.map rD)) (.lst (iD left)) hl hne
  cases hd : deadB (rs.map (·.1)) left p with
  | true => simp [runDf, d_is_dead, b_is_dead, wkOf, k1 hd]
  | false =>
    obtain ⟨a, b, e⟩ := k2 hd
    simp [runDf, d_is_dead, b_is_dead, wkOf, e]
end Pg

set_option Elab.async false
set_option linter.all false
set_option maxRecDepth 100000
set_option maxHeartbeats 8000000
/-! Pu3: first_from, as a plain search. -/
namespace Pg
open Mn
def findL (f : Int → Option (List Int)) : Nat → Int → Option (List Int)
  | 0, _ => none
  | c + 1, v => match f v with
    | some r => some (v :: r)
    | none => findL f c (v + 1)
def ffL (cs : List (List Int)) : Nat → Int → List Int → Option (List Int)
  | 0, _, left => if left.all (fun l => decide (l = 0)) then some [] else none
  | n + 1, p, left => findL (fun v => ffL cs n (p + 1) (goL cs left p v)) (topI cs left p + 1).toNat 0
def sumF (f : Int → Nat) : Nat → Int → Nat
  | 0, _ => 0
  | c + 1, v => f v + sumF f c (v + 1)
def costL (cs : List (List Int)) : Nat → Int → List Int → Nat
  | 0, _, _ => 0
  | n + 1, p, left => 1 + sumF (fun v => costL cs n (p + 1) (goL cs left p v)) (topI cs left p + 1).toNat 0
def optD : Option (List Int) → Mn.D
  | none => .non
  | some xs => .tup (iD xs)
def keyD (p : Int) (left : List Int) : Mn.D := .tup [.int p, .tup (iD left)]
def DeadI (cs : List (List Int)) (many : Int) (kvs : List (Mn.D × Mn.D)) : Prop := ∀ q ∈ kvs, ∃ (p : Int) (left : List Int) (n : Nat), q.1 = keyD p left ∧ p + n = many ∧ ffL cs n p left = none
theorem findL_none {f : Int → Option (List Int)} : ∀ (c : Nat) (v : Int), (∀ w, v ≤ w → f w = none) → findL f c v = none
  | 0, _, _ => rfl
  | c + 1, v, h => by simp only [findL, h v (Int.le_refl v)]; exact findL_none c (v + 1) fun w hw => h w (by omega)
theorem findL_len {f : Int → Option (List Int)} {n : Nat} (hf : ∀ v r, f v = some r → r.length = n) : ∀ (c : Nat) (v : Int) (r : List Int), findL f c v = some r → r.length = n + 1
  | 0, _, _, h => by cases h
  | c + 1, v, r, h => by
    simp only [findL] at h
    cases hv : f v with
    | none => rw [hv] at h; exact findL_len hf c (v + 1) r h
    | some q => rw [hv] at h; cases h; simp [hf v q hv]
theorem ffL_len (cs : List (List Int)) : ∀ (n : Nat) (p : Int) (left r : List Int), ffL cs n p left = some r → r.length = n
  | 0, _, left, r, h => by
    simp only [ffL] at h
    split at h
    · cases h; rfl
    · cases h
  | n + 1, p, left, r, h => findL_len (fun v r hr => ffL_len cs n _ _ r hr) _ _ r h
/-- each row's places rise -/
def Rise (cs : List (List Int)) : Prop := ∀ c ∈ cs, ∀ z, c.getLast? = some z → ∀ y ∈ c, y ≤ z
theorem dead_mem {cs : List (List Int)} {left : List Int} {p : Int} : deadB cs left p = true ↔ ∃ (i : Nat) (l z : Int) (c : List Int), left[i]? = some l ∧ cs[i]? = some c ∧ 0 < l ∧ c.getLast? = some z ∧ z < p := by
  unfold deadB
  rw [List.any_eq_true]
  constructor
  · rintro ⟨q, hq, h⟩
    obtain ⟨i, hi⟩ := List.getElem?_of_mem hq
    rw [List.getElem?_zip_eq_some] at hi
    simp only [Bool.and_eq_true, decide_eq_true_eq] at h
    cases hz : q.2.getLast? with
    | none => rw [hz] at h; simp at h
    | some z =>
      rw [hz] at h
      exact ⟨i, q.1, z, q.2, hi.1, hi.2, h.1, hz, by simpa using h.2⟩
  · rintro ⟨i, l, z, c, h1, h2, h3, h4, h5⟩
    refine ⟨(l, c), List.mem_of_getElem? (i := i) (by rw [List.getElem?_zip_eq_some]; exact ⟨h1, h2⟩), ?_⟩
    simp [h3, h4, h5]
theorem goL_get {cs : List (List Int)} {left : List Int} {p v : Int} {i : Nat} {l : Int} {c : List Int} (h1 : left[i]? = some l) (h2 : cs[i]? = some c) : (goL cs left p v)[i]? = some (l - v * (if p ∈ c then 1 else 0)) := by
  unfold goL
  rw [List.getElem?_map, show (left.zip cs)[i]? = some (l, c) by rw [List.getElem?_zip_eq_some]; exact ⟨h1, h2⟩]
  rfl
theorem dead_none {cs : List (List Int)} (hr : Rise cs) : ∀ (n : Nat) (p : Int) (left : List Int), deadB cs left p = true → ffL cs n p left = none
  | 0, p, left, h => by
    obtain ⟨i, l, z, c, h1, h2, h3, h4, h5⟩ := dead_mem.mp h
    have hn : ¬ (left.all fun l => decide (l = 0)) = true := fun ha => by
      have := List.all_eq_true.mp ha l (List.mem_of_getElem? h1)
      simp at this
      omega
    simp only [ffL, if_neg hn]
  | n + 1, p, left, h => by
    refine findL_none _ _ fun w _ => dead_none hr n (p + 1) _ ?_
    obtain ⟨i, l, z, c, h1, h2, h3, h4, h5⟩ := dead_mem.mp h
    have hp : p ∉ c := fun hm => by
      have := hr c (List.mem_of_getElem? h2) z h4 p hm
      omega
    refine dead_mem.mpr ⟨i, l, z, c, ?_, h2, h3, h4, by omega⟩
    rw [goL_get h1 h2]
    simp [hp]
theorem iD_inj : ∀ {a b : List Int}, eqvs (iD a) (iD b) = true → a = b
  | [], [], _ => rfl
  | [], _ :: _, h => by cases h
  | _ :: _, [], h => by cases h
  | x :: a, y :: b, h => by
    have h : ((Mn.D.int x).eqv (.int y) && eqvs (iD a) (iD b)) = true := h
    obtain ⟨h1, h2⟩ := Bool.and_eq_true_iff.mp h
    rw [iD_inj h2, show x = y from of_decide_eq_true h1]
theorem key_eq {p p' : Int} {l l' : List Int} (h : (keyD p l).eqv (keyD p' l') = true) : p = p' ∧ l = l' := by
  have h : ((Mn.D.int p).eqv (.int p') && (eqvs (iD l) (iD l') && true)) = true := h
  simp only [Bool.and_true] at h
  obtain ⟨h1, h2⟩ := Bool.and_eq_true_iff.mp h
  exact ⟨of_decide_eq_true h1, iD_inj h2⟩
theorem key_refl (p : Int) (l : List Int) : (keyD p l).eqv (keyD p l) = true := by
  have : ∀ l : List Int, eqvs (iD l) (iD l) = true := by
    intro l
    induction l with
    | nil => rfl
    | cons a l ih => show (decide (a = a) && eqvs (iD l) (iD l)) = true; simp [ih]
  show (decide (p = p) && (eqvs (iD l) (iD l) && true)) = true
  simp [this]
theorem hsh_ints : ∀ l : List Int, hshs (iD l) = true
  | [] => rfl
  | a :: l => by show (true && hshs (iD l)) = true; simp [hsh_ints l]
theorem keyOk_key (p : Int) (l : List Int) : keyOk (keyD p l) = true := by
  have h1 := hsh_ints l
  have h2 : deps (iD l) = 0 := deps_ints l
  simp [keyOk, keyD, D.hsh, hshs, h1, D.dep, deps, h2]
theorem look_dead {cs : List (List Int)} {many p : Int} {left : List Int} {n : Nat} (hn : p + n = many) : ∀ {kvs : List (Mn.D × Mn.D)}, DeadI cs many kvs → (kLook (keyD p left) kvs).isSome = true → ffL cs n p left = none
  | [], _, h => by cases h
  | (k', v) :: kvs, hd, h => by
    unfold kLook at h
    split at h
    · rename_i he
      obtain ⟨p', l', n', e1, e2, e3⟩ := hd _ List.mem_cons_self
      have e1 : k' = keyD p' l' := e1
      rw [e1] at he
      obtain ⟨z1, z2⟩ := key_eq he
      subst z1; subst z2
      have : n' = n := by omega
      rw [← this]; exact e3
    · exact look_dead hn (fun q hq => hd q (List.mem_cons_of_mem _ hq)) h
theorem put_len (k v : Mn.D) : ∀ kvs : List (Mn.D × Mn.D), (kPut k v kvs).length ≤ kvs.length + 1
  | [] => by simp [kPut]
  | (k', v') :: r => by
    unfold kPut
    split
    · simp
    · simp; exact put_len k v r
theorem put_dead {cs : List (List Int)} {many p : Int} {left : List Int} {n : Nat} (hn : p + n = many) (hf : ffL cs n p left = none) (v : Mn.D) : ∀ {kvs : List (Mn.D × Mn.D)}, DeadI cs many kvs → DeadI cs many (kPut (keyD p left) v kvs)
  | [], hd => fun q hq => by
    have : q = (keyD p left, v) := by simpa [kPut] using hq
    rw [this]
    exact ⟨p, left, n, rfl, hn, hf⟩
  | (k', v') :: r, hd => by
    unfold kPut
    split
    · intro q hq
      rcases List.mem_cons.mp hq with rfl | hq
      · obtain ⟨p', l', n', e⟩ := hd (k', v') List.mem_cons_self
        exact ⟨p', l', n', e⟩
      · exact hd q (List.mem_cons_of_mem _ hq)
    · intro q hq
      rcases List.mem_cons.mp hq with rfl | hq
      · exact hd _ List.mem_cons_self
      · exact put_dead hn hf v (fun q hq => hd q (List.mem_cons_of_mem _ hq)) q hq
theorem in_dct {st : Store} {j : Nat} {kvs : List (Mn.D × Mn.D)} (p : Int) (l : List Int) (h : st[j]? = some (.dct kvs)) : pIn (keyD p l) (.ob j) st = some (kLook (keyD p l) kvs).isSome := by
  have hk := keyOk_key p l
  unfold keyD at hk ⊢
  simp only [pIn, h, hk, if_true]
theorem minI_mem : ∀ (m : Int) (l : List Int), minI m l ∈ m :: l := fun m l => (minI_le m l).1
theorem topI_le {cs : List (List Int)} {left : List Int} {p b : Int} (h : ∀ l ∈ left, 0 ≤ l ∧ l < b) (hb : 0 < b) : 0 ≤ topI cs left p ∧ topI cs left p < b := by
  unfold topI
  cases hm : mostL cs left p with
  | nil => exact ⟨Int.le_refl 0, hb⟩
  | cons x xs =>
    have h1 : minI x xs ∈ mostL cs left p := by rw [hm]; exact minI_mem x xs
    unfold mostL at h1
    obtain ⟨q, hq, e⟩ := List.mem_map.mp h1
    have := List.of_mem_zip (List.mem_filter.mp hq).1
    show 0 ≤ minI x xs ∧ minI x xs < b
    rw [← e]
    exact h q.2 this.2
/-- what is left stays at 0 or more while at most the top is taken -/
theorem goL_pos {cs : List (List Int)} {left : List Int} {p v b : Int} (h : ∀ l ∈ left, 0 ≤ l ∧ l < b) (h0 : 0 ≤ v) (hv : v ≤ topI cs left p) : ∀ l ∈ goL cs left p v, 0 ≤ l ∧ l < b := by
  intro l hl
  unfold goL at hl
  obtain ⟨q, hq, e⟩ := List.mem_map.mp hl
  have hz := List.of_mem_zip hq
  have hb := h q.1 hz.1
  subst e
  by_cases hp : p ∈ q.2
  · rw [if_pos hp]
    have hm : q.1 ∈ mostL cs left p := by
      unfold mostL
      refine List.mem_map.mpr ⟨(q.2, q.1), List.mem_filter.mpr ⟨?_, by simpa using hp⟩, rfl⟩
      obtain ⟨i, hi⟩ := List.getElem?_of_mem hq
      rw [List.getElem?_zip_eq_some] at hi
      exact List.mem_of_getElem? (i := i) (by rw [List.getElem?_zip_eq_some]; exact ⟨hi.2, hi.1⟩)
    unfold topI at hv
    cases hm2 : mostL cs left p with
    | nil => rw [hm2] at hm; simp at hm
    | cons x xs =>
      rw [hm2] at hm hv
      have := (minI_le x xs).2 q.1 hm
      have hv : v ≤ minI x xs := hv
      omega
  · rw [if_neg hp]
    omega
end Pg

set_option Elab.async false
set_option linter.all false
set_option maxRecDepth 100000
set_option maxHeartbeats 8000000
/-! Pu4: first_from by the evaluator. -/
namespace Pg
open Mn
abbrev csOf (rs : List Rw) : List (List Int) := rs.map (·.1)
structure RowsOk (rs : List Rw) (many : Int) : Prop where
  ne : ∀ r ∈ rs, r.1 ≠ []
  rise : Rise (csOf rs)
  last : ∀ r ∈ rs, ∀ z, r.1.getLast? = some z → z < many
  few : rs.length ≤ 1000
/-- the body of the loop over numbers -/
def ffBody : S := (.cons (.asg (.name 8) (.call i_first_from (.cons (.var 0) (.cons (.call i_go_on (.cons (.var 0) (.cons (.var 1) (.cons (.var 2) (.cons (.var 7) .nil))))) (.cons (.bin .add (.var 2) (.con (.int 1))) (.cons (.var 3) (.cons (.var 4) .nil)))))))
    (.cons (.ite (.notN (.var 8)) (.cons (.ret (.bin .add (.tup (.cons (.var 7) .nil)) (.var 8)))
    .nil) .nil)
    .nil))
def ffEnv (rs : List Rw) (left : List Int) (p many : Int) (j : Nat) (a b : Option Mn.D) : En := [some (.lst (rs.map rD)), some (.lst (iD left)), some (.int p), some (.int many), some (.ob j), some (keyD p left), some (.int (topI (csOf rs) left p)), a, b]
theorem ff_loop {rs : List Rw} {many : Int} (ok : RowsOk rs many) (n k : Nat) (p : Int) (left : List Int) (j : Nat) (hn : p + (n + 1 : Nat) = many) (hp0 : 0 ≤ p) (hl : left.length = rs.length) (hpos : ∀ l ∈ left, 0 ≤ l ∧ l < 1000) (hn2 : n < 1000)
    (ih : ∀ (left : List Int) (kvs : List (Mn.D × Mn.D)) (st : Store), left.length = rs.length → (∀ l ∈ left, 0 ≤ l ∧ l < 1000) → st[j]? = some (.dct kvs) → DeadI (csOf rs) many kvs → kvs.length + costL (csOf rs) n (p + 1) left ≤ maxLen →
      ∃ kvs', callN (tab L) (k + 1) i_first_from [.lst (rs.map rD), .lst (iD left), .int (p + 1), .int many, .ob j] st = .ok (optD (ffL (csOf rs) n (p + 1) left)) (st.set j (.dct kvs')) ∧ DeadI (csOf rs) many kvs' ∧ kvs'.length ≤ kvs.length + costL (csOf rs) n (p + 1) left) :
    ∀ (c : Nat) (v : Int) (kvs : List (Mn.D × Mn.D)) (st : Store) (a b : Option Mn.D), 0 ≤ v → v + c = topI (csOf rs) left p + 1 → st[j]? = some (.dct kvs) → DeadI (csOf rs) many kvs → kvs.length + sumF (fun v => costL (csOf rs) n (p + 1) (goL (csOf rs) left p v)) c v ≤ maxLen →
      ∃ kvs', DeadI (csOf rs) many kvs' ∧ kvs'.length ≤ kvs.length + sumF (fun v => costL (csOf rs) n (p + 1) (goL (csOf rs) left p v)) c v ∧
        (match findL (fun v => ffL (csOf rs) n (p + 1) (goL (csOf rs) left p v)) c v with
          | some xs => forLoop [] (forBody (callN (tab L) (k + 1)) (.name 7) ffBody) (rangeD v c) (ffEnv rs left p many j a b) st = .ret (.tup (iD xs)) (st.set j (.dct kvs'))
          | none => ∃ a' b', forLoop [] (forBody (callN (tab L) (k + 1)) (.name 7) ffBody) (rangeD v c) (ffEnv rs left p many j a b) st = .next (ffEnv rs left p many j a' b') (st.set j (.dct kvs')))
  | 0, v, kvs, st, a, b, hv, hc, hj, hd, hcost => by
    refine ⟨kvs, hd, by simp [sumF], a, b, ?_⟩
    have e : st.set j (.dct kvs) = st := by
      apply List.ext_getElem?
      intro i
      by_cases hi : j = i
      · subst hi; rw [set_get hj, hj]
      · rw [List.getElem?_set_ne hi]
    rw [e]
    rfl
  | c + 1, v, kvs, st, a, b, hv, hc, hj, hd, hcost => by
    have hv1 : v ≤ topI (csOf rs) left p := by omega
    have ht := topI_le (cs := csOf rs) (p := p) hpos (by omega)
    have hg := go_ok k rs left p v st hl ok.few ⟨hv, by omega⟩
    have hgl := goL_len p v (cs := csOf rs) (left := left) (by simpa using hl)
    have hgp := goL_pos (cs := csOf rs) hpos hv hv1
    simp only [sumF] at hcost
    obtain ⟨kvs1, e1, d1, l1⟩ := ih (goL (csOf rs) left p v) kvs st (by simpa using hgl) hgp hj hd (by omega)
    have hb : ∀ (o : Option (List Int)), ffL (csOf rs) n (p + 1) (goL (csOf rs) left p v) = o → forBody (callN (tab L) (k + 1)) (.name 7) ffBody (.int v) (ffEnv rs left p many j a b) st = (match o with
        | some r => .ret (.tup (iD (v :: r))) (st.set j (.dct kvs1))
        | none => .next (ffEnv rs left p many j (some (.int v)) (some .non)) (st.set j (.dct kvs1))) := by
      intro o ho
      rw [ho] at e1
      cases o with
      | none => simp [forBody, ffBody, ffEnv, asgT, hg, pBin, e1, optD, D.isNon]
      | some r =>
        have hr := ffL_len _ _ _ _ _ ho
        have hr2 : (iD r).length + 1 ≤ maxLen := by rw [iD_len, hr]; unfold maxLen; omega
        have m1 : 1 ≤ maxLen := by unfold maxLen; omega
        have ev : iD (v :: r) = .int v :: iD r := rfl
        simp [forBody, ffBody, ffEnv, asgT, hg, pBin, e1, optD, D.isNon, hr2, m1, ev]
    simp only [rangeD, forLoop, still, if_true, findL]
    cases ho : ffL (csOf rs) n (p + 1) (goL (csOf rs) left p v) with
    | some r =>
      rw [hb _ ho]
      exact ⟨kvs1, d1, by simp only [sumF]; omega, rfl⟩
    | none =>
      rw [hb _ ho]
      obtain ⟨kvs2, d2, l2, e2⟩ := ff_loop ok n k p left j hn hp0 hl hpos hn2 ih c (v + 1) kvs1 (st.set j (.dct kvs1)) (some (.int v)) (some .non) (by omega) (by omega) (set_get hj) d1 (by omega)
      refine ⟨kvs2, d2, by simp only [sumF]; omega, ?_⟩
      rw [List.set_set] at e2
      exact e2
theorem eq_ints (p q : Int) (st : Store) : pCmp .eq (.int p) (.int q) st = some (decide (p = q)) := by
  simp [pCmp, scrEq, vw, D.okp, D.isP, D.dep, D.eqv, Option.orElse]
theorem orV_top (rs : List Rw) (left : List Int) (p : Int) (C : Calls) (es : E) (f : Nat) (env : En) (st : Store) (h : ev C (.call f es) env st = .ok (match mostL (csOf rs) left p with
      | [] => .non
      | x :: xs => .int (minI x xs)) st) : ev C (.orV (.call f es) (.con (.int 0))) env st = .ok (.int (topI (csOf rs) left p)) st := by
  rw [ev_orV, h]
  unfold topI
  cases mostL (csOf rs) left p with
  | nil => rfl
  | cons x xs =>
    show (if minI x xs = 0 then _ else _) = _
    split
    · rename_i h0
      show Res.ok (Mn.D.int 0) st = Res.ok (Mn.D.int (minI x xs)) st
      rw [h0]
    · rfl
/-- the steps ahead of the loop -/
theorem ff_head {rs : List Rw} {many : Int} (ok : RowsOk rs many) (k : Nat) (p : Int) (left : List Int) (kvs : List (Mn.D × Mn.D)) (st : Store) (j : Nat) (hl : left.length = rs.length) (hj : st[j]? = some (.dct kvs)) (hsm : small (topI (csOf rs) left p + 1) = true) :
    callN (tab L) (k + 2) i_first_from [.lst (rs.map rD), .lst (iD left), .int p, .int many, .ob j] st =
      if (kLook (keyD p left) kvs).isSome || deadB (csOf rs) left p then .ok .non st else
      if p = many then .ok (.tup []) st else
      outR (match forLoop [] (forBody (callN (tab L) (k + 1)) (.name 7) ffBody) (rangeD 0 (topI (csOf rs) left p + 1).toNat) (ffEnv rs left p many j none none) st with
        | .next env' st' => (match Mn.exec (callN (tab L) (k + 1)) (.setI (.var 4) (.var 5) (.con (.bl true))) env' st' with
          | .next env'' st'' => .ret .non st''
          | o => o)
        | o => o) := by
  rw [c_first_from]
  have hlen : (iD left).length ≤ maxLen := by rw [iD_len, hl]; have := ok.few; unfold maxLen; omega
  have m2 : 2 ≤ maxLen := by unfold maxLen; omega
  have m0 : 0 ≤ maxLen := Nat.zero_le _
  have hin := in_dct p left hj
  have hdd := dead_ok k rs left p st hl ok.ne
  have hmo := most_ok k rs left p st hl ok.few
  have ekey : Mn.D.tup [.int p, .tup (iD left)] = keyD p left := rfl
  have htop := orV_top rs left p (callN (tab L) (k + 1)) (.cons (.var 0) (.cons (.var 1) (.cons (.var 2) .nil))) i_most_at [some (.lst (rs.map rD)), some (.lst (iD left)), some (.int p), some (.int many), some (.ob j), some (keyD p left), none, none, none] st hmo
  generalize hC : callN (tab L) (k + 1) = C at *
  have h1 : Mn.exec C (.asg (.name 5) (.tup (.cons (.var 2) (.cons (.bi .tuple (.cons (.var 1) .nil)) .nil)))) [some (.lst (rs.map rD)), some (.lst (iD left)), some (.int p), some (.int many), some (.ob j), none, none, none, none] st
      = .next [some (.lst (rs.map rD)), some (.lst (iD left)), some (.int p), some (.int many), some (.ob j), some (keyD p left), none, none, none] st := by
    simp [asgT, pBi, bTuple, asL, hlen, m2, keyD]
  have h2 : Mn.exec C (.ite (.or (.cmp .isin (.var 5) (.var 4)) (.call i_is_dead (.cons (.var 0) (.cons (.var 1) (.cons (.var 2) .nil))))) (.cons (.ret (.con .non)) .nil) .nil) [some (.lst (rs.map rD)), some (.lst (iD left)), some (.int p), some (.int many), some (.ob j), some (keyD p left), none, none, none] st
      = if (kLook (keyD p left) kvs).isSome || deadB (csOf rs) left p then .ret .non st else .next [some (.lst (rs.map rD)), some (.lst (iD left)), some (.int p), some (.int many), some (.ob j), some (keyD p left), none, none, none] st := by
    cases hk : (kLook (keyD p left) kvs).isSome with
    | true => simp [pCmp, hin, hk]
    | false =>
      cases hb : deadB (csOf rs) left p with
      | true => simp [pCmp, hin, hk, hdd, hb]
      | false => simp [pCmp, hin, hk, hdd, hb]
  have h3 : Mn.exec C (.ite (.cmp .eq (.var 2) (.var 3)) (.cons (.ret (.tup .nil)) .nil) .nil) [some (.lst (rs.map rD)), some (.lst (iD left)), some (.int p), some (.int many), some (.ob j), some (keyD p left), none, none, none] st
      = if p = many then .ret (.tup []) st else .next [some (.lst (rs.map rD)), some (.lst (iD left)), some (.int p), some (.int many), some (.ob j), some (keyD p left), none, none, none] st := by
    by_cases h : p = many
    · simp [eq_ints, h, m0]
    · simp [eq_ints, h]
  have h4 : Mn.exec C (.asg (.name 6) (.orV (.call i_most_at (.cons (.var 0) (.cons (.var 1) (.cons (.var 2) .nil)))) (.con (.int 0)))) [some (.lst (rs.map rD)), some (.lst (iD left)), some (.int p), some (.int many), some (.ob j), some (keyD p left), none, none, none] st
      = .next (ffEnv rs left p many j none none) st := by
    rw [ex_asg, htop]
    simp [asgT, ffEnv]
  have h5 : Mn.exec C (.for_ (.name 7) (.rng (.bin .add (.var 6) (.con (.int 1)))) ffBody) (ffEnv rs left p many j none none) st = forLoop [] (forBody C (.name 7) ffBody) (rangeD 0 (topI (csOf rs) left p + 1).toNat) (ffEnv rs left p many j none none) st := by
    have hs : small (topI (csOf rs) left p + 1) = true := hsm
    simp [ffEnv, pBin, hs]
  show outR (Mn.exec C b_first_from [some (.lst (rs.map rD)), some (.lst (iD left)), some (.int p), some (.int many), some (.ob j), none, none, none, none] st) = _
  unfold b_first_from
  rw [ex_cons, h1]
  dsimp only
  rw [ex_cons, h2]
  by_cases hc : ((kLook (keyD p left) kvs).isSome || deadB (csOf rs) left p) = true
  · rw [if_pos hc, if_pos hc]; rfl
  · rw [if_neg hc, if_neg hc]
    dsimp only
    rw [ex_cons, h3]
    by_cases hpm : p = many
    · rw [if_pos hpm, if_pos hpm]; rfl
    · rw [if_neg hpm, if_neg hpm]
      dsimp only
      rw [ex_cons, h4]
      dsimp only
      rw [ex_cons]
      change outR (match Mn.exec C (.for_ (.name 7) (.rng (.bin .add (.var 6) (.con (.int 1)))) ffBody) (ffEnv rs left p many j none none) st with
        | .next env' st' => Mn.exec C (.cons (.setI (.var 4) (.var 5) (.con (.bl true))) (.cons (.ret (.con .non)) .nil)) env' st'
        | o => o) = _
      rw [h5]
      cases forLoop [] (forBody C (.name 7) ffBody) (rangeD 0 (topI (csOf rs) left p + 1).toNat) (ffEnv rs left p many j none none) st with
      | next env' st' =>
        dsimp only
        rw [ex_cons]
        cases Mn.exec C (.setI (.var 4) (.var 5) (.con (.bl true))) env' st' <;> rfl
      | _ => rfl
theorem ff_ok {rs : List Rw} {many : Int} (ok : RowsOk rs many) (j : Nat) : ∀ (n k : Nat) (p : Int) (left : List Int) (kvs : List (Mn.D × Mn.D)) (st : Store), n < 1000 → p + n = many → 0 ≤ p → left.length = rs.length → (∀ l ∈ left, 0 ≤ l ∧ l < 1000) → st[j]? = some (.dct kvs) → DeadI (csOf rs) many kvs → kvs.length + costL (csOf rs) n p left ≤ maxLen →
      ∃ kvs', callN (tab L) (n + k + 2) i_first_from [.lst (rs.map rD), .lst (iD left), .int p, .int many, .ob j] st = .ok (optD (ffL (csOf rs) n p left)) (st.set j (.dct kvs')) ∧ DeadI (csOf rs) many kvs' ∧ kvs'.length ≤ kvs.length + costL (csOf rs) n p left := by
  intro n
  induction n with
  | zero =>
    intro k p left kvs st hn2 hn hp0 hl hpos hj hd hcost
    have ht := topI_le (cs := csOf rs) (p := p) hpos (by omega)
    have hsm : small (topI (csOf rs) left p + 1) = true := by simp [small]; omega
    have hh := ff_head ok k p left kvs st j hl hj hsm
    have e0 : (0 + k + 2) = k + 2 := by omega
    rw [e0, hh]
    refine ⟨kvs, ?_, hd, by omega⟩
    rw [set_self hj]
    cases hk : (kLook (keyD p left) kvs).isSome || deadB (csOf rs) left p with
    | true =>
      have hf : ffL (csOf rs) 0 p left = none := by
        rcases Bool.or_eq_true_iff.mp hk with z | z
        · exact look_dead hn hd z
        · exact dead_none ok.rise 0 p left z
      rw [hf]; rfl
    | false =>
      have hpm : p = many := by simpa using hn
      obtain ⟨_, hnd⟩ := Bool.or_eq_false_iff.mp hk
      have hz : (left.all fun l => decide (l = 0)) = true := by
        rw [List.all_eq_true]
        intro l hm
        obtain ⟨i, hi⟩ := List.getElem?_of_mem hm
        have hil : i < left.length := (List.getElem?_eq_some_iff.mp hi).1
        have hrm : rs[i]'(by omega) ∈ rs := List.getElem_mem _
        have hz := hpos l hm
        by_cases h0 : 0 < l
        · exfalso
          have hlast := List.getLast?_eq_some_getLast (ok.ne _ hrm)
          have : deadB (csOf rs) left p = true := dead_mem.mpr ⟨i, l, _, (rs[i]'(by omega)).1, hi, by simp [csOf, List.getElem?_map, List.getElem?_eq_getElem (show i < rs.length by omega)], h0, hlast, by rw [hpm]; exact ok.last _ hrm _ hlast⟩
          rw [hnd] at this
          cases this
        · simp; omega
      simp only [Bool.false_eq_true, if_false, hpm, if_true, ffL, hz]
      rfl
  | succ n ihn =>
    intro k p left kvs st hn2 hn hp0 hl hpos hj hd hcost
    have ht := topI_le (cs := csOf rs) (p := p) hpos (by omega)
    have hsm : small (topI (csOf rs) left p + 1) = true := by simp [small]; omega
    have hh := ff_head ok (n + k + 1) p left kvs st j hl hj hsm
    have e0 : (n + 1 + k + 2) = n + k + 1 + 2 := by omega
    rw [e0, hh]
    cases hk : (kLook (keyD p left) kvs).isSome || deadB (csOf rs) left p with
    | true =>
      have hf : ffL (csOf rs) (n + 1) p left = none := by
        rcases Bool.or_eq_true_iff.mp hk with z | z
        · exact look_dead hn hd z
        · exact dead_none ok.rise (n + 1) p left z
      refine ⟨kvs, ?_, hd, by omega⟩
      rw [hf, set_self hj]
      rfl
    | false =>
      have hpm : ¬ p = many := by omega
      have hcost' : kvs.length + (1 + sumF (fun v => costL (csOf rs) n (p + 1) (goL (csOf rs) left p v)) (topI (csOf rs) left p + 1).toNat 0) ≤ maxLen := hcost
      obtain ⟨kvs1, d1, l1, e1⟩ := ff_loop ok n (n + k + 1) p left j hn hp0 hl hpos (by omega)
        (fun left kvs st h1 h2 h3 h4 h5 => by
          have := ihn k (p + 1) left kvs st (by omega) (by omega) (by omega) h1 h2 h3 h4 h5
          rwa [show n + k + 2 = n + k + 1 + 1 by omega] at this)
        (topI (csOf rs) left p + 1).toNat 0 kvs st none none (by omega) (by omega) hj hd (by omega)
      simp only [Bool.false_eq_true, if_false, hpm]
      cases hf : findL (fun v => ffL (csOf rs) n (p + 1) (goL (csOf rs) left p v)) (topI (csOf rs) left p + 1).toNat 0 with
      | some xs =>
        rw [hf] at e1
        dsimp only at e1
        refine ⟨kvs1, ?_, d1, by simp only [costL]; omega⟩
        rw [e1]
        show _ = Res.ok (optD (findL _ _ _)) _
        rw [hf]
        rfl
      | none =>
        rw [hf] at e1
        obtain ⟨a', b', e1⟩ := e1
        have hff : ffL (csOf rs) (n + 1) p left = none := hf
        refine ⟨kPut (keyD p left) (.bl true) kvs1, ?_, put_dead hn hff _ d1, ?_⟩
        · rw [e1, hff]
          have hg := set_get (o' := .dct kvs1) hj
          have hk2 := keyOk_key p left
          have hlt : kvs1.length < maxLen := by omega
          have hp : pSetI (.ob j) (keyD p left) (.bl true) (st.set j (.dct kvs1)) = some ((st.set j (.dct kvs1)).set j (.dct (kPut (keyD p left) (.bl true) kvs1))) := by
            unfold pSetI
            simp only [hg, hk2, hlt, decide_true, Bool.and_true, if_true]
          have hx : ∀ C : Calls, Mn.exec C (.setI (.var 4) (.var 5) (.con (.bl true))) (ffEnv rs left p many j a' b') (st.set j (.dct kvs1)) = .next (ffEnv rs left p many j a' b') (st.set j (.dct (kPut (keyD p left) (.bl true) kvs1))) := by
            intro C
            show (match pSetI (.ob j) (keyD p left) (.bl true) (st.set j (.dct kvs1)) with
              | some st4 => Out.next _ st4
              | none => .err) = _
            rw [hp, List.set_set]
          dsimp only
          rw [hx]
          rfl
        · have := put_len (keyD p left) (.bl true) kvs1
          simp only [costL]
          omega
end Pg

set_option Elab.async false
set_option linter.all false
set_option maxRecDepth 100000
set_option maxHeartbeats 8000000
/-! Pu5: regions, columns, rows_of, least_lots. -/
namespace Pg
open Mn
def sD (s : List Int) : Mn.D := .tup (iD s)
def rowD (r : Rw) : Mn.D := .tup [sD r.1, .int r.2]
def telD (m : Int) (rs : List Rw) : Mn.D := .tup [.int m, .tup (rs.map rowD)]
def regs : Int → List (List Int)
  | 1 => [[], [0]]
  | 2 => [[], [0], [0, 1], [1]]
  | 3 => [[], [0], [0, 1], [0, 1, 2], [0, 2], [1], [1, 2], [2]]
  | _ => []
theorem regions1 (k : Nat) (st : Store) : callN (tab L) (k + 1) i_regions [.int 1] st = .ok (.lst ((regs 1).map sD)) st := by rfl
theorem regions2 (k : Nat) (st : Store) : callN (tab L) (k + 1) i_regions [.int 2] st = .ok (.lst ((regs 2).map sD)) st := by rfl
theorem regions3 (k : Nat) (st : Store) : callN (tab L) (k + 1) i_regions [.int 3] st = .ok (.lst ((regs 3).map sD)) st := by rfl
theorem regions_ok (k : Nat) (st : Store) {m : Int} (h : 1 ≤ m ∧ m ≤ 3) : callN (tab L) (k + 1) i_regions [.int m] st = .ok (.lst ((regs m).map sD)) st := by
  have : m = 1 ∨ m = 2 ∨ m = 3 := by omega
  rcases this with rfl | rfl | rfl
  · exact regions1 k st
  · exact regions2 k st
  · exact regions3 k st
theorem dBools_map (l : List Bool) : dBools (l.map .bl) = some l := by
  induction l with
  | nil => rfl
  | cons a l ih => show (dBools (l.map .bl)).map (a :: ·) = _; rw [ih]; rfl
theorem map_some (l : List Mn.D) : (l.map some).filterMap id = l := by
  induction l with
  | nil => rfl
  | cons a l ih => show a :: _ = _; rw [ih]
/-- a comprehension without a test, over a tuple or a list that is no object -/
theorem lc_all {C : Calls} {own : List Nat} {t : Tg} {e : E} {env : En} {st : Store} {α : Type} (xs : List α) (f : α → Mn.D) (g : α → Mn.D) (h : ∀ x ∈ xs, lcBody C own t .nil e env (f x) st = .ok (some (g x)) st) :
    lcLoop [] (lcBody C own t .nil e env) (xs.map f) [] st = .ok (xs.map g) st := by
  have := lc_ix (still_nil st) (xs.map f) ((xs.map g).map some) [] (by simp) fun i x y h1 h2 => by
    rw [List.getElem?_map] at h1
    rw [List.getElem?_map, List.getElem?_map] at h2
    cases hx : xs[i]? with
    | none => rw [hx] at h1; cases h1
    | some z =>
      rw [hx] at h1 h2
      cases h1; cases h2
      exact h z (List.mem_of_getElem? hx)
  rw [this, map_some]
  rfl
theorem in_set (st : Store) (p : Int) (l : List Int) : pIn (.int p) (sD l) st = some (decide (p ∈ l)) := by
  unfold sD
  simp only [pIn, iD_okps]
  rw [iD_any]
  rfl
theorem within_ok (k : Nat) (st : Store) (s r : List Int) (hl : s.length ≤ 1000) : callN (tab L) (k + 1) i_is_within [sD s, sD r] st = .ok (.bl (s.all fun x => decide (x ∈ r))) st := by
  rw [c_is_within]
  have hlc := lc_all (C := callN (tab L) k) (own := [2]) (t := .name 2) (e := .cmp .isin (.var 2) (.var 1)) (env := [some (sD s), some (sD r), none]) (st := st) s .int (fun x => .bl (decide (x ∈ r))) (fun x _ => by simp [lcBody, asgT, wipeE, pCmp, in_set])
  have hw : wkOf st (sD s) = some ⟨s.map .int, []⟩ := rfl
  have hl2 : s.length ≤ maxLen := by unfold maxLen; omega
  have hd : dBools (s.map fun x => D.bl (decide (x ∈ r))) = some (s.map fun x => decide (x ∈ r)) := by
    rw [← dBools_map, List.map_map]; rfl
  simp [runDf, d_is_within, b_is_within, hw, hlc, hl2, pBi, bAll, asL, hd, List.all_map, Function.comp_def]
/-- the places of the regions within which s lies -/
def colsOf (rg : List (List Int)) (s : List Int) (i : Int) : List Int := match rg with
  | [] => []
  | r :: rg => if s.all fun x => decide (x ∈ r) then i :: colsOf rg s (i + 1) else colsOf rg s (i + 1)
def cols (m : Int) (s : List Int) : List Int := colsOf (regs m) s 0
def colY (rg : List (List Int)) (s : List Int) (i : Int) : List (Option Mn.D) := match rg with
  | [] => []
  | r :: rg => (if s.all fun x => decide (x ∈ r) then some (.int i) else none) :: colY rg s (i + 1)
theorem colY_eq (s : List Int) : ∀ (rg : List (List Int)) (i : Int), (colY rg s i).filterMap id = iD (colsOf rg s i)
  | [], _ => rfl
  | r :: rg, i => by
    unfold colY colsOf
    split
    · show D.int i :: ((colY rg s (i + 1)).filterMap id) = D.int i :: iD (colsOf rg s (i + 1))
      rw [colY_eq s rg (i + 1)]
    · show ((colY rg s (i + 1)).filterMap id) = _
      rw [colY_eq s rg (i + 1)]
theorem colY_len (s : List Int) : ∀ (rg : List (List Int)) (i : Int), (colY rg s i).length = rg.length
  | [], _ => rfl
  | r :: rg, i => by simp [colY, colY_len s rg]
theorem colY_get (s : List Int) : ∀ (rg : List (List Int)) (i : Int) (j : Nat) (r : List Int), rg[j]? = some r → (colY rg s i)[j]? = some (if s.all fun x => decide (x ∈ r) then some (.int (i + j)) else none)
  | [], _, j, r, h => by simp at h
  | r' :: rg, i, 0, r, h => by simp at h; subst h; simp [colY]
  | r' :: rg, i, j + 1, r, h => by
    have := colY_get s rg (i + 1) j r (by simpa using h)
    have e : i + 1 + (j : Int) = i + ((j + 1 : Nat) : Int) := by omega
    rw [e] at this
    simpa [colY] using this
theorem enuD_len : ∀ (xs : List Mn.D) (j : Nat), (enuD j xs).length = xs.length
  | [], _ => rfl
  | x :: xs, j => by simp [enuD, enuD_len xs]
theorem regs_len {m : Int} (h : 1 ≤ m ∧ m ≤ 3) : (regs m).length ≤ 8 := by
  have : m = 1 ∨ m = 2 ∨ m = 3 := by omega
  rcases this with rfl | rfl | rfl <;> decide
theorem colsOf_len (s : List Int) : ∀ (rg : List (List Int)) (i : Int), (colsOf rg s i).length ≤ rg.length
  | [], _ => by simp [colsOf]
  | r :: rg, i => by
    unfold colsOf
    have := colsOf_len s rg (i + 1)
    split
    · simp; exact this
    · simp; omega
theorem columns_ok (k : Nat) (st : Store) (m : Int) (rest : Mn.D) (s : List Int) (h : 1 ≤ m ∧ m ≤ 3) (hl : s.length ≤ 1000) : callN (tab L) (k + 2) i_columns [.tup [.int m, rest], sD s] st = .ok (.lst (iD (cols m s))) st := by
  rw [c_columns]
  have hreg := regions_ok k st h
  have hlc : lcLoop [] (lcBody (callN (tab L) (k + 1)) [2, 3] (.tup (.cons (.name 2) (.cons (.name 3) .nil))) (.cons (.call i_is_within (.cons (.var 1) (.cons (.var 3) .nil))) .nil) (.var 2) [some (.tup [.int m, rest]), some (sD s), none, none]) (enuD 0 ((regs m).map sD)) [] st = .ok (iD (cols m s)) st := by
    have := lc_ix (body := lcBody (callN (tab L) (k + 1)) [2, 3] (.tup (.cons (.name 2) (.cons (.name 3) .nil))) (.cons (.call i_is_within (.cons (.var 1) (.cons (.var 3) .nil))) .nil) (.var 2) [some (.tup [.int m, rest]), some (sD s), none, none]) (still_nil st) (enuD 0 ((regs m).map sD)) (colY (regs m) s 0) [] (by rw [enuD_len, List.length_map, colY_len]) fun i x y h1 h2 => by
      rw [enuD_get, List.getElem?_map] at h1
      cases hr : (regs m)[i]? with
      | none => rw [hr] at h1; cases h1
      | some r =>
        rw [hr] at h1
        rw [colY_get s _ 0 i r hr] at h2
        simp only [Option.map, Option.some.injEq, Nat.zero_add, Int.zero_add] at h1 h2
        subst h1; subst h2
        have hw := within_ok k st s r hl
        cases hb : (s.all fun x => decide (x ∈ r)) with
        | true => rw [hb] at hw; simp [lcBody, asgT, asgTs, wipeE, hw]
        | false => rw [hb] at hw; simp [lcBody, asgT, asgTs, wipeE, hw]
    rw [this, colY_eq]
    rfl
  have hl2 : (iD (cols m s)).length ≤ maxLen := by
    rw [iD_len]
    have h1 := colsOf_len s (regs m) 0
    have h2 := regs_len h
    unfold cols maxLen
    omega
  have e0 : atD [D.int m, rest] 0 = some (.int m) := rfl
  simp [runDf, d_columns, b_columns, pIdx, e0, optR, hreg, wkOf, hlc, hl2]
theorem rows_ok (k : Nat) (st : Store) (m : Int) (rs : List Rw) (h : 1 ≤ m ∧ m ≤ 3) (hl : ∀ r ∈ rs, r.1.length ≤ 1000) (hl2 : rs.length ≤ 1000) : callN (tab L) (k + 3) i_rows_of [telD m rs] st = .ok (.lst ((rs.map fun r => (cols m r.1, r.2)).map rD)) st := by
  rw [c_rows_of]
  have hlc := lc_all (C := callN (tab L) (k + 2)) (own := [1, 2]) (t := .tup (.cons (.name 1) (.cons (.name 2) .nil))) (e := .tup (.cons (.call i_columns (.cons (.var 0) (.cons (.var 1) .nil))) (.cons (.var 2) .nil))) (env := [some (telD m rs), none, none]) (st := st) rs rowD (fun r => rD (cols m r.1, r.2)) (fun r hr => by
    have hc := columns_ok k st m (.tup (rs.map rowD)) r.1 h (hl r hr)
    have m2 : 2 ≤ maxLen := by unfold maxLen; omega
    simp [lcBody, asgT, asgTs, wipeE, rowD, telD, hc, rD, m2])
  have e1 : atD [D.int m, .tup (rs.map rowD)] 1 = some (.tup (rs.map rowD)) := rfl
  have hl3 : (rs.map fun r => rD (cols m r.1, r.2)).length ≤ maxLen := by rw [List.length_map]; unfold maxLen; omega
  have hw : wkOf st (.tup (rs.map rowD)) = some ⟨rs.map rowD, []⟩ := rfl
  rw [List.map_map]
  have hl4 : rs.length ≤ maxLen := by unfold maxLen; omega
  simp [runDf, d_rows_of, b_rows_of, telD, pIdx, e1, optR, hw] at hlc ⊢
  simp [hlc, hl4, Function.comp_def]
def nums (rs : List Rw) : List Int := rs.map (·.2)
def csM (m : Int) (rs : List Rw) : List (List Int) := rs.map fun r => cols m r.1
/-- what least_lots finds -/
def llL (m : Int) (rs : List Rw) : Option (List Int) := ffL (csM m rs) (regs m).length 0 (nums rs)
def costM (m : Int) (rs : List Rw) : Nat := costL (csM m rs) (regs m).length 0 (nums rs)
/-- sets of a telling of m sets -/
def SetOk (m : Int) (s : List Int) : Prop := s ∈ regs m
theorem colsOf_ge (s : List Int) : ∀ (rg : List (List Int)) (i z : Int), z ∈ colsOf rg s i → i ≤ z ∧ z < i + rg.length
  | [], _, z, h => by simp [colsOf] at h
  | r :: rg, i, z, h => by
    unfold colsOf at h
    split at h
    · rcases List.mem_cons.mp h with rfl | h
      · simp; omega
      · have := colsOf_ge s rg (i + 1) z h
        simp; omega
    · have := colsOf_ge s rg (i + 1) z h
      simp; omega
theorem colsOf_rise (s : List Int) : ∀ (rg : List (List Int)) (i : Int), (colsOf rg s i).Pairwise (· < ·)
  | [], _ => by simp [colsOf]
  | r :: rg, i => by
    unfold colsOf
    split
    · refine List.pairwise_cons.mpr ⟨fun z hz => ?_, colsOf_rise s rg (i + 1)⟩
      have := colsOf_ge s rg (i + 1) z hz
      omega
    · exact colsOf_rise s rg (i + 1)
theorem pw_last : ∀ (c : List Int), c.Pairwise (· < ·) → ∀ z, c.getLast? = some z → ∀ y ∈ c, y ≤ z := by
  intro c hc z hz y hy
  obtain ⟨i, hi, rfl⟩ := List.mem_iff_getElem.mp hy
  have hne : c ≠ [] := fun e => by rw [e] at hz; cases hz
  rw [List.getLast?_eq_some_getLast hne] at hz
  cases hz
  rw [List.getLast_eq_getElem]
  rcases Nat.lt_or_ge i (c.length - 1) with h | h
  · exact Int.le_of_lt (List.pairwise_iff_getElem.mp hc i (c.length - 1) hi (by omega) h)
  · have : i = c.length - 1 := by omega
    subst this
    exact Int.le_refl _
theorem setOk_len {m : Int} {s : List Int} (h : SetOk m s) : s.length ≤ 3 ∧ cols m s ≠ [] ∧ 1 ≤ m ∧ m ≤ 3 := by
  unfold SetOk regs at h
  split at h
  · have : s = [] ∨ s = [0] := by simpa using h
    rcases this with rfl | rfl <;> decide
  · have : s = [] ∨ s = [0] ∨ s = [0, 1] ∨ s = [1] := by simpa using h
    rcases this with rfl | rfl | rfl | rfl <;> decide
  · have : s = [] ∨ s = [0] ∨ s = [0, 1] ∨ s = [0, 1, 2] ∨ s = [0, 2] ∨ s = [1] ∨ s = [1, 2] ∨ s = [2] := by simpa using h
    rcases this with rfl | rfl | rfl | rfl | rfl | rfl | rfl | rfl <;> decide
  · cases h
theorem rowsOk_of {m : Int} {rs : List Rw} (hs : ∀ r ∈ rs, SetOk m r.1) (hl : rs.length ≤ 1000) : RowsOk (rs.map fun r => (cols m r.1, r.2)) ((regs m).length : Nat) := by
  refine ⟨fun r hr => ?_, fun c hc z hz y hy => ?_, fun r hr z hz => ?_, by simpa using hl⟩
  · obtain ⟨q, hq, rfl⟩ := List.mem_map.mp hr
    exact (setOk_len (hs q hq)).2.1
  · obtain ⟨r, hr, rfl⟩ := List.mem_map.mp hc
    obtain ⟨q, hq, rfl⟩ := List.mem_map.mp hr
    exact pw_last _ (colsOf_rise _ _ _) z hz y hy
  · obtain ⟨q, hq, rfl⟩ := List.mem_map.mp hr
    have hm : z ∈ cols m q.1 := List.mem_of_getLast? hz
    have := colsOf_ge q.1 (regs m) 0 z hm
    omega
theorem ll_ok (k : Nat) (st : Store) (m : Int) (rs : List Rw) (h : 1 ≤ m ∧ m ≤ 3) (hs : ∀ r ∈ rs, SetOk m r.1) (hn : ∀ r ∈ rs, 0 ≤ r.2 ∧ r.2 < 1000) (hl : rs.length ≤ 1000) (hc : costM m rs ≤ maxLen) :
    ∃ kvs, callN (tab L) (k + 12) i_least_lots [telD m rs] st = .ok (optD (llL m rs)) (st ++ [.dct kvs]) := by
  rw [c_least_lots]
  have hro := rows_ok (k + 8) st m rs h (fun r hr => by have := (setOk_len (hs r hr)).1; omega) hl
  have ok := rowsOk_of hs hl
  have e1 : csOf (rs.map fun r => (cols m r.1, r.2)) = csM m rs := by simp [csOf, csM, List.map_map, Function.comp_def]
  have hr8 := regs_len h
  obtain ⟨kvs, ef, _, _⟩ := ff_ok ok st.length (regs m).length (k + 9 - (regs m).length) 0 (nums rs) [] (st ++ [.dct []]) (by omega) (by simp) (by omega) (by simp [nums]) (fun l hl => by
      obtain ⟨r, hr, rfl⟩ := List.mem_map.mp hl
      exact hn r hr) (by simp) (fun q hq => nomatch hq) (by rw [e1]; simpa [costM] using hc)
  rw [show (regs m).length + (k + 9 - (regs m).length) + 2 = k + 11 by omega] at ef
  rw [e1] at ef
  have hreg := fun st => regions_ok (k + 10) st h
  have hlc := lc_all (C := callN (tab L) (k + 11)) (own := [2]) (t := .name 2) (e := .idx (.var 2) (.con (.int 1))) (env := [some (telD m rs), some (.lst ((rs.map fun r => (cols m r.1, r.2)).map rD)), none]) (st := st) (rs.map fun r => (cols m r.1, r.2)) rD (fun r => .int r.2) (fun r hr => by
    have e0 : atD [Mn.D.lst (iD r.1), .int r.2] 1 = some (.int r.2) := rfl
    simp [lcBody, asgT, wipeE, pIdx, rD, e0, optR])
  have enum : ((rs.map fun r => (cols m r.1, r.2)).map fun r => D.int r.2) = iD (nums rs) := by simp [iD, nums, List.map_map, Function.comp_def]
  rw [enum] at hlc
  have hl2 : (iD (nums rs)).length ≤ maxLen := by rw [iD_len]; simp [nums]; unfold maxLen; omega
  have e0 : atD [D.int m, .tup (rs.map rowD)] 0 = some (.int m) := rfl
  have hset : (st ++ [Ob.dct []]).set st.length (.dct kvs) = st ++ [.dct kvs] := by
    rw [List.set_append_right _ _ (Nat.le_refl _)]
    simp
  rw [hset] at ef
  have hro' : callN (tab L) (k + 11) i_rows_of [telD m rs] st = .ok (.lst ((rs.map fun r => (cols m r.1, r.2)).map rD)) st := hro
  refine ⟨kvs, ?_⟩
  have hwk : ∀ xs : List Mn.D, wkOf st (.lst xs) = some ⟨xs, []⟩ := fun _ => rfl
  have hreg' : ∀ st, callN (tab L) (k + 11) i_regions [.int m] st = .ok (.lst ((regs m).map sD)) st := hreg
  generalize hR : (rs.map fun r => (cols m r.1, r.2)).map rD = RR at *
  have hll : llL m rs = ffL (csM m rs) (regs m).length 0 (nums rs) := rfl
  rw [hll]
  simp [runDf, d_least_lots, b_least_lots, hro', asgT, hwk, hlc, hl2, telD, pIdx, e0, optR, hreg', pBi, bLen, asQ, asL, ef] at *
end Pg

set_option Elab.async false
set_option linter.all false
set_option maxRecDepth 100000
set_option maxHeartbeats 8000000
/-! Pu6: is_telling, can. -/
namespace Pg
open Mn
theorem le_ints (a b : Int) (st : Store) : pCmp .le (.int a) (.int b) st = some (decide (a ≤ b)) := rfl
theorem whole_ok (k : Nat) (st : Store) (x a b : Int) : callN (tab L) (k + 1) i_is_whole [.int x, .int a, .int b] st = .ok (.bl (decide (a ≤ x) && decide (x ≤ b))) st := by
  rw [c_is_whole]
  by_cases h1 : a ≤ x
  · by_cases h2 : x ≤ b
    · simp [runDf, d_is_whole, b_is_whole, pIsi, kindOf, isK, le_ints, h1, h2]
    · simp [runDf, d_is_whole, b_is_whole, pIsi, kindOf, isK, le_ints, h1, h2]
  · simp [runDf, d_is_whole, b_is_whole, pIsi, kindOf, isK, le_ints, h1]
theorem sets_ok (k : Nat) (st : Store) {m : Int} {s : List Int} (h : SetOk m s) : callN (tab L) (k + 2) i_are_sets [.int m, sD s] st = .ok (.bl true) st := by
  unfold SetOk regs at h
  split at h
  · have : s = [] ∨ s = [0] := by simpa using h
    rcases this with rfl | rfl <;> rfl
  · have : s = [] ∨ s = [0] ∨ s = [0, 1] ∨ s = [1] := by simpa using h
    rcases this with rfl | rfl | rfl | rfl <;> rfl
  · have : s = [] ∨ s = [0] ∨ s = [0, 1] ∨ s = [0, 1, 2] ∨ s = [0, 2] ∨ s = [1] ∨ s = [1, 2] ∨ s = [2] := by simpa using h
    rcases this with rfl | rfl | rfl | rfl | rfl | rfl | rfl | rfl <;> rfl
  · cases h
theorem row_ok (k : Nat) (st : Store) {m : Int} {r : Rw} (h : SetOk m r.1) (hn : 0 ≤ r.2 ∧ r.2 ≤ 9) : callN (tab L) (k + 3) i_is_row [.int m, rowD r] st = .ok (.bl true) st := by
  rw [c_is_row]
  have h1 := sets_ok k st h
  have h2 := whole_ok (k + 1) st r.2 0 9
  have e0 : atD [sD r.1, .int r.2] 0 = some (sD r.1) := rfl
  have e1 : atD [sD r.1, .int r.2] 1 = some (.int r.2) := rfl
  rw [decide_eq_true hn.1, decide_eq_true hn.2] at h2
  simp [runDf, d_is_row, b_is_row, pIsi, kindOf, isK, rowD, pBi, bLen, asQ, eq_ints, pIdx, e0, e1, optR, h1, h2]
/-- the rows rise by their sets -/
def Asc (rs : List Rw) : Prop := ∀ (i : Nat) (a b : Rw), rs[i]? = some a → rs[i + 1]? = some b → lts (iD a.1) (iD b.1) = true
theorem cut_tail (xs : List Mn.D) : cut xs (some 1) none = xs.tail := by
  unfold cut bnd
  cases xs with
  | nil => simp
  | cons x xs => simp
theorem lt_sets (a b : List Int) (st : Store) (h : lts (iD a) (iD b) = true) : pCmp .lt (sD a) (sD b) st = some true := by
  have h1 : ∀ a b : List Int, alikes (iD a) (iD b) = true := by
    intro a
    induction a with
    | nil => intro b; cases b <;> rfl
    | cons x a ih =>
      intro b
      cases b with
      | nil => rfl
      | cons y b => show (true && alikes (iD a) (iD b)) = true; simp [ih b]
  have h2 : ∀ a : List Int, (sD a).okp = true := by
    intro a
    have p1 : isPs (iD a) = true := isPs_ints a
    have p2 : deps (iD a) = 0 := deps_ints a
    simp [sD, D.okp, D.isP, D.dep, p1, p2]
  unfold pCmp
  simp only [h2, Bool.true_and]
  unfold sD
  simp [D.alike, h1, D.lt, h]
theorem telling_ok (k : Nat) (st : Store) {m : Int} {rs : List Rw} (hm : 1 ≤ m ∧ m ≤ 3) (hs : ∀ r ∈ rs, SetOk m r.1) (hn : ∀ r ∈ rs, 0 ≤ r.2 ∧ r.2 ≤ 9) (ha : Asc rs) (hl : rs.length ≤ 1000) : callN (tab L) (k + 4) i_is_telling [telD m rs] st = .ok (.bl true) st := by
  rw [c_is_telling]
  have e0 : atD [D.int m, .tup (rs.map rowD)] 0 = some (.int m) := rfl
  have e1 : atD [D.int m, .tup (rs.map rowD)] 1 = some (.tup (rs.map rowD)) := rfl
  have hw := whole_ok (k + 2) st m 1 3
  rw [decide_eq_true hm.1, decide_eq_true hm.2] at hw
  have hlc := lc_all (C := callN (tab L) (k + 3)) (own := [1]) (t := .name 1) (e := .call i_is_row (.cons (.idx (.var 0) (.con (.int 0))) (.cons (.var 1) .nil))) (env := [some (telD m rs), none, none, none]) (st := st) rs rowD (fun r => .bl true) (fun r hr => by
    have := row_ok k st (hs r hr) (hn r hr)
    simp [lcBody, asgT, wipeE, telD, pIdx, e0, optR, this])
  have hd : dBools (rs.map fun _ => D.bl true) = some (rs.map fun _ => true) := by rw [← dBools_map, List.map_map]; rfl
  have hz : lcLoop [] (lcBody (callN (tab L) (k + 3)) [2, 3] (.tup (.cons (.name 2) (.cons (.name 3) .nil))) .nil (.cmp .lt (.idx (.var 2) (.con (.int 0))) (.idx (.var 3) (.con (.int 0)))) [some (telD m rs), none, none, none]) (zipD (rs.map rowD) (rs.map rowD).tail) [] st = .ok ((rs.zip rs.tail).map fun _ => .bl true) st := by
    have e : zipD (rs.map rowD) (rs.map rowD).tail = (rs.zip rs.tail).map fun q => .tup [rowD q.1, rowD q.2] := by
      rw [zipD_eq, ← List.map_tail, List.zip_map, List.map_map]
      rfl
    rw [e]
    refine lc_all (rs.zip rs.tail) (fun q => .tup [rowD q.1, rowD q.2]) (fun _ => .bl true) fun q hq => ?_
    obtain ⟨i, hi⟩ := List.getElem?_of_mem hq
    rw [List.getElem?_zip_eq_some, List.getElem?_tail] at hi
    have hlt := lt_sets q.1.1 q.2.1 st (ha i q.1 q.2 hi.1 hi.2)
    have f0 : ∀ r : Rw, atD [sD r.1, .int r.2] 0 = some (sD r.1) := fun _ => rfl
    simp [lcBody, asgT, asgTs, wipeE, rowD, pIdx, f0, optR, hlt]
  have hd2 : dBools ((rs.zip rs.tail).map fun _ => D.bl true) = some ((rs.zip rs.tail).map fun _ => true) := by rw [← dBools_map, List.map_map]; rfl
  have hl4 : rs.length ≤ maxLen := by unfold maxLen; omega
  have hl5 : rs.length - 1 ≤ maxLen := by unfold maxLen; omega
  have hl6 : (rs.zip rs.tail).length ≤ maxLen := by rw [List.length_zip]; unfold maxLen; omega
  have hwk : ∀ xs : List Mn.D, wkOf st (.tup xs) = some ⟨xs, []⟩ := fun _ => rfl
  have i0 : pIdx (telD m rs) (.int 0) st = .ok (.int m) st := rfl
  have i1 : pIdx (telD m rs) (.int 1) st = .ok (.tup (rs.map rowD)) st := rfl
  have hk : pIsi .tuple (telD m rs) st = some true := rfl
  have hlen : bLen [telD m rs] st = .ok (.int 2) st := rfl
  have hall : ∀ l : List Rw, (l.map fun _ => true).all id = true := fun l => by simp
  have hall2 : ((rs.zip rs.tail).map fun _ => true).all id = true := by simp
  have hne : pCmp .ne (.int 2) (.int 2) st = some false := rfl
  have hsl : pSl (.tup (rs.map rowD)) (some 1) none st = .ok (.tup (rs.map rowD).tail) st := by
    show newT (cut (rs.map rowD) (some 1) none) st = _
    rw [cut_tail]
    exact ndT _ _ (by rw [List.length_tail, List.length_map]; exact hl5)
  have hk2 : pIsi .tuple (.tup (rs.map rowD)) st = some true := rfl
  generalize hT : telD m rs = T at *
  have s1 : Mn.exec (callN (tab L) (k + 3)) (.ite (.or (.not (.isi .tuple (.var 0))) (.or (.cmp .ne (.bi .len (.cons (.var 0) .nil)) (.con (.int 2))) (.not (.call i_is_whole (.cons (.idx (.var 0) (.con (.int 0))) (.cons (.con (.int 1)) (.cons (.glo "SETS" (.int 3)) .nil))))))) (.cons (.ret (.con (.bl false))) .nil) .nil) [some T, none, none, none] st = .next [some T, none, none, none] st := by
    simp [hk, pBi, hlen, hne, i0, hw]
  have s2 : Mn.exec (callN (tab L) (k + 3)) (.ite (.or (.not (.isi .tuple (.idx (.var 0) (.con (.int 1))))) (.not (.bi .all (.cons (.lc false [1] (.name 1) (.cons (.idx (.var 0) (.con (.int 1))) .nil) .nil (.call i_is_row (.cons (.idx (.var 0) (.con (.int 0))) (.cons (.var 1) .nil)))) .nil)))) (.cons (.ret (.con (.bl false))) .nil) .nil) [some T, none, none, none] st = .next [some T, none, none, none] st := by
    have ha1 : bAll (fun bs => bs.all id) [.lst (rs.map fun _ => D.bl true)] st = .ok (.bl true) st := by
      show (match (some (rs.map fun _ => D.bl true)).bind dBools with
        | some bs => Res.ok (D.bl (bs.all id)) st
        | none => .err) = _
      show (match dBools (rs.map fun _ => D.bl true) with
        | some bs => Res.ok (D.bl (bs.all id)) st
        | none => .err) = _
      rw [hd]
      show Res.ok (D.bl ((rs.map fun _ => true).all id)) st = _
      rw [hall]
    simp [i1, hk2, hwk, hlc, hl4, pBi, ha1]
  have s3 : Mn.exec (callN (tab L) (k + 3)) (.ret (.bi .all (.cons (.lc false [2, 3] (.tup (.cons (.name 2) (.cons (.name 3) .nil))) (.zip (.idx (.var 0) (.con (.int 1))) (.sl (.idx (.var 0) (.con (.int 1))) (.cons (.con (.int 1)) .nil) .nil)) .nil (.cmp .lt (.idx (.var 2) (.con (.int 0))) (.idx (.var 3) (.con (.int 0))))) .nil))) [some T, none, none, none] st = .ret (.bl true) st := by
    have ha1 : bAll (fun bs => bs.all id) [.lst ((rs.zip rs.tail).map fun _ => D.bl true)] st = .ok (.bl true) st := by
      show (match dBools ((rs.zip rs.tail).map fun _ => D.bl true) with
        | some bs => Res.ok (D.bl (bs.all id)) st
        | none => .err) = _
      rw [hd2]
      show Res.ok (D.bl (((rs.zip rs.tail).map fun _ => true).all id)) st = _
      rw [hall2]
    have hnl : newL false ((rs.zip rs.tail).map fun _ => D.bl true) st = .ok (.lst ((rs.zip rs.tail).map fun _ => D.bl true)) st := ndL _ _ (by rw [List.length_map]; exact hl6)
    simp only [ex_ret, ev_bi, evs_cons, ev_lc, evw_zip, bind_ok, List.getElem?_cons_zero, i1, prim_ok, ev_sl, ev_idx, ev_var, ev_con, evo_cons, evo_nil, hsl, hwk, List.append_nil, hz, hnl, evs_nil, pBi, ha1]
  show outR (Mn.exec (callN (tab L) (k + 3)) b_is_telling [some T, none, none, none] st) = _
  unfold b_is_telling
  rw [ex_cons, s1]
  dsimp only
  rw [ex_cons, s2]
  dsimp only
  rw [ex_cons, s3]
  rfl
theorem need_ok (k : Nat) (st : Store) {m : Int} {rs : List Rw} (hm : 1 ≤ m ∧ m ≤ 3) (hs : ∀ r ∈ rs, SetOk m r.1) (hn : ∀ r ∈ rs, 0 ≤ r.2 ∧ r.2 ≤ 9) (ha : Asc rs) (hl : rs.length ≤ 1000) : callN (tab L) (k + 5) i_need_telling [telD m rs] st = .ok .non st := by
  rw [c_need_telling]
  simp [runDf, d_need_telling, b_need_telling, telling_ok k st hm hs hn ha hl]
theorem needS_ok (k : Nat) (st : Store) {m : Int} {s : List Int} (rest : Mn.D) (hs : SetOk m s) : callN (tab L) (k + 3) i_need_sets [.tup [.int m, rest], sD s] st = .ok .non st := by
  rw [c_need_sets]
  have e0 : atD [D.int m, rest] 0 = some (.int m) := rfl
  simp [runDf, d_need_sets, b_need_sets, pIdx, e0, optR, sets_ok k st hs]
/-- a telling that stands -/
structure Tel (m : Int) (rs : List Rw) : Prop where
  hm : 1 ≤ m ∧ m ≤ 3
  hs : ∀ r ∈ rs, SetOk m r.1
  hn : ∀ r ∈ rs, 0 ≤ r.2 ∧ r.2 ≤ 9
  ha : Asc rs
  hl : rs.length ≤ 1000
theorem optD_non (o : Option (List Int)) : (optD o).isNon = o.isNone := by cases o <;> rfl
theorem can_ok (k : Nat) (st : Store) {m : Int} {rs : List Rw} (t : Tel m rs) (hc : costM m rs ≤ maxLen) : ∃ kvs, callN (tab L) (k + 13) i_can [telD m rs] st = .ok (.bl (llL m rs).isSome) (st ++ [.dct kvs]) := by
  obtain ⟨kvs, e⟩ := ll_ok k st m rs t.hm t.hs (fun r hr => by have := t.hn r hr; omega) t.hl hc
  refine ⟨kvs, ?_⟩
  rw [c_can]
  have hn := need_ok (k + 7) st t.hm t.hs t.hn t.ha t.hl
  have eb : (!(llL m rs).isNone) = (llL m rs).isSome := by cases llL m rs <;> rfl
  simp [runDf, d_can, b_can, hn, e, optD_non]
end Pg

set_option Elab.async false
set_option linter.all false
set_option maxRecDepth 100000
set_option maxHeartbeats 8000000
/-! Pu7: with_row, both_rows. -/
namespace Pg
open Mn
def ltW (a b : Rw) : Bool := (rowD a).lt (rowD b)
def insW (x : Rw) : List Rw → List Rw
  | [] => [x]
  | y :: ys => if ltW y x then y :: insW x ys else x :: y :: ys
def isortW : List Rw → List Rw
  | [] => []
  | x :: xs => insW x (isortW xs)
theorem ins_W (x : Rw) : ∀ l : List Rw, Mn.ins Mn.D.lt (rowD x) (l.map rowD) = (insW x l).map rowD
  | [] => rfl
  | y :: ys => by
    show (if (rowD y).lt (rowD x) then rowD y :: Mn.ins Mn.D.lt (rowD x) (ys.map rowD) else rowD x :: rowD y :: ys.map rowD) = _
    unfold insW ltW
    split
    · rw [ins_W x ys]; rfl
    · rfl
theorem isort_W : ∀ l : List Rw, isort Mn.D.lt (l.map rowD) = (isortW l).map rowD
  | [] => rfl
  | x :: xs => by
    show Mn.ins Mn.D.lt (rowD x) (isort Mn.D.lt (xs.map rowD)) = _
    rw [isort_W xs, ins_W]
    rfl
theorem insW_mem (x : Rw) : ∀ (l : List Rw) (z : Rw), z ∈ insW x l ↔ z = x ∨ z ∈ l
  | [], z => by simp [insW]
  | y :: ys, z => by
    unfold insW
    split
    · rw [List.mem_cons, insW_mem x ys z, List.mem_cons]
      constructor
      · rintro (h | h | h) <;> simp [h]
      · rintro (h | h | h) <;> simp [h]
    · simp
theorem isortW_mem : ∀ (l : List Rw) (z : Rw), z ∈ isortW l ↔ z ∈ l
  | [], z => by simp [isortW]
  | x :: xs, z => by unfold isortW; rw [insW_mem, isortW_mem xs z, List.mem_cons]
theorem insW_len (x : Rw) : ∀ l : List Rw, (insW x l).length = l.length + 1
  | [] => rfl
  | y :: ys => by unfold insW; split <;> simp [insW_len x ys]
theorem isortW_len : ∀ l : List Rw, (isortW l).length = l.length
  | [] => rfl
  | x :: xs => by unfold isortW; rw [insW_len, isortW_len xs]; simp
def withR (rs : List Rw) (s : List Int) (n : Int) : List Rw := isortW ((rs.filter fun r => decide (r.1 ≠ s)) ++ [(s, n)])
theorem withR_mem {rs : List Rw} {s : List Int} {n : Int} {r : Rw} : r ∈ withR rs s n ↔ (r ∈ rs ∧ r.1 ≠ s) ∨ r = (s, n) := by
  unfold withR
  rw [isortW_mem]
  simp
theorem eq_sets (a b : List Int) (st : Store) : pCmp .ne (sD a) (sD b) st = some (!decide (a = b)) ∧ pCmp .eq (sD a) (sD b) st = some (decide (a = b)) := by
  have h2 : ∀ a : List Int, (sD a).okp = true := by
    intro a
    have p1 : isPs (iD a) = true := isPs_ints a
    have p2 : deps (iD a) = 0 := deps_ints a
    simp [sD, D.okp, D.isP, D.dep, p1, p2]
  have he : (sD a).eqv (sD b) = decide (a = b) := by
    show eqvs (iD a) (iD b) = _
    by_cases h : a = b
    · subst h
      have : ∀ l : List Int, eqvs (iD l) (iD l) = true := by
        intro l
        induction l with
        | nil => rfl
        | cons a l ih => show (decide (a = a) && eqvs (iD l) (iD l)) = true; simp [ih]
      simp [this]
    · cases hq : eqvs (iD a) (iD b) with
      | false => simp [h]
      | true => exact absurd (iD_inj hq) h
  have hv : ∀ a : List Int, vw st (sD a) = sD a := fun _ => rfl
  constructor
  · show (if (vw st (sD a)).okp && (vw st (sD b)).okp then some (!(vw st (sD a)).eqv (vw st (sD b))) else none) = _
    rw [hv, hv, h2, h2, he]
    rfl
  · show ((scrEq (sD a) (sD b)).orElse fun _ => if (vw st (sD a)).okp && (vw st (sD b)).okp then some ((vw st (sD a)).eqv (vw st (sD b))) else none) = _
    rw [hv, hv, h2, h2, he]
    rfl
/-- a comprehension with a test -/
theorem lc_flt {C : Calls} {own : List Nat} {t : Tg} {c e : E} {env : En} {st : Store} {α : Type} (p : α → Bool) (f : α → Mn.D) (g : α → Mn.D) : ∀ (xs : List α) (acc : List Mn.D), (∀ x ∈ xs, lcBody C own t c e env (f x) st = .ok (if p x then some (g x) else none) st) →
    lcLoop [] (lcBody C own t c e env) (xs.map f) acc st = .ok (acc.reverse ++ (xs.filter p).map g) st
  | [], acc, _ => by simp [lcLoop, still]
  | x :: xs, acc, h => by
    have h1 := h x List.mem_cons_self
    have ih := fun acc => lc_flt p f g xs acc fun y hy => h y (List.mem_cons_of_mem _ hy)
    simp only [List.map_cons, lcLoop, still, if_true, h1]
    cases hp : p x with
    | true => simp only [if_true]; rw [ih]; simp [hp]
    | false => simp only [Bool.false_eq_true, if_false]; rw [ih]; simp [hp]
theorem rowD_P (r : Rw) : (rowD r).isP = true ∧ (rowD r).dep = 2 := by
  have p1 : isPs (iD r.1) = true := isPs_ints r.1
  have p2 : deps (iD r.1) = 0 := deps_ints r.1
  constructor
  · simp [rowD, sD, D.isP, isPs, p1]
  · simp [rowD, sD, D.dep, deps, p2]
theorem rows_okps : ∀ l : List Rw, okps (l.map rowD) = true := by
  have h1 : ∀ l : List Rw, isPs (l.map rowD) = true := by
    intro l
    induction l with
    | nil => rfl
    | cons r l ih => show ((rowD r).isP && isPs (l.map rowD)) = true; rw [(rowD_P r).1, ih]; rfl
  have h2 : ∀ l : List Rw, deps (l.map rowD) ≤ 2 := by
    intro l
    induction l with
    | nil => exact Nat.zero_le _
    | cons r l ih => show max (rowD r).dep (deps (l.map rowD)) ≤ 2; rw [(rowD_P r).2]; exact Nat.max_le.mpr ⟨Nat.le_refl _, ih⟩
  intro l
  unfold okps
  rw [h1 l]
  have := h2 l
  simp
  omega
theorem alikes_ints : ∀ a b : List Int, alikes (iD a) (iD b) = true := by
  intro a
  induction a with
  | nil => intro b; cases b <;> rfl
  | cons x a ih =>
    intro b
    cases b with
    | nil => rfl
    | cons y b => show (true && alikes (iD a) (iD b)) = true; simp [ih b]
theorem rows_alike (l : List Rw) : allAlike (l.map rowD) = true := by
  unfold allAlike
  rw [List.all_eq_true]
  intro a ha
  rw [List.all_eq_true]
  intro b hb
  obtain ⟨r, _, rfl⟩ := List.mem_map.mp ha
  obtain ⟨q, _, rfl⟩ := List.mem_map.mp hb
  simp [rowD, sD, D.alike, alikes, alikes_ints]
theorem rows_sorted (l : List Rw) (st : Store) (hl : l.length ≤ 1001) : pSorted (l.map rowD) st = .ok (.lst ((isortW l).map rowD)) st := by
  have h1 := rows_okps l
  have h2 := rows_alike l
  have h3 : sortable (l.map rowD) = true := by
    have : (l.map rowD).all isTupC = true := by
      rw [List.all_eq_true]
      intro d hd
      obtain ⟨r, _, rfl⟩ := List.mem_map.mp hd
      rfl
    unfold sortable
    rw [this]
    rfl
  unfold pSorted
  rw [h1, h2, h3, isort_W]
  exact ndL _ _ (by rw [List.length_map, isortW_len]; unfold maxLen; omega)
theorem with_ok (k : Nat) (st : Store) (m : Int) (rs : List Rw) (s : List Int) (n : Int) (hl : rs.length ≤ 1000) : callN (tab L) (k + 1) i_with_row [telD m rs, sD s, .int n] st = .ok (telD m (withR rs s n)) st := by
  rw [c_with_row]
  have i0 : pIdx (telD m rs) (.int 0) st = .ok (.int m) st := rfl
  have i1 : pIdx (telD m rs) (.int 1) st = .ok (.tup (rs.map rowD)) st := rfl
  have hwk : ∀ xs : List Mn.D, wkOf st (.tup xs) = some ⟨xs, []⟩ := fun _ => rfl
  have hlc := lc_flt (C := callN (tab L) k) (own := [4]) (t := .name 4) (c := .cons (.cmp .ne (.idx (.var 4) (.con (.int 0))) (.var 1)) .nil) (e := .var 4) (env := [some (telD m rs), some (sD s), some (.int n), none, none]) (st := st) (fun r => decide (r.1 ≠ s)) rowD rowD rs [] (fun r hr => by
    have f0 : pIdx (rowD r) (.int 0) st = .ok (sD r.1) st := rfl
    have h := (eq_sets r.1 s st).1
    cases he : decide (r.1 = s) with
    | true =>
      rw [he] at h
      have hd : (decide (r.1 ≠ s)) = false := by simpa using he
      rw [hd]
      simp [lcBody, asgT, wipeE, f0, h]
    | false => rw [he] at h; simp [lcBody, asgT, wipeE, f0, h, of_decide_eq_false he])
  have hl1 : (rs.filter fun r => decide (r.1 ≠ s)).length ≤ rs.length := List.length_filter_le _ _
  have e1 : ((rs.filter fun r => decide (r.1 ≠ s)).map rowD) ++ [.tup [sD s, .int n]] = ((rs.filter fun r => decide (r.1 ≠ s)) ++ [(s, n)]).map rowD := by simp [rowD]
  have hso := rows_sorted ((rs.filter fun r => decide (r.1 ≠ s)) ++ [(s, n)]) st (by simp at hl1 ⊢; omega)
  have hbin : pBin .add (.lst ((rs.filter fun r => decide (r.1 ≠ s)).map rowD)) (.lst [.tup [sD s, .int n]]) st = .ok (.lst (((rs.filter fun r => decide (r.1 ≠ s)) ++ [(s, n)]).map rowD)) st := by
    show newL false (((rs.filter fun r => decide (r.1 ≠ s)).map rowD) ++ [.tup [sD s, .int n]]) st = _
    rw [e1]
    exact ndL _ _ (by rw [List.length_map, List.length_append]; simp at hl1 ⊢; unfold maxLen; omega)
  have m2 : 2 ≤ maxLen := by unfold maxLen; omega
  have m1 : 1 ≤ maxLen := by unfold maxLen; omega
  have hn1 : newL false ((rs.filter fun r => decide (r.1 ≠ s)).map rowD) st = .ok (.lst ((rs.filter fun r => decide (r.1 ≠ s)).map rowD)) st := ndL _ _ (by rw [List.length_map]; unfold maxLen; omega)
  have hbs : bSorted [.lst (((rs.filter fun r => decide (r.1 ≠ s)) ++ [(s, n)]).map rowD)] st = .ok (.lst ((withR rs s n).map rowD)) st := hso
  have hbt : bTuple [.lst ((withR rs s n).map rowD)] st = .ok (.tup ((withR rs s n).map rowD)) st := by
    show newT ((withR rs s n).map rowD) st = _
    exact ndT _ _ (by unfold withR; rw [List.length_map, isortW_len, List.length_append]; simp at hl1 ⊢; unfold maxLen; omega)
  have hnt : newT [sD s, .int n] st = .ok (.tup [sD s, .int n]) st := ndT _ _ (by simp; exact m2)
  have hnl : newL false [.tup [sD s, .int n]] st = .ok (.lst [.tup [sD s, .int n]]) st := ndL _ _ (by simp; exact m1)
  have hnt2 : newT [.int m, .tup ((withR rs s n).map rowD)] st = .ok (telD m (withR rs s n)) st := ndT _ _ (by simp; exact m2)
  have hlc' : lcLoop [] (lcBody (callN (tab L) k) [4] (.name 4) (.cons (.cmp .ne (.idx (.var 4) (.con (.int 0))) (.var 1)) .nil) (.var 4) [some (telD m rs), some (sD s), some (.int n), none, none]) (rs.map rowD) [] st = .ok ((rs.filter fun r => decide (r.1 ≠ s)).map rowD) st := hlc
  generalize hF : (rs.filter fun r => decide (r.1 ≠ s)).map rowD = FF at *
  generalize hG : ((rs.filter fun r => decide (r.1 ≠ s)) ++ [(s, n)]).map rowD = GG at *
  generalize hT : telD m rs = T at *
  generalize hS : sD s = SS at *
  simp [runDf, d_with_row, b_with_row, i1, hwk, hlc', hn1, hnt, hnl, hbin, asgT, i0, pBi, hbs, hbt, hnt2]
end Pg

set_option Elab.async false
set_option linter.all false
set_option maxRecDepth 100000
set_option maxHeartbeats 8000000
/-! Pu8: both_rows, top_of, bounds. -/
namespace Pg
open Mn
def bothB (m : Int) (rs : List Rw) (s : List Int) (v : Int) : Bool := match rs.find? fun r => decide (r.1 = s) with
  | some r => decide (r.2 = v)
  | none => (llL m (withR rs s v)).isSome
def brBody : S := (.cons (.ite (.cmp .eq (.idx (.var 3) (.con (.int 0))) (.var 1)) (.cons (.ret (.cmp .eq (.idx (.var 3) (.con (.int 1))) (.var 2))) .nil) .nil) .nil)
theorem br_loop (C : Calls) (T : Mn.D) (s : List Int) (v : Int) (st : Store) : ∀ (rs : List Rw) (a : Option Mn.D),
    (match rs.find? fun r => decide (r.1 = s) with
      | some r => forLoop [] (forBody C (.name 3) brBody) (rs.map rowD) [some T, some (sD s), some (.int v), a] st = .ret (.bl (decide (r.2 = v))) st
      | none => ∃ a', forLoop [] (forBody C (.name 3) brBody) (rs.map rowD) [some T, some (sD s), some (.int v), a] st = .next [some T, some (sD s), some (.int v), a'] st)
  | [], a => ⟨a, rfl⟩
  | r :: rs, a => by
    have f0 : pIdx (rowD r) (.int 0) st = .ok (sD r.1) st := rfl
    have f1 : pIdx (rowD r) (.int 1) st = .ok (.int r.2) st := rfl
    have h := (eq_sets r.1 s st).2
    have ih := br_loop C T s v st rs (some (rowD r))
    have hb : forBody C (.name 3) brBody (rowD r) [some T, some (sD s), some (.int v), a] st = if decide (r.1 = s) then .ret (.bl (decide (r.2 = v))) st else .next [some T, some (sD s), some (.int v), some (rowD r)] st := by
      cases he : decide (r.1 = s) with
      | true => rw [he] at h; simp [forBody, brBody, asgT, f0, f1, h, eq_ints]
      | false => rw [he] at h; simp [forBody, brBody, asgT, f0, f1, h, eq_ints]
    simp only [List.find?_cons, List.map_cons, forLoop, still, if_true, hb]
    cases he : decide (r.1 = s) with
    | true => simp
    | false => simpa using ih
/-- everything that a call of least_lots takes -/
structure LlOk (m : Int) (rs : List Rw) : Prop where
  hm : 1 ≤ m ∧ m ≤ 3
  hs : ∀ r ∈ rs, SetOk m r.1
  hn : ∀ r ∈ rs, 0 ≤ r.2 ∧ r.2 < 1000
  hl : rs.length ≤ 1000
  hc : costM m rs ≤ maxLen
theorem LlOk.ok {m : Int} {rs : List Rw} (h : LlOk m rs) (k : Nat) (st : Store) : ∃ kvs, callN (tab L) (k + 12) i_least_lots [telD m rs] st = .ok (optD (llL m rs)) (st ++ [.dct kvs]) := ll_ok k st m rs h.hm h.hs h.hn h.hl h.hc
theorem both_ok (k : Nat) (st : Store) (m : Int) (rs : List Rw) (s : List Int) (v : Int) (hl : rs.length ≤ 1000) (h : (rs.find? fun r => decide (r.1 = s)) = none → LlOk m (withR rs s v)) :
    ∃ r, callN (tab L) (k + 13) i_both_rows [telD m rs, sD s, .int v] st = .ok (.bl (bothB m rs s v)) (st ++ r) := by
  rw [c_both_rows]
  have i1 : pIdx (telD m rs) (.int 1) st = .ok (.tup (rs.map rowD)) st := rfl
  have hwk : ∀ xs : List Mn.D, wkOf st (.tup xs) = some ⟨xs, []⟩ := fun _ => rfl
  have hlp := br_loop (callN (tab L) (k + 12)) (telD m rs) s v st rs none
  have s1 : Mn.exec (callN (tab L) (k + 12)) (.for_ (.name 3) (.cons (.idx (.var 0) (.con (.int 1))) .nil) brBody) [some (telD m rs), some (sD s), some (.int v), none] st = forLoop [] (forBody (callN (tab L) (k + 12)) (.name 3) brBody) (rs.map rowD) [some (telD m rs), some (sD s), some (.int v), none] st := by
    simp [i1, hwk]
  unfold bothB
  cases hf : rs.find? fun r => decide (r.1 = s) with
  | some r =>
    rw [hf] at hlp
    refine ⟨[], ?_⟩
    show outR (Mn.exec (callN (tab L) (k + 12)) (.cons (.for_ (.name 3) (.cons (.idx (.var 0) (.con (.int 1))) .nil) brBody) _) [some (telD m rs), some (sD s), some (.int v), none] st) = _
    rw [ex_cons, s1, hlp]
    simp [outR]
  | none =>
    rw [hf] at hlp
    obtain ⟨a', hlp⟩ := hlp
    obtain ⟨kvs, e⟩ := (h hf).ok k st
    refine ⟨[.dct kvs], ?_⟩
    have hw := with_ok (k + 11) st m rs s v hl
    have s2 : Mn.exec (callN (tab L) (k + 12)) (.ret (.notN (.call i_least_lots (.cons (.call i_with_row (.cons (.var 0) (.cons (.var 1) (.cons (.var 2) .nil)))) .nil)))) [some (telD m rs), some (sD s), some (.int v), a'] st = .ret (.bl (llL m (withR rs s v)).isSome) (st ++ [.dct kvs]) := by
      generalize hT : telD m rs = T at *
      generalize hS : sD s = SS at *
      simp [hw, e, optD_non]
    show outR (Mn.exec (callN (tab L) (k + 12)) (.cons (.for_ (.name 3) (.cons (.idx (.var 0) (.con (.int 1))) .nil) brBody) (.cons (.ret (.notN (.call i_least_lots (.cons (.call i_with_row (.cons (.var 0) (.cons (.var 1) (.cons (.var 2) .nil)))) .nil)))) .nil)) [some (telD m rs), some (sD s), some (.int v), none] st) = _
    rw [ex_cons, s1, hlp]
    dsimp only
    rw [ex_cons, s2]
    rfl
/-! ### free places -/
def rgI (lo : Int) : Nat → List Int
  | 0 => []
  | n + 1 => lo :: rgI (lo + 1) n
theorem rangeD_eq : ∀ (n : Nat) (lo : Int), rangeD lo n = (rgI lo n).map .int
  | 0, _ => rfl
  | n + 1, lo => by show D.int lo :: rangeD (lo + 1) n = _; rw [rangeD_eq n (lo + 1)]; rfl
theorem rgI_len : ∀ (n : Nat) (lo : Int), (rgI lo n).length = n
  | 0, _ => rfl
  | n + 1, lo => by simp [rgI, rgI_len n]
def isFree (m : Int) (rs : List Rw) (p : Int) : Bool := !(rs.any fun r => decide (p ∈ cols m r.1))
def freeL (m : Int) (rs : List Rw) : List Int := (rgI 0 (regs m).length).filter (isFree m rs)
theorem inner_ok (C : Calls) (st : Store) (m : Int) (rs : List Rw) (T : Mn.D) (p : Int) (x : Option Mn.D) : lcLoop [] (lcBody C [3] (.name 3) .nil (.cmp .isin (.var 2) (.idx (.var 3) (.con (.int 0)))) [some T, some (.lst ((rs.map fun r => (cols m r.1, r.2)).map rD)), some (.int p), x]) ((rs.map fun r => (cols m r.1, r.2)).map rD) [] st = .ok (rs.map fun r => .bl (decide (p ∈ cols m r.1))) st := by
  have := lc_all (C := C) (own := [3]) (t := .name 3) (e := .cmp .isin (.var 2) (.idx (.var 3) (.con (.int 0)))) (env := [some T, some (.lst ((rs.map fun r => (cols m r.1, r.2)).map rD)), some (.int p), x]) (st := st) (rs.map fun r => (cols m r.1, r.2)) rD (fun r => .bl (decide (p ∈ r.1))) (fun r hr => by
      have f0 : pIdx (rD r) (.int 0) st = .ok (.lst (iD r.1)) st := rfl
      simp [lcBody, asgT, wipeE, f0, pCmp, in_cols])
  rw [this, List.map_map]
  rfl
theorem any_bls {α : Type} (l : List α) (f : α → Bool) (st : Store) : bAll (fun bs => bs.any id) [.lst (l.map fun r => .bl (f r))] st = .ok (.bl (l.any f)) st := by
  have hd : dBools (l.map fun r => D.bl (f r)) = some (l.map f) := by rw [← dBools_map, List.map_map]; rfl
  show (match dBools (l.map fun r => D.bl (f r)) with
        | some bs => Res.ok (D.bl (bs.any id)) st
        | none => .err) = _
  rw [hd]
  simp [List.any_map, Function.comp_def]
theorem outer_ok (C : Calls) (st : Store) (m : Int) (rs : List Rw) (T : Mn.D) (n : Nat) (hl4 : rs.length ≤ maxLen) : lcLoop [] (lcBody C [2] (.name 2) (.cons (.not (.bi .any (.cons (.lc false [3] (.name 3) (.cons (.var 1) .nil) .nil (.cmp .isin (.var 2) (.idx (.var 3) (.con (.int 0))))) .nil))) .nil) (.var 2) [some T, some (.lst ((rs.map fun r => (cols m r.1, r.2)).map rD)), none, none]) (rangeD 0 n) [] st = .ok (iD ((rgI 0 n).filter (isFree m rs))) st := by
  rw [rangeD_eq]
  have hwl : ∀ xs : List Mn.D, wkOf st (.lst xs) = some ⟨xs, []⟩ := fun _ => rfl
  have hi := fun p => inner_ok C st m rs T p none
  generalize hR : (rs.map fun r => (cols m r.1, r.2)).map rD = RR at *
  refine lc_flt (isFree m rs) .int .int (rgI 0 n) [] (fun p hp => ?_)
  have ha := any_bls rs (fun r => decide (p ∈ cols m r.1)) st
  have hnl : newL false (rs.map fun r => D.bl (decide (p ∈ cols m r.1))) st = .ok (.lst (rs.map fun r => .bl (decide (p ∈ cols m r.1)))) st := ndL _ _ (by rw [List.length_map]; exact hl4)
  unfold isFree
  cases hb : (rs.any fun r => decide (p ∈ cols m r.1)) with
  | true => rw [hb] at ha; simp [lcBody, asgT, wipeE, hwl, hi, hnl, pBi, ha]
  | false => rw [hb] at ha; simp [lcBody, asgT, wipeE, hwl, hi, hnl, pBi, ha]
theorem freeL_len (m : Int) (rs : List Rw) (h : 1 ≤ m ∧ m ≤ 3) : (freeL m rs).length ≤ 8 := by
  unfold freeL
  have h1 := List.length_filter_le (isFree m rs) (rgI 0 (regs m).length)
  rw [rgI_len] at h1
  have := regs_len h
  omega
theorem free_run (C : Calls) (st : Store) (m : Int) (rs : List Rw) (T : Mn.D) (n : Nat) (hl4 : rs.length ≤ maxLen) (hn : n ≤ 8) (hro : C i_rows_of [T] st = .ok (.lst ((rs.map fun r => (cols m r.1, r.2)).map rD)) st) (i0 : pIdx T (.int 0) st = .ok (.int m) st) (RG : List Mn.D) (hRG : RG.length = n) (hreg : C i_regions [.int m] st = .ok (.lst RG) st) :
    runDf C d_free_places [T] st = .ok (.lst (iD ((rgI 0 n).filter (isFree m rs)))) st := by
  have ho := outer_ok C st m rs T n hl4
  have hnl : newL false (iD ((rgI 0 n).filter (isFree m rs))) st = .ok (.lst (iD ((rgI 0 n).filter (isFree m rs)))) st := ndL _ _ (by
    rw [iD_len]
    have h1 := List.length_filter_le (isFree m rs) (rgI 0 n)
    rw [rgI_len] at h1
    unfold maxLen
    omega)
  have hsm : small (n : Int) = true := by
    have h8 : (n : Int) ≤ 8 := by omega
    have h0 : (0 : Int) ≤ n := by omega
    generalize (n : Int) = z at *
    simp [small]
    omega
  have hbl : bLen [.lst RG] st = .ok (.int (n : Nat)) st := by
    show Res.ok (D.int (RG.length : Nat)) st = _
    rw [hRG]
  generalize hR : (rs.map fun r => (cols m r.1, r.2)).map rD = RR at *
  generalize iD ((rgI 0 n).filter (isFree m rs)) = ZZ at *
  have s1 : Mn.exec C (.asg (.name 1) (.call i_rows_of (.cons (.var 0) .nil))) [some T, none, none, none] st = .next [some T, some (.lst RR), none, none] st := by
    simp only [ex_asg, ev_call, evs_cons, evs_nil, ev_var, List.getElem?_cons_zero, bind_ok, hro]
    rfl
  have s2 : Mn.exec C (.ret (.lc false [2] (.name 2) (.rng (.bi .len (.cons (.call i_regions (.cons (.idx (.var 0) (.con (.int 0))) .nil)) .nil))) (.cons (.not (.bi .any (.cons (.lc false [3] (.name 3) (.cons (.var 1) .nil) .nil (.cmp .isin (.var 2) (.idx (.var 3) (.con (.int 0))))) .nil))) .nil) (.var 2))) [some T, some (.lst RR), none, none] st = .ret (.lst ZZ) st := by
    have hl1 : ev C (.bi .len (.cons (.call i_regions (.cons (.idx (.var 0) (.con (.int 0))) .nil)) .nil)) [some T, some (.lst RR), none, none] st = .ok (.int (n : Nat)) st := by
      have hx : ev C (.idx (.var 0) (.con (.int 0))) [some T, some (.lst RR), none, none] st = .ok (.int m) st := by
        show prim (pIdx T (.int 0) st) = _
        rw [i0]; rfl
      have hy : ev C (.call i_regions (.cons (.idx (.var 0) (.con (.int 0))) .nil)) [some T, some (.lst RR), none, none] st = .ok (.lst RG) st := by
        rw [ev_call, evs_cons, hx, bind_ok, evs_nil, bind_ok, bind_ok]
        exact hreg
      rw [ev_bi, evs_cons, hy, bind_ok, evs_nil, bind_ok, bind_ok]
      show prim (bLen [.lst RG] st) = _
      rw [hbl]; rfl
    have hw : evw C (.rng (.bi .len (.cons (.call i_regions (.cons (.idx (.var 0) (.con (.int 0))) .nil)) .nil))) [some T, some (.lst RR), none, none] st = .ok ⟨rangeD 0 n, []⟩ st := by
      rw [evw_rng, hl1, bind_ok]
      dsimp only
      rw [hsm, if_pos rfl, Int.toNat_natCast]
    rw [ex_ret, ev_lc, hw, bind_ok]
    dsimp only
    rw [ho, bind_ok, hnl, prim_ok]
  show outR (Mn.exec C b_free_places [some T, none, none, none] st) = _
  unfold b_free_places
  rw [ex_cons, s1]
  dsimp only
  rw [ex_cons, s2]
  rfl
theorem free_ok (k : Nat) (st : Store) (m : Int) (rs : List Rw) (h : 1 ≤ m ∧ m ≤ 3) (hs : ∀ r ∈ rs, SetOk m r.1) (hl : rs.length ≤ 1000) : callN (tab L) (k + 4) i_free_places [telD m rs] st = .ok (.lst (iD (freeL m rs))) st := by
  rw [c_free_places]
  exact free_run _ st m rs _ _ (by unfold maxLen; omega) (regs_len h) (rows_ok k st m rs h (fun r hr => by have := (setOk_len (hs r hr)).1; omega) hl) rfl _ (List.length_map _) (regions_ok (k + 2) st h)
/-! ### top_of -/
def topB (m : Int) (rs : List Rw) (s : List Int) : Option Int := if (freeL m rs).any fun p => decide (p ∈ cols m s) then none else some (nums rs).sum
def intO : Option Int → Mn.D
  | none => .non
  | some i => .int i
theorem top_ok (k : Nat) (st : Store) (m : Int) (rs : List Rw) (s : List Int) (h : 1 ≤ m ∧ m ≤ 3) (hs : ∀ r ∈ rs, SetOk m r.1) (hl : rs.length ≤ 1000) (hs' : SetOk m s) : callN (tab L) (k + 5) i_top_of [telD m rs, sD s] st = .ok (intO (topB m rs s)) st := by
  rw [c_top_of]
  have hfr := free_ok k st m rs h hs hl
  have hco := columns_ok (k + 2) st m (.tup (rs.map rowD)) s h (by have := (setOk_len hs').1; omega)
  have hco' : callN (tab L) (k + 4) i_columns [telD m rs, sD s] st = .ok (.lst (iD (cols m s))) st := hco
  have hwl : ∀ xs : List Mn.D, wkOf st (.lst xs) = some ⟨xs, []⟩ := fun _ => rfl
  have hwt : ∀ xs : List Mn.D, wkOf st (.tup xs) = some ⟨xs, []⟩ := fun _ => rfl
  have i1 : pIdx (telD m rs) (.int 1) st = .ok (.tup (rs.map rowD)) st := rfl
  have hr8 := regs_len h
  have hfl : (freeL m rs).length ≤ 8 := by
    unfold freeL
    have h1 := List.length_filter_le (isFree m rs) (rgI 0 (regs m).length)
    rw [rgI_len] at h1
    omega
  have lc1 := lc_all (C := callN (tab L) (k + 4)) (own := [2]) (t := .name 2) (e := .cmp .isin (.var 2) (.call i_columns (.cons (.var 0) (.cons (.var 1) .nil)))) (env := [some (telD m rs), some (sD s), none, none]) (st := st) (freeL m rs) .int (fun p => .bl (decide (p ∈ cols m s))) (fun p hp => by
    generalize hT : telD m rs = T at *
    generalize hS : sD s = SS at *
    simp [lcBody, asgT, wipeE, hco', pCmp, in_cols])
  have lc2 := lc_all (C := callN (tab L) (k + 4)) (own := [3]) (t := .name 3) (e := .idx (.var 3) (.con (.int 1))) (env := [some (telD m rs), some (sD s), none, none]) (st := st) rs rowD (fun r => .int r.2) (fun r hr => by
    have f1 : pIdx (rowD r) (.int 1) st = .ok (.int r.2) st := rfl
    simp [lcBody, asgT, wipeE, f1])
  have hany : bAll (fun bs => bs.any id) [.lst ((freeL m rs).map fun p => .bl (decide (p ∈ cols m s)))] st = .ok (.bl ((freeL m rs).any fun p => decide (p ∈ cols m s))) st := by
    have hd : dBools ((freeL m rs).map fun p => D.bl (decide (p ∈ cols m s))) = some ((freeL m rs).map fun p => decide (p ∈ cols m s)) := by rw [← dBools_map, List.map_map]; rfl
    show (match dBools ((freeL m rs).map fun p => D.bl (decide (p ∈ cols m s))) with
        | some bs => Res.ok (D.bl (bs.any id)) st
        | none => .err) = _
    rw [hd]
    simp [List.any_map, Function.comp_def]
  have hsum : bSum [.lst (rs.map fun r => .int r.2)] st = .ok (.int (nums rs).sum) st := by
    have hd : dInts (rs.map fun r => D.int r.2) = some (nums rs) := by rw [← dInts_iD]; simp [iD, nums, List.map_map, Function.comp_def]
    show (match dInts (rs.map fun r => D.int r.2) with
        | some is => Res.ok (D.int is.sum) st
        | none => .err) = _
    rw [hd]
  have n1 : newL false ((freeL m rs).map fun p => D.bl (decide (p ∈ cols m s))) st = .ok (.lst ((freeL m rs).map fun p => .bl (decide (p ∈ cols m s)))) st := ndL _ _ (by rw [List.length_map]; unfold maxLen; omega)
  have n2 : newL false (rs.map fun r => D.int r.2) st = .ok (.lst (rs.map fun r => .int r.2)) st := ndL _ _ (by rw [List.length_map]; unfold maxLen; omega)
  have eI : iD (freeL m rs) = (freeL m rs).map .int := rfl
  rw [eI] at hfr
  generalize hT : telD m rs = T at *
  generalize hS : sD s = SS at *
  unfold topB
  cases hb : (freeL m rs).any fun p => decide (p ∈ cols m s) with
  | true => rw [hb] at hany; simp [runDf, d_top_of, b_top_of, hfr, hwl, lc1, n1, pBi, hany, intO]
  | false => rw [hb] at hany; simp [runDf, d_top_of, b_top_of, hfr, hwl, lc1, n1, pBi, hany, intO, i1, hwt, lc2, n2, hsum]
end Pg

set_option Elab.async false
set_option linter.all false
set_option maxRecDepth 100000
set_option maxHeartbeats 8000000
/-! Pu9: bounds. -/
namespace Pg
open Mn
def BoOk (m : Int) (rs : List Rw) (s : List Int) (v : Int) : Prop := (rs.find? fun r => decide (r.1 = s)) = none → LlOk m (withR rs s v)
theorem cond_ok (k : Nat) (m : Int) (rs : List Rw) (s : List Int) (v : Int) (env : En) (j : Nat) (st : Store) (h0 : env[0]? = some (some (telD m rs))) (h1 : env[1]? = some (some (sD s))) (h2 : env[j]? = some (some (.int v))) (hl : rs.length ≤ 1000) (hb : BoOk m rs s v) :
    ∃ r, evB (callN (tab L) (k + 13)) (.not (.call i_both_rows (.cons (.var 0) (.cons (.var 1) (.cons (.var j) .nil))))) env st = .ok (!bothB m rs s v) (st ++ r) := by
  obtain ⟨r, e⟩ := both_ok k st m rs s v hl hb
  refine ⟨r, ?_⟩
  unfold evB
  rw [ev_not, ev_call, evs_cons, ev_var, h0]
  dsimp only
  rw [bind_ok, evs_cons, ev_var, h1]
  dsimp only
  rw [bind_ok, evs_cons, ev_var, h2]
  dsimp only
  rw [bind_ok, evs_nil, bind_ok, bind_ok, bind_ok, bind_ok, e]
  rfl
theorem wh_up (k : Nat) (m : Int) (rs : List Rw) (s : List Int) (hl : rs.length ≤ 1000) (x : Option Mn.D) : ∀ (n : Nat) (v : Int) (fuel : Nat) (st : Store), n < fuel → (∀ u, v ≤ u → u ≤ v + n → BoOk m rs s u) → (∀ u, v ≤ u → u < v + n → bothB m rs s u = false) → bothB m rs s (v + n) = true →
    ∃ r, whLoop (evB (callN (tab L) (k + 13)) (.not (.call i_both_rows (.cons (.var 0) (.cons (.var 1) (.cons (.var 2) .nil)))))) (Mn.exec (callN (tab L) (k + 13)) (.cons (.asg (.name 2) (.bin .add (.var 2) (.con (.int 1)))) .nil)) fuel [some (telD m rs), some (sD s), some (.int v), x] st = .next [some (telD m rs), some (sD s), some (.int (v + n)), x] (st ++ r)
  | 0, v, 0, st, hf, _, _, _ => by omega
  | 0, v, fuel + 1, st, hf, hb, hlo, hhi => by
    obtain ⟨r, e⟩ := cond_ok k m rs s v [some (telD m rs), some (sD s), some (.int v), x] 2 st rfl rfl rfl hl (hb v (by omega) (by omega))
    have ez : v + ((0 : Nat) : Int) = v := by omega
    rw [ez] at hhi ⊢
    refine ⟨r, ?_⟩
    rw [hhi] at e
    simp only [whLoop, e]
    rfl
  | n + 1, v, 0, st, hf, _, _, _ => by omega
  | n + 1, v, fuel + 1, st, hf, hb, hlo, hhi => by
    obtain ⟨r, e⟩ := cond_ok k m rs s v [some (telD m rs), some (sD s), some (.int v), x] 2 st rfl rfl rfl hl (hb v (by omega) (by omega))
    rw [hlo v (by omega) (by omega)] at e
    have ez : v + 1 + (n : Int) = v + ((n + 1 : Nat) : Int) := by omega
    obtain ⟨r2, e2⟩ := wh_up k m rs s hl x n (v + 1) fuel (st ++ r) (by omega) (fun u h1 h2 => hb u (by omega) (by omega)) (fun u h1 h2 => hlo u (by omega) (by omega)) (by rw [ez]; exact hhi)
    rw [ez] at e2
    refine ⟨r ++ r2, ?_⟩
    have hbody : Mn.exec (callN (tab L) (k + 13)) (.cons (.asg (.name 2) (.bin .add (.var 2) (.con (.int 1)))) .nil) [some (telD m rs), some (sD s), some (.int v), x] (st ++ r) = .next [some (telD m rs), some (sD s), some (.int (v + 1)), x] (st ++ r) := rfl
    simp only [whLoop, e, Bool.not_false, hbody, e2, List.append_assoc]
theorem wh_down (k : Nat) (m : Int) (rs : List Rw) (s : List Int) (hl : rs.length ≤ 1000) (x : Option Mn.D) : ∀ (n : Nat) (v : Int) (fuel : Nat) (st : Store), n < fuel → (∀ u, u ≤ v → v - n ≤ u → BoOk m rs s u) → (∀ u, u ≤ v → v - n < u → bothB m rs s u = false) → bothB m rs s (v - n) = true →
    ∃ r, whLoop (evB (callN (tab L) (k + 13)) (.not (.call i_both_rows (.cons (.var 0) (.cons (.var 1) (.cons (.var 3) .nil)))))) (Mn.exec (callN (tab L) (k + 13)) (.cons (.asg (.name 3) (.bin .sub (.var 3) (.con (.int 1)))) .nil)) fuel [some (telD m rs), some (sD s), x, some (.int v)] st = .next [some (telD m rs), some (sD s), x, some (.int (v - n))] (st ++ r)
  | 0, v, 0, st, hf, _, _, _ => by omega
  | 0, v, fuel + 1, st, hf, hb, hlo, hhi => by
    obtain ⟨r, e⟩ := cond_ok k m rs s v [some (telD m rs), some (sD s), x, some (.int v)] 3 st rfl rfl rfl hl (hb v (by omega) (by omega))
    have ez : v - ((0 : Nat) : Int) = v := by omega
    rw [ez] at hhi ⊢
    refine ⟨r, ?_⟩
    rw [hhi] at e
    simp only [whLoop, e]
    rfl
  | n + 1, v, 0, st, hf, _, _, _ => by omega
  | n + 1, v, fuel + 1, st, hf, hb, hlo, hhi => by
    obtain ⟨r, e⟩ := cond_ok k m rs s v [some (telD m rs), some (sD s), x, some (.int v)] 3 st rfl rfl rfl hl (hb v (by omega) (by omega))
    rw [hlo v (by omega) (by omega)] at e
    have ez : v - 1 - (n : Int) = v - ((n + 1 : Nat) : Int) := by omega
    obtain ⟨r2, e2⟩ := wh_down k m rs s hl x n (v - 1) fuel (st ++ r) (by omega) (fun u h1 h2 => hb u (by omega) (by omega)) (fun u h1 h2 => hlo u (by omega) (by omega)) (by rw [ez]; exact hhi)
    rw [ez] at e2
    refine ⟨r ++ r2, ?_⟩
    have hbody : Mn.exec (callN (tab L) (k + 13)) (.cons (.asg (.name 3) (.bin .sub (.var 3) (.con (.int 1)))) .nil) [some (telD m rs), some (sD s), x, some (.int v)] (st ++ r) = .next [some (telD m rs), some (sD s), x, some (.int (v - 1))] (st ++ r) := rfl
    simp only [whLoop, e, Bool.not_false, hbody, e2, List.append_assoc]
/-- the least number, the greatest one up to the top -/
structure BdsOk (m : Int) (rs : List Rw) (s : List Int) (lo : Int) (hi : Option Int) : Prop where
  lo0 : 0 ≤ lo ∧ lo < 2000
  loT : bothB m rs s lo = true
  loF : ∀ u, 0 ≤ u → u < lo → bothB m rs s u = false
  loB : ∀ u, 0 ≤ u → u ≤ lo → BoOk m rs s u
  hi : match topB m rs s with
    | none => hi = none
    | some tp => ∃ h, hi = some h ∧ h ≤ tp ∧ tp - h < 2000 ∧ bothB m rs s h = true ∧ (∀ u, h < u → u ≤ tp → bothB m rs s u = false) ∧ ∀ u, h ≤ u → u ≤ tp → BoOk m rs s u
theorem bounds_ok (k : Nat) (st : Store) {m : Int} {rs : List Rw} {s : List Int} {lo : Int} {hi : Option Int} (t : Tel m rs) (hc : costM m rs ≤ maxLen) (hf : (llL m rs).isSome = true) (hs : SetOk m s) (b : BdsOk m rs s lo hi) :
    ∃ r, callN (tab L) (k + 14) i_bounds [telD m rs, sD s] st = .ok (.tup [.int lo, intO hi]) (st ++ r) := by
  rw [c_bounds]
  have hne := need_ok (k + 8) st t.hm t.hs t.hn t.ha t.hl
  have hns := needS_ok (k + 10) st (.tup (rs.map rowD)) hs
  obtain ⟨kvs, ell⟩ := ll_ok (k + 1) st m rs t.hm t.hs (fun r hr => by have := t.hn r hr; omega) t.hl hc
  have hnone : (optD (llL m rs)).isNon = false := by rw [optD_non]; cases h : llL m rs with
    | none => rw [h] at hf; cases hf
    | some _ => rfl
  obtain ⟨r1, e1⟩ := wh_up k m rs s t.hl none lo.toNat 0 whFuel (st ++ [.dct kvs]) (by have := b.lo0; unfold whFuel; omega) (fun u h1 h2 => b.loB u h1 (by have := b.lo0; omega)) (fun u h1 h2 => b.loF u h1 (by have := b.lo0; omega)) (by rw [show (0 : Int) + (lo.toNat : Nat) = lo by have := b.lo0; omega]; exact b.loT)
  rw [show (0 : Int) + (lo.toNat : Nat) = lo by have := b.lo0; omega] at e1
  have htop := top_ok (k + 8) (st ++ [.dct kvs] ++ r1) m rs s t.hm t.hs t.hl hs
  have s1 : Mn.exec (callN (tab L) (k + 13)) (.expr (.call i_need_telling (.cons (.var 0) .nil))) [some (telD m rs), some (sD s), none, none] st = .next [some (telD m rs), some (sD s), none, none] st := by
    show (match callN (tab L) (k + 13) i_need_telling [telD m rs] st with
      | .ok _ st1 => Out.next [some (telD m rs), some (sD s), none, none] st1
      | .exc c st1 => .exc c [some (telD m rs), some (sD s), none, none] st1
      | .err => .err) = _
    rw [show callN (tab L) (k + 13) i_need_telling [telD m rs] st = .ok .non st from hne]
  have s2 : Mn.exec (callN (tab L) (k + 13)) (.expr (.call i_need_sets (.cons (.var 0) (.cons (.var 1) .nil)))) [some (telD m rs), some (sD s), none, none] st = .next [some (telD m rs), some (sD s), none, none] st := by
    show (match callN (tab L) (k + 13) i_need_sets [telD m rs, sD s] st with
      | .ok _ st1 => Out.next [some (telD m rs), some (sD s), none, none] st1
      | .exc c st1 => .exc c [some (telD m rs), some (sD s), none, none] st1
      | .err => .err) = _
    rw [show callN (tab L) (k + 13) i_need_sets [telD m rs, sD s] st = .ok .non st from hns]
  have s3 : Mn.exec (callN (tab L) (k + 13)) (.ite (.isN (.call i_least_lots (.cons (.var 0) .nil))) (.cons (.raise x_Never) .nil) .nil) [some (telD m rs), some (sD s), none, none] st = .next [some (telD m rs), some (sD s), none, none] (st ++ [.dct kvs]) := by
    have : boolR (ev (callN (tab L) (k + 13)) (.isN (.call i_least_lots (.cons (.var 0) .nil))) [some (telD m rs), some (sD s), none, none] st) = .ok false (st ++ [.dct kvs]) := by
      show boolR ((callN (tab L) (k + 13) i_least_lots [telD m rs] st).bind fun x st1 => .ok (.bl x.isNon) st1) = _
      rw [show callN (tab L) (k + 13) i_least_lots [telD m rs] st = .ok (optD (llL m rs)) (st ++ [.dct kvs]) from ell, bind_ok, hnone]
      rfl
    rw [ex_ite, this]
    rfl
  have s4 : Mn.exec (callN (tab L) (k + 13)) (.asg (.name 2) (.con (.int 0))) [some (telD m rs), some (sD s), none, none] (st ++ [.dct kvs]) = .next [some (telD m rs), some (sD s), some (.int 0), none] (st ++ [.dct kvs]) := rfl
  have s6 : Mn.exec (callN (tab L) (k + 13)) (.asg (.name 3) (.call i_top_of (.cons (.var 0) (.cons (.var 1) .nil)))) [some (telD m rs), some (sD s), some (.int lo), none] (st ++ [.dct kvs] ++ r1) = .next [some (telD m rs), some (sD s), some (.int lo), some (intO (topB m rs s))] (st ++ [.dct kvs] ++ r1) := by
    show (match callN (tab L) (k + 13) i_top_of [telD m rs, sD s] (st ++ [.dct kvs] ++ r1) with
      | .ok d st1 => (match asgT (.name 3) d [some (telD m rs), some (sD s), some (.int lo), none] with
        | some env' => Out.next env' st1
        | none => .err)
      | .exc c st1 => .exc c [some (telD m rs), some (sD s), some (.int lo), none] st1
      | .err => .err) = _
    rw [show callN (tab L) (k + 13) i_top_of [telD m rs, sD s] (st ++ [.dct kvs] ++ r1) = .ok (intO (topB m rs s)) (st ++ [.dct kvs] ++ r1) from htop]
    rfl
  have hhi := b.hi
  have pre : ∀ rest : S, Mn.exec (callN (tab L) (k + 13)) (.cons (.expr (.call i_need_telling (.cons (.var 0) .nil))) (.cons (.expr (.call i_need_sets (.cons (.var 0) (.cons (.var 1) .nil)))) (.cons (.ite (.isN (.call i_least_lots (.cons (.var 0) .nil))) (.cons (.raise x_Never) .nil) .nil) (.cons (.asg (.name 2) (.con (.int 0))) (.cons (.while_ (.not (.call i_both_rows (.cons (.var 0) (.cons (.var 1) (.cons (.var 2) .nil))))) (.cons (.asg (.name 2) (.bin .add (.var 2) (.con (.int 1)))) .nil)) (.cons (.asg (.name 3) (.call i_top_of (.cons (.var 0) (.cons (.var 1) .nil)))) rest)))))) [some (telD m rs), some (sD s), none, none] st = Mn.exec (callN (tab L) (k + 13)) rest [some (telD m rs), some (sD s), some (.int lo), some (intO (topB m rs s))] (st ++ [.dct kvs] ++ r1) := by
    intro rest
    rw [ex_cons, s1]; dsimp only
    rw [ex_cons, s2]; dsimp only
    rw [ex_cons, s3]; dsimp only
    rw [ex_cons, s4]; dsimp only
    rw [ex_cons, ex_while, e1]; dsimp only
    rw [ex_cons, s6]
  have m2 : ([Mn.D.int lo, intO hi] : List Mn.D).length ≤ maxLen := by show 2 ≤ maxLen; unfold maxLen; omega
  cases htb : topB m rs s with
  | none =>
    rw [htb] at hhi
    have hhi : hi = none := hhi
    subst hhi
    refine ⟨[.dct kvs] ++ r1, ?_⟩
    show outR (Mn.exec (callN (tab L) (k + 13)) b_bounds [some (telD m rs), some (sD s), none, none] st) = _
    unfold b_bounds
    rw [pre, htb, ex_cons, ex_ite]
    have hc1 : boolR (ev (callN (tab L) (k + 13)) (.isN (.var 3)) [some (telD m rs), some (sD s), some (.int lo), some (intO none)] (st ++ [.dct kvs] ++ r1)) = .ok true (st ++ [.dct kvs] ++ r1) := rfl
    rw [hc1]; dsimp only
    rw [ex_cons, ex_ret, ev_tup]
    have hev : evs (callN (tab L) (k + 13)) (.cons (.var 2) (.cons (.con .non) .nil)) [some (telD m rs), some (sD s), some (.int lo), some (intO none)] (st ++ [.dct kvs] ++ r1) = .ok [.int lo, intO none] (st ++ [.dct kvs] ++ r1) := rfl
    rw [hev, bind_ok, ndT _ _ m2, prim_ok, List.append_assoc]
    rfl
  | some tp =>
    rw [htb] at hhi
    obtain ⟨h, rfl, h1, h2, h3, h4, h5⟩ := hhi
    obtain ⟨r2, e2⟩ := wh_down k m rs s t.hl (some (.int lo)) (tp - h).toNat tp whFuel (st ++ [.dct kvs] ++ r1) (by unfold whFuel; omega) (fun u g1 g2 => h5 u (by omega) g1) (fun u g1 g2 => h4 u (by omega) g1) (by rw [show tp - ((tp - h).toNat : Nat) = h by omega]; exact h3)
    rw [show tp - ((tp - h).toNat : Nat) = h by omega] at e2
    refine ⟨[.dct kvs] ++ (r1 ++ r2), ?_⟩
    show outR (Mn.exec (callN (tab L) (k + 13)) b_bounds [some (telD m rs), some (sD s), none, none] st) = _
    unfold b_bounds
    rw [pre, htb, ex_cons, ex_ite]
    have hc1 : boolR (ev (callN (tab L) (k + 13)) (.isN (.var 3)) [some (telD m rs), some (sD s), some (.int lo), some (intO (some tp))] (st ++ [.dct kvs] ++ r1)) = .ok false (st ++ [.dct kvs] ++ r1) := rfl
    rw [hc1]; dsimp only
    rw [ex_nil]; dsimp only
    have e2' : whLoop (evB (callN (tab L) (k + 13)) (.not (.call i_both_rows (.cons (.var 0) (.cons (.var 1) (.cons (.var 3) .nil)))))) (Mn.exec (callN (tab L) (k + 13)) (.cons (.asg (.name 3) (.bin .sub (.var 3) (.con (.int 1)))) .nil)) whFuel [some (telD m rs), some (sD s), some (.int lo), some (intO (some tp))] (st ++ [.dct kvs] ++ r1) = .next [some (telD m rs), some (sD s), some (.int lo), some (.int h)] (st ++ [.dct kvs] ++ r1 ++ r2) := e2
    rw [ex_cons, ex_while, e2']; dsimp only
    rw [ex_cons, ex_ret, ev_tup]
    have hev : evs (callN (tab L) (k + 13)) (.cons (.var 2) (.cons (.var 3) .nil)) [some (telD m rs), some (sD s), some (.int lo), some (.int h)] (st ++ [.dct kvs] ++ r1 ++ r2) = .ok [.int lo, intO (some h)] (st ++ [.dct kvs] ++ r1 ++ r2) := rfl
    rw [hev, bind_ok, ndT _ _ m2, prim_ok, List.append_assoc, List.append_assoc]
    rfl
end Pg

set_option Elab.async false
set_option linter.all false
set_option maxRecDepth 100000
set_option maxHeartbeats 8000000
/-! Pu10: when there are lots; what the search costs. -/
namespace Pg
open Mn
/-- the sum of x over the places p .. p + n - 1 of c -/
def tot (x : Int → Int) (c : List Int) : Nat → Int → Int
  | 0, _ => 0
  | n + 1, p => (if p ∈ c then x p else 0) + tot x c n (p + 1)
theorem tot_pos {x : Int → Int} (h : ∀ q, 0 ≤ x q) (c : List Int) : ∀ (n : Nat) (p : Int), 0 ≤ tot x c n p
  | 0, _ => Int.le_refl 0
  | n + 1, p => by
    have := tot_pos h c n (p + 1)
    have := h p
    unfold tot
    split <;> omega
theorem tot_congr {x y : Int → Int} {c : List Int} : ∀ (n : Nat) (p : Int), (∀ q, p ≤ q → x q = y q) → tot x c n p = tot y c n p
  | 0, _, _ => rfl
  | n + 1, p, h => by
    unfold tot
    rw [h p (Int.le_refl p), tot_congr n (p + 1) fun q hq => h q (by omega)]
def Solv (cs : List (List Int)) (n : Nat) (p : Int) (left : List Int) : Prop := ∃ x : Int → Int, (∀ q, 0 ≤ x q) ∧ ∀ (i : Nat) c l, cs[i]? = some c → left[i]? = some l → tot x c n p = l
theorem findL_some {f : Int → Option (List Int)} : ∀ (c : Nat) (v : Int), (findL f c v).isSome = true ↔ ∃ w, v ≤ w ∧ w < v + c ∧ (f w).isSome = true
  | 0, v => by
    constructor
    · intro h; cases h
    · rintro ⟨w, h1, h2, _⟩; omega
  | c + 1, v => by
    unfold findL
    cases hv : f v with
    | some r =>
      constructor
      · intro _; exact ⟨v, Int.le_refl v, by omega, by rw [hv]; rfl⟩
      · intro _; rfl
    | none =>
      show (findL f c (v + 1)).isSome = true ↔ _
      rw [findL_some c (v + 1)]
      constructor
      · rintro ⟨w, h1, h2, h3⟩; exact ⟨w, by omega, by omega, h3⟩
      · rintro ⟨w, h1, h2, h3⟩
        refine ⟨w, ?_, by omega, h3⟩
        by_cases h : w = v
        · subst h; rw [hv] at h3; cases h3
        · omega
theorem goL_inv {cs : List (List Int)} {left : List Int} {p v : Int} {i : Nat} {c : List Int} {l' : Int} (hl : left.length = cs.length) (h2 : cs[i]? = some c) (h : (goL cs left p v)[i]? = some l') : ∃ l, left[i]? = some l ∧ l' = l - v * (if p ∈ c then 1 else 0) := by
  have hi := (List.getElem?_eq_some_iff.mp h2).1
  have e : left[i]? = some (left[i]'(by omega)) := List.getElem?_eq_getElem _
  refine ⟨_, e, ?_⟩
  rw [goL_get e h2] at h
  exact (Option.some.inj h).symm
theorem ffL_some {cs : List (List Int)} : ∀ (n : Nat) (p : Int) (left : List Int), left.length = cs.length → ((ffL cs n p left).isSome = true ↔ Solv cs n p left)
  | 0, p, left, hl => by
    unfold ffL
    constructor
    · intro h
      split at h
      · rename_i ha
        refine ⟨fun _ => 0, fun _ => Int.le_refl 0, fun i c l h1 h2 => ?_⟩
        have := of_decide_eq_true (List.all_eq_true.mp ha l (List.mem_of_getElem? h2))
        rw [this]; rfl
      · cases h
    · rintro ⟨x, hx, h⟩
      have ha : (left.all fun l => decide (l = 0)) = true := by
        rw [List.all_eq_true]
        intro l hm
        obtain ⟨i, hi⟩ := List.getElem?_of_mem hm
        have hil := (List.getElem?_eq_some_iff.mp hi).1
        have := h i (cs[i]'(by omega)) l (List.getElem?_eq_getElem _) hi
        have e : (0 : Int) = l := this
        simp [← e]
      rw [if_pos ha]
      rfl
  | n + 1, p, left, hl => by
    show (findL _ _ _).isSome = true ↔ _
    rw [findL_some]
    have hgl : ∀ v, (goL cs left p v).length = cs.length := fun v => goL_len p v hl
    constructor
    · rintro ⟨v, h1, h2, h3⟩
      obtain ⟨x, hx, h⟩ := (ffL_some n (p + 1) _ (hgl v)).mp h3
      refine ⟨fun q => if q = p then v else x q, fun q => by dsimp only; split; exact h1; exact hx q, fun i c l hc hl' => ?_⟩
      have hg := h i c _ hc (goL_get hl' hc)
      have ht : tot (fun q => if q = p then v else x q) c n (p + 1) = tot x c n (p + 1) := tot_congr n (p + 1) fun q hq => by
        rw [if_neg (by omega)]
      unfold tot
      rw [ht, hg]
      by_cases hp : p ∈ c
      · simp [hp]; omega
      · simp [hp]
    · rintro ⟨x, hx, h⟩
      by_cases hany : ∃ (i : Nat) (c : List Int), cs[i]? = some c ∧ p ∈ c
      · refine ⟨x p, hx p, ?_, (ffL_some n (p + 1) _ (hgl (x p))).mpr ⟨x, hx, fun i c l' hc hl' => ?_⟩⟩
        · obtain ⟨i0, c0, hi0, hp0⟩ := hany
          have hi0l := (List.getElem?_eq_some_iff.mp hi0).1
          have key : ∀ z ∈ mostL cs left p, x p ≤ z := by
            intro z hz
            unfold mostL at hz
            obtain ⟨q, hq, rfl⟩ := List.mem_map.mp hz
            obtain ⟨hq1, hq2⟩ := List.mem_filter.mp hq
            obtain ⟨i, hi⟩ := List.getElem?_of_mem hq1
            rw [List.getElem?_zip_eq_some] at hi
            have := h i q.1 q.2 hi.1 hi.2
            unfold tot at this
            rw [if_pos (of_decide_eq_true hq2)] at this
            have := tot_pos hx q.1 n (p + 1)
            omega
          have hne : mostL cs left p ≠ [] := by
            intro e
            have hm : (left[i0]'(by omega)) ∈ mostL cs left p := by
              unfold mostL
              refine List.mem_map.mpr ⟨(c0, left[i0]'(by omega)), List.mem_filter.mpr ⟨List.mem_of_getElem? (i := i0) (by rw [List.getElem?_zip_eq_some]; exact ⟨hi0, List.getElem?_eq_getElem _⟩), by simpa using hp0⟩, rfl⟩
            rw [e] at hm
            simp at hm
          have ht : x p ≤ topI cs left p := by
            unfold topI
            cases hm : mostL cs left p with
            | nil => exact absurd hm hne
            | cons a l =>
              show x p ≤ minI a l
              exact key _ (by rw [hm]; exact minI_mem a l)
          have := hx p
          omega
        · obtain ⟨l, e1, e2⟩ := goL_inv hl hc hl'
          have := h i c l hc e1
          unfold tot at this
          rw [e2]
          by_cases hp : p ∈ c
          · rw [if_pos hp] at this ⊢; omega
          · rw [if_neg hp] at this ⊢; omega
      · have hno : ∀ (i : Nat) (c : List Int), cs[i]? = some c → p ∉ c := fun i c hc hp => hany ⟨i, c, hc, hp⟩
        refine ⟨0, Int.le_refl 0, ?_, (ffL_some n (p + 1) _ (hgl 0)).mpr ⟨x, hx, fun i c l' hc hl' => ?_⟩⟩
        · have hm : mostL cs left p = [] := by
            unfold mostL
            rw [List.map_eq_nil_iff, List.filter_eq_nil_iff]
            intro q hq
            obtain ⟨i, hi⟩ := List.getElem?_of_mem hq
            rw [List.getElem?_zip_eq_some] at hi
            simpa using hno i q.1 hi.1
          unfold topI
          rw [hm]
          simp
        · obtain ⟨l, e1, e2⟩ := goL_inv hl hc hl'
          have := h i c l hc e1
          unfold tot at this
          rw [if_neg (hno i c hc)] at this
          rw [e2]
          omega
/-- there are lots that fit -/
def Sat (m : Int) (rs : List Rw) : Prop := ∃ x : Int → Int, (∀ q, 0 ≤ x q) ∧ ∀ r ∈ rs, tot x (cols m r.1) (regs m).length 0 = r.2
theorem llL_sat (m : Int) (rs : List Rw) : (llL m rs).isSome = true ↔ Sat m rs := by
  unfold llL
  rw [ffL_some _ _ _ (by simp [csM, nums])]
  constructor
  · rintro ⟨x, hx, h⟩
    refine ⟨x, hx, fun r hr => ?_⟩
    obtain ⟨i, hi⟩ := List.getElem?_of_mem hr
    exact h i _ _ (by unfold csM; rw [List.getElem?_map, hi]; rfl) (by unfold nums; rw [List.getElem?_map, hi]; rfl)
  · rintro ⟨x, hx, h⟩
    refine ⟨x, hx, fun i c l hc hl => ?_⟩
    unfold csM at hc
    unfold nums at hl
    rw [List.getElem?_map] at hc hl
    cases hr : rs[i]? with
    | none => rw [hr] at hc; cases hc
    | some r =>
      rw [hr] at hc hl
      cases hc; cases hl
      exact h r (List.mem_of_getElem? hr)
theorem bothB_sat {m : Int} {rs : List Rw} {s : List Int} {v : Int} (h : (rs.find? fun r => decide (r.1 = s)) = none) : bothB m rs s v = true ↔ ∃ x : Int → Int, (∀ q, 0 ≤ x q) ∧ (∀ r ∈ rs, tot x (cols m r.1) (regs m).length 0 = r.2) ∧ tot x (cols m s) (regs m).length 0 = v := by
  unfold bothB
  rw [h]
  show (llL m (withR rs s v)).isSome = true ↔ _
  rw [llL_sat]
  have hne : ∀ r ∈ rs, r.1 ≠ s := fun r hr e => by
    have := List.find?_eq_none.mp h r hr
    simp [e] at this
  constructor
  · rintro ⟨x, hx, hh⟩
    exact ⟨x, hx, fun r hr => hh r (withR_mem.mpr (.inl ⟨hr, hne r hr⟩)), hh (s, v) (withR_mem.mpr (.inr rfl))⟩
  · rintro ⟨x, hx, h1, h2⟩
    refine ⟨x, hx, fun r hr => ?_⟩
    rcases withR_mem.mp hr with ⟨h3, _⟩ | rfl
    · exact h1 r h3
    · exact h2
/-! ### cost -/
def costB (B : Int → Nat) : Nat → Int → Nat
  | 0, _ => 0
  | n + 1, p => 1 + (B p + 1) * costB B n (p + 1)
theorem sumF_le {f : Int → Nat} {b : Nat} : ∀ (c : Nat) (v : Int), (∀ w, v ≤ w → w < v + c → f w ≤ b) → sumF f c v ≤ c * b
  | 0, _, _ => by simp [sumF]
  | c + 1, v, h => by
    have h1 := h v (Int.le_refl v) (by omega)
    have h2 := sumF_le c (v + 1) fun w hw1 hw2 => h w (by omega) (by omega)
    unfold sumF
    rw [Nat.succ_mul]
    omega
/-- each place lies in no row, or in one with at most B left -/
def Caps (cs : List (List Int)) (left : List Int) (B : Int → Nat) : Prop := ∀ q, (∀ c ∈ cs, q ∉ c) ∨ ∃ (i : Nat) (c : List Int) (l : Int), cs[i]? = some c ∧ q ∈ c ∧ left[i]? = some l ∧ l ≤ B q
theorem cost_le {cs : List (List Int)} {B : Int → Nat} : ∀ (n : Nat) (p : Int) (left : List Int), Caps cs left B → costL cs n p left ≤ costB B n p
  | 0, _, _, _ => Nat.le_refl _
  | n + 1, p, left, h => by
    have ht : topI cs left p ≤ B p := by
      unfold topI
      rcases h p with h1 | ⟨i, c, l, h1, h2, h3, h4⟩
      · have hm : mostL cs left p = [] := by
          unfold mostL
          rw [List.map_eq_nil_iff, List.filter_eq_nil_iff]
          intro q hq
          have := h1 q.1 (List.of_mem_zip hq).1
          simpa using this
        rw [hm]
        exact Int.natCast_nonneg _
      · have hm : l ∈ mostL cs left p := by
          unfold mostL
          exact List.mem_map.mpr ⟨(c, l), List.mem_filter.mpr ⟨List.mem_of_getElem? (i := i) (by rw [List.getElem?_zip_eq_some]; exact ⟨h1, h3⟩), by simpa using h2⟩, rfl⟩
        cases hml : mostL cs left p with
        | nil => rw [hml] at hm; simp at hm
        | cons a r =>
          rw [hml] at hm
          show minI a r ≤ _
          have := (minI_le a r).2 l hm
          omega
    have hs : sumF (fun v => costL cs n (p + 1) (goL cs left p v)) (topI cs left p + 1).toNat 0 ≤ (topI cs left p + 1).toNat * costB B n (p + 1) := by
      refine sumF_le _ _ fun w hw1 hw2 => cost_le n (p + 1) _ fun q => ?_
      rcases h q with h1 | ⟨i, c, l, h1, h2, h3, h4⟩
      · exact .inl h1
      · refine .inr ⟨i, c, _, h1, h2, goL_get h3 h1, ?_⟩
        have : 0 ≤ w * (if p ∈ c then 1 else 0) := by split <;> omega
        omega
    have hb : (topI cs left p + 1).toNat * costB B n (p + 1) ≤ (B p + 1) * costB B n (p + 1) := Nat.mul_le_mul_right _ (by omega)
    unfold costL costB
    omega
end Pg

set_option Elab.async false
set_option linter.all false
set_option maxRecDepth 100000
set_option maxHeartbeats 8000000
/-! Pu11: sums over columns, place by place. -/
namespace Pg
open Mn
theorem cols_1_e : cols 1 [] = [0, 1] := by decide
theorem tot_1_e (x : Int → Int) : tot x (cols 1 []) (regs 1).length 0 = x 0 + x 1 := by
  rw [cols_1_e]
  simp [tot, regs]
  try omega
theorem cols_1_0 : cols 1 [0] = [1] := by decide
theorem tot_1_0 (x : Int → Int) : tot x (cols 1 [0]) (regs 1).length 0 = x 1 := by
  rw [cols_1_0]
  simp [tot, regs]
  try omega
theorem cols_2_e : cols 2 [] = [0, 1, 2, 3] := by decide
theorem tot_2_e (x : Int → Int) : tot x (cols 2 []) (regs 2).length 0 = x 0 + x 1 + x 2 + x 3 := by
  rw [cols_2_e]
  simp [tot, regs]
  try omega
theorem cols_2_0 : cols 2 [0] = [1, 2] := by decide
theorem tot_2_0 (x : Int → Int) : tot x (cols 2 [0]) (regs 2).length 0 = x 1 + x 2 := by
  rw [cols_2_0]
  simp [tot, regs]
  try omega
theorem cols_2_01 : cols 2 [0, 1] = [2] := by decide
theorem tot_2_01 (x : Int → Int) : tot x (cols 2 [0, 1]) (regs 2).length 0 = x 2 := by
  rw [cols_2_01]
  simp [tot, regs]
  try omega
theorem cols_2_1 : cols 2 [1] = [2, 3] := by decide
theorem tot_2_1 (x : Int → Int) : tot x (cols 2 [1]) (regs 2).length 0 = x 2 + x 3 := by
  rw [cols_2_1]
  simp [tot, regs]
  try omega
theorem cols_3_e : cols 3 [] = [0, 1, 2, 3, 4, 5, 6, 7] := by decide
theorem tot_3_e (x : Int → Int) : tot x (cols 3 []) (regs 3).length 0 = x 0 + x 1 + x 2 + x 3 + x 4 + x 5 + x 6 + x 7 := by
  rw [cols_3_e]
  simp [tot, regs]
  try omega
theorem cols_3_0 : cols 3 [0] = [1, 2, 3, 4] := by decide
theorem tot_3_0 (x : Int → Int) : tot x (cols 3 [0]) (regs 3).length 0 = x 1 + x 2 + x 3 + x 4 := by
  rw [cols_3_0]
  simp [tot, regs]
  try omega
theorem cols_3_01 : cols 3 [0, 1] = [2, 3] := by decide
theorem tot_3_01 (x : Int → Int) : tot x (cols 3 [0, 1]) (regs 3).length 0 = x 2 + x 3 := by
  rw [cols_3_01]
  simp [tot, regs]
  try omega
theorem cols_3_012 : cols 3 [0, 1, 2] = [3] := by decide
theorem tot_3_012 (x : Int → Int) : tot x (cols 3 [0, 1, 2]) (regs 3).length 0 = x 3 := by
  rw [cols_3_012]
  simp [tot, regs]
  try omega
theorem cols_3_02 : cols 3 [0, 2] = [3, 4] := by decide
theorem tot_3_02 (x : Int → Int) : tot x (cols 3 [0, 2]) (regs 3).length 0 = x 3 + x 4 := by
  rw [cols_3_02]
  simp [tot, regs]
  try omega
theorem cols_3_1 : cols 3 [1] = [2, 3, 5, 6] := by decide
theorem tot_3_1 (x : Int → Int) : tot x (cols 3 [1]) (regs 3).length 0 = x 2 + x 3 + x 5 + x 6 := by
  rw [cols_3_1]
  simp [tot, regs]
  try omega
theorem cols_3_12 : cols 3 [1, 2] = [3, 6] := by decide
theorem tot_3_12 (x : Int → Int) : tot x (cols 3 [1, 2]) (regs 3).length 0 = x 3 + x 6 := by
  rw [cols_3_12]
  simp [tot, regs]
  try omega
theorem cols_3_2 : cols 3 [2] = [3, 4, 6, 7] := by decide
theorem tot_3_2 (x : Int → Int) : tot x (cols 3 [2]) (regs 3).length 0 = x 3 + x 4 + x 6 + x 7 := by
  rw [cols_3_2]
  simp [tot, regs]
  try omega
end Pg

set_option Elab.async false
set_option linter.all false
set_option maxRecDepth 100000
set_option maxHeartbeats 8000000
/-! Pu12: helpers for tellings that are written out. -/
namespace Pg
open Mn
def fx (l : List Int) (q : Int) : Int := if q < 0 then 0 else (l[q.toNat]?).getD 0
theorem fx_pos {l : List Int} (h : ∀ z ∈ l, 0 ≤ z) (q : Int) : 0 ≤ fx l q := by
  unfold fx
  split
  · exact Int.le_refl 0
  · cases hg : l[q.toNat]? with
    | none => exact Int.le_refl 0
    | some z => exact h z (List.mem_of_getElem? hg)
def ascB : List Rw → Bool
  | a :: b :: r => lts (iD a.1) (iD b.1) && ascB (b :: r)
  | _ => true
theorem asc_of : ∀ {rs : List Rw}, ascB rs = true → Asc rs
  | [], _ => fun i a b h => by simp at h
  | [x], _ => fun i a b h1 h2 => by simp at h2
  | x :: y :: r, h => fun i a b h1 h2 => by
    have h : (lts (iD x.1) (iD y.1) && ascB (y :: r)) = true := h
    obtain ⟨g1, g2⟩ := Bool.and_eq_true_iff.mp h
    cases i with
    | zero => simp at h1 h2; subst h1; subst h2; exact g1
    | succ i => exact asc_of g2 i a b (by simpa using h1) (by simpa using h2)
theorem caps_of {m : Int} {rs : List Rw} {B : Int → Nat} (h : ∀ q, (∀ r ∈ rs, q ∉ cols m r.1) ∨ ∃ r ∈ rs, q ∈ cols m r.1 ∧ r.2 ≤ B q) : Caps (csM m rs) (nums rs) B := by
  intro q
  rcases h q with h | ⟨r, hr, h1, h2⟩
  · refine .inl fun c hc => ?_
    obtain ⟨r, hr, rfl⟩ := List.mem_map.mp hc
    exact h r hr
  · obtain ⟨i, hi⟩ := List.getElem?_of_mem hr
    exact .inr ⟨i, _, _, by unfold csM; rw [List.getElem?_map, hi]; rfl, h1, by unfold nums; rw [List.getElem?_map, hi]; rfl, h2⟩
theorem costM_le {m : Int} {rs : List Rw} {B : Int → Nat} (h : ∀ q, (∀ r ∈ rs, q ∉ cols m r.1) ∨ ∃ r ∈ rs, q ∈ cols m r.1 ∧ r.2 ≤ B q) : costM m rs ≤ costB B (regs m).length 0 := cost_le _ _ _ (caps_of h)
theorem costB9 {m : Int} (h : 1 ≤ m ∧ m ≤ 3) : costB (fun _ => 9) (regs m).length 0 ≤ maxLen := by
  have : m = 1 ∨ m = 2 ∨ m = 3 := by omega
  rcases this with rfl | rfl | rfl <;> (unfold maxLen; decide)
theorem costB99 {m : Int} (h : 1 ≤ m ∧ m ≤ 2) : costB (fun _ => 99) (regs m).length 0 ≤ maxLen := by
  have : m = 1 ∨ m = 2 := by omega
  rcases this with rfl | rfl <;> (unfold maxLen; decide)
theorem cost9 {m : Int} {rs : List Rw} (hm : 1 ≤ m ∧ m ≤ 3) (hn : ∀ r ∈ rs, 0 ≤ r.2 ∧ r.2 ≤ 9) : costM m rs ≤ maxLen := by
  refine Nat.le_trans (costM_le (B := fun _ => 9) fun q => ?_) (costB9 hm)
  by_cases h : ∃ r ∈ rs, q ∈ cols m r.1
  · obtain ⟨r, hr, h1⟩ := h
    exact .inr ⟨r, hr, h1, (hn r hr).2⟩
  · exact .inl fun r hr hq => h ⟨r, hr, hq⟩
theorem withR_len (rs : List Rw) (s : List Int) (u : Int) : (withR rs s u).length ≤ rs.length + 1 := by
  unfold withR
  rw [isortW_len, List.length_append]
  have := List.length_filter_le (fun r : Rw => decide (r.1 ≠ s)) rs
  simp at this ⊢
  exact this
theorem ll_with {m : Int} {rs : List Rw} {s : List Int} {u : Int} (b : Nat) (hb : 9 ≤ b) (hB : costB (fun _ => b) (regs m).length 0 ≤ maxLen) (t : Tel m rs) (hl : rs.length ≤ 900) (hs : SetOk m s) (hu : 0 ≤ u ∧ u < 1000) (hcap : ∀ q ∈ cols m s, (∃ r ∈ rs, r.1 ≠ s ∧ q ∈ cols m r.1) ∨ u ≤ b) : LlOk m (withR rs s u) := by
  refine ⟨t.hm, fun r hr => ?_, fun r hr => ?_, ?_, ?_⟩
  · rcases withR_mem.mp hr with ⟨h, _⟩ | rfl
    · exact t.hs r h
    · exact hs
  · rcases withR_mem.mp hr with ⟨h, _⟩ | rfl
    · have := t.hn r h; omega
    · exact hu
  · have := withR_len rs s u
    omega
  · refine Nat.le_trans (costM_le (B := fun _ => b) fun q => ?_) hB
    by_cases h : ∃ r ∈ rs, r.1 ≠ s ∧ q ∈ cols m r.1
    · obtain ⟨r, hr, h0, h1⟩ := h
      have := (t.hn r hr).2
      exact .inr ⟨r, withR_mem.mpr (.inl ⟨hr, h0⟩), h1, by omega⟩
    · by_cases hq : q ∈ cols m s
      · rcases hcap q hq with h' | h'
        · exact absurd h' h
        · exact .inr ⟨(s, u), withR_mem.mpr (.inr rfl), hq, h'⟩
      · refine .inl fun r hr hqr => ?_
        rcases withR_mem.mp hr with ⟨h1, h2⟩ | rfl
        · exact h ⟨r, h1, h2, hqr⟩
        · exact hq hqr
theorem iff_false {b : Bool} {P : Prop} (h : b = true ↔ P) (n : ¬ P) : b = false := by
  cases b with
  | false => rfl
  | true => exact absurd (h.mp rfl) n
end Pg

set_option Elab.async false
set_option linter.all false
set_option maxRecDepth 100000
set_option maxHeartbeats 8000000
/-! Bd: the bounds of a count, by solutions. -/
namespace Pg
open Mn
def cnt (m : Int) (s : List Int) (x : Int → Int) : Int := tot x (cols m s) (regs m).length 0
def Sol (m : Int) (rs : List Rw) (x : Int → Int) : Prop := (∀ q, 0 ≤ x q) ∧ ∀ r ∈ rs, cnt m r.1 x = r.2
theorem sat_sol {m : Int} {rs : List Rw} : Sat m rs ↔ ∃ x, Sol m rs x := Iff.rfl
theorem cnt_pos {m : Int} {s : List Int} {x : Int → Int} (h : ∀ q, 0 ≤ x q) : 0 ≤ cnt m s x := tot_pos h _ _ _
theorem both_iff {m : Int} {rs : List Rw} {s : List Int} {v : Int} (h : Sat m rs) : bothB m rs s v = true ↔ ∃ x, Sol m rs x ∧ cnt m s x = v := by
  cases hf : rs.find? fun r => decide (r.1 = s) with
  | none =>
    rw [bothB_sat hf]
    exact ⟨fun ⟨x, h1, h2, h3⟩ => ⟨x, ⟨h1, h2⟩, h3⟩, fun ⟨x, ⟨h1, h2⟩, h3⟩ => ⟨x, h1, h2, h3⟩⟩
  | some r =>
    have hm := List.mem_of_find?_eq_some hf
    have he : r.1 = s := by simpa using List.find?_some hf
    have eb : bothB m rs s v = decide (r.2 = v) := by unfold bothB; rw [hf]
    rw [eb, decide_eq_true_eq]
    constructor
    · intro hv
      obtain ⟨x, hx⟩ := h
      exact ⟨x, hx, by rw [← he, ← hv]; exact hx.2 r hm⟩
    · rintro ⟨x, hx, hv⟩
      rw [← hv, ← he]
      exact (hx.2 r hm).symm
theorem tot_ge {x : Int → Int} (h : ∀ q, 0 ≤ x q) {c : List Int} {q : Int} (hq : q ∈ c) : ∀ (n : Nat) (p : Int), p ≤ q → q < p + n → x q ≤ tot x c n p
  | 0, p, h1, h2 => by omega
  | n + 1, p, h1, h2 => by
    have h0 := tot_pos h c n (p + 1)
    unfold tot
    by_cases e : p = q
    · subst e; rw [if_pos hq]; omega
    · have := tot_ge h hq n (p + 1) (by omega) (by omega)
      have := h p
      split <;> omega
theorem sum_add {α : Type} (f g : α → Int) (l : List α) : (l.map fun d => f d + g d).sum = (l.map f).sum + (l.map g).sum := by
  induction l with
  | nil => rfl
  | cons a l ih => simp only [List.map_cons, List.sum_cons, ih]; omega
theorem sum_nn {α : Type} (f : α → Int) (h : ∀ a, 0 ≤ f a) (l : List α) : 0 ≤ (l.map f).sum := by
  induction l with
  | nil => exact Int.le_refl 0
  | cons a l ih => simp only [List.map_cons, List.sum_cons]; have := h a; omega
theorem sum_one {α : Type} (f : α → Int) (h : ∀ a, 0 ≤ f a) {l : List α} {d : α} (hd : d ∈ l) : f d ≤ (l.map f).sum := by
  induction l with
  | nil => cases hd
  | cons a l ih =>
    simp only [List.map_cons, List.sum_cons]
    have h0 := sum_nn f h l
    have h1 := h a
    rcases List.mem_cons.mp hd with rfl | hd
    · omega
    · have := ih hd
      omega
/-- what is counted at each place is counted by some list -/
theorem tot_sum {x : Int → Int} (h : ∀ q, 0 ≤ x q) {c : List Int} (cs : List (List Int)) : ∀ (n : Nat) (p : Int), (∀ q ∈ c, p ≤ q → q < p + n → ∃ d ∈ cs, q ∈ d) → tot x c n p ≤ (cs.map fun d => tot x d n p).sum
  | 0, p, _ => sum_nn _ (fun d => Int.le_refl 0) cs
  | n + 1, p, hc => by
    have ih := tot_sum h cs n (p + 1) fun q hq h1 h2 => hc q hq (by omega) (by omega)
    have e := sum_add (fun d : List Int => if p ∈ d then x p else 0) (fun d => tot x d n (p + 1)) cs
    have hn : ∀ d : List Int, (0 : Int) ≤ if p ∈ d then x p else 0 := fun d => by
      have := h p
      split <;> omega
    show (if p ∈ c then x p else 0) + tot x c n (p + 1) ≤ (cs.map fun d => (if p ∈ d then x p else 0) + tot x d n (p + 1)).sum
    rw [e]
    have h0 := sum_nn _ hn cs
    by_cases hp : p ∈ c
    · rw [if_pos hp]
      obtain ⟨d, hd, hpd⟩ := hc p hp (by omega) (by omega)
      have := sum_one _ hn hd
      rw [if_pos hpd] at this
      omega
    · rw [if_neg hp]
      omega
theorem mem_rg : ∀ (n : Nat) (lo q : Int), q ∈ rgI lo n ↔ lo ≤ q ∧ q < lo + n
  | 0, lo, q => by simp only [rgI, List.not_mem_nil, false_iff]; omega
  | n + 1, lo, q => by
    simp only [rgI, List.mem_cons, mem_rg n (lo + 1) q]
    omega
theorem top_none {m : Int} {rs : List Rw} {s : List Int} : topB m rs s = none ↔ ∃ q ∈ cols m s, ∀ r ∈ rs, q ∉ cols m r.1 := by
  unfold topB
  have key : ((freeL m rs).any fun p => decide (p ∈ cols m s)) = true ↔ ∃ q ∈ cols m s, ∀ r ∈ rs, q ∉ cols m r.1 := by
    rw [List.any_eq_true]
    constructor
    · rintro ⟨q, hq, hc⟩
      refine ⟨q, of_decide_eq_true hc, fun r hr hqr => ?_⟩
      have := (List.mem_filter.mp hq).2
      simp only [isFree, Bool.not_eq_true'] at this
      have h2 : (rs.any fun r => decide (q ∈ cols m r.1)) = true := List.any_eq_true.mpr ⟨r, hr, decide_eq_true hqr⟩
      rw [this] at h2
      cases h2
    · rintro ⟨q, hq, hc⟩
      have hb := colsOf_ge s (regs m) 0 q hq
      refine ⟨q, List.mem_filter.mpr ⟨(mem_rg _ _ _).mpr (by omega), ?_⟩, decide_eq_true hq⟩
      simp only [isFree, Bool.not_eq_true']
      refine List.any_eq_false.mpr fun r hr => ?_
      simp [hc r hr]
  split
  · rename_i h
    exact ⟨fun _ => key.mp h, fun _ => rfl⟩
  · rename_i h
    exact ⟨fun z => (nomatch z), fun z => absurd (key.mpr z) h⟩
theorem top_some {m : Int} {rs : List Rw} {s : List Int} {tp : Int} (h : topB m rs s = some tp) : tp = (nums rs).sum ∧ ∀ q ∈ cols m s, ∃ r ∈ rs, q ∈ cols m r.1 := by
  refine ⟨?_, fun q hq => ?_⟩
  · unfold topB at h
    split at h
    · cases h
    · cases h; rfl
  · apply Classical.byContradiction
    intro hn
    have : topB m rs s = none := top_none.mpr ⟨q, hq, fun r hr hqr => hn ⟨r, hr, hqr⟩⟩
    rw [this] at h
    cases h
theorem sol_top {m : Int} {rs : List Rw} {s : List Int} {x : Int → Int} (hx : Sol m rs x) (hc : ∀ q ∈ cols m s, ∃ r ∈ rs, q ∈ cols m r.1) : cnt m s x ≤ (nums rs).sum := by
  have h1 := tot_sum hx.1 (c := cols m s) (rs.map fun r => cols m r.1) (regs m).length 0 fun q hq _ _ => by
    obtain ⟨r, hr, h⟩ := hc q hq
    exact ⟨_, List.mem_map.mpr ⟨r, hr, rfl⟩, h⟩
  refine Int.le_trans h1 ?_
  rw [List.map_map]
  have e : (rs.map ((fun d => tot x d (regs m).length 0) ∘ fun r => cols m r.1)) = nums rs := by
    unfold nums
    apply List.map_congr_left
    intro r hr
    exact hx.2 r hr
  rw [e]
  exact Int.le_refl _
theorem sum_le {l : List Int} {b : Int} (h : ∀ z ∈ l, z ≤ b) : l.sum ≤ l.length * b := by
  induction l with
  | nil => simp
  | cons a l ih =>
    have h1 := h a List.mem_cons_self
    have h2 := ih fun z hz => h z (List.mem_cons_of_mem _ hz)
    simp only [List.sum_cons, List.length_cons]
    have : ((l.length + 1 : Nat) : Int) * b = (l.length : Int) * b + b := by
      rw [Int.natCast_add, Int.add_mul]; simp
    omega
/-- the least, the greatest number of a plain property -/
theorem least_ex {P : Int → Prop} : ∀ (n : Nat), (∃ v : Int, 0 ≤ v ∧ v ≤ n ∧ P v) → ∃ v : Int, 0 ≤ v ∧ v ≤ n ∧ P v ∧ ∀ u : Int, 0 ≤ u → u < v → ¬ P u
  | 0, ⟨v, h1, h2, h3⟩ => ⟨v, h1, h2, h3, fun u g1 g2 => by omega⟩
  | n + 1, ⟨v, h1, h2, h3⟩ => by
    by_cases h : ∃ v : Int, 0 ≤ v ∧ v ≤ (n : Int) ∧ P v
    · obtain ⟨v, a, b, c, d⟩ := least_ex n h
      exact ⟨v, a, by omega, c, d⟩
    · exact ⟨v, h1, h2, h3, fun u g1 g2 hp => h ⟨u, g1, by omega, hp⟩⟩
theorem most_ex {P : Int → Prop} (t : Int) : ∀ (n : Nat), (∃ v, t - n ≤ v ∧ v ≤ t ∧ P v) → ∃ v, t - n ≤ v ∧ v ≤ t ∧ P v ∧ ∀ u, v < u → u ≤ t → ¬ P u
  | 0, ⟨v, h1, h2, h3⟩ => ⟨v, h1, h2, h3, fun u g1 g2 => by omega⟩
  | n + 1, ⟨v, h1, h2, h3⟩ => by
    by_cases h : ∃ v, t - (n : Nat) ≤ v ∧ v ≤ t ∧ P v
    · obtain ⟨v, a, b, c, d⟩ := most_ex t n h
      exact ⟨v, by omega, b, c, d⟩
    · exact ⟨v, h1, h2, h3, fun u g1 g2 hp => h ⟨u, by omega, g2, hp⟩⟩
structure BdsSem (m : Int) (rs : List Rw) (s : List Int) (lo : Int) (hi : Option Int) : Prop where
  lo1 : ∃ x, Sol m rs x ∧ cnt m s x = lo
  lo2 : ∀ x, Sol m rs x → lo ≤ cnt m s x
  hi0 : hi = none ↔ ∃ q ∈ cols m s, ∀ r ∈ rs, q ∉ cols m r.1
  hi1 : ∀ h, hi = some h → ∃ x, Sol m rs x ∧ cnt m s x = h
  hi2 : ∀ h, hi = some h → ∀ x, Sol m rs x → cnt m s x ≤ h
theorem bds_ex {m : Int} {rs : List Rw} {s : List Int} {b0 : Nat} (t : Tel m rs) (hl : rs.length ≤ 100) (hs : SetOk m s) (hb0 : b0 < 1000) (hx : ∃ x, Sol m rs x ∧ cnt m s x ≤ b0) (HB : ∀ u : Int, 0 ≤ u → u ≤ b0 → BoOk m rs s u) :
    ∃ lo hi, BdsOk m rs s lo hi ∧ BdsSem m rs s lo hi := by
  obtain ⟨x0, h0, h1⟩ := hx
  have hsat : Sat m rs := ⟨x0, h0⟩
  have iff := fun v => both_iff (m := m) (rs := rs) (s := s) (v := v) hsat
  obtain ⟨lo, l1, l2, l3, l4⟩ := least_ex (P := fun v => bothB m rs s v = true) b0 ⟨cnt m s x0, cnt_pos h0.1, h1, (iff _).mpr ⟨x0, h0, rfl⟩⟩
  have loF : ∀ u, 0 ≤ u → u < lo → bothB m rs s u = false := fun u g1 g2 => by
    have := l4 u g1 g2
    simpa using this
  have semlo : (∃ x, Sol m rs x ∧ cnt m s x = lo) ∧ ∀ x, Sol m rs x → lo ≤ cnt m s x := by
    refine ⟨(iff lo).mp l3, fun x hx => ?_⟩
    apply Classical.byContradiction
    intro hn
    exact l4 (cnt m s x) (cnt_pos hx.1) (by omega) ((iff _).mpr ⟨x, hx, rfl⟩)
  cases htb : topB m rs s with
  | none =>
    refine ⟨lo, none, ⟨by omega, l3, loF, fun u g1 g2 => HB u g1 (by omega), by rw [htb]⟩, semlo.1, semlo.2, ⟨fun _ => top_none.mp htb, fun _ => rfl⟩, fun h e => (nomatch e), fun h e => (nomatch e)⟩
  | some tp =>
    obtain ⟨e1, hc⟩ := top_some htb
    have htp : tp ≤ 900 := by
      have := sum_le (l := nums rs) (b := 9) fun z hz => by
        obtain ⟨r, hr, rfl⟩ := List.mem_map.mp hz
        exact (t.hn r hr).2
      have e2 : (nums rs).length = rs.length := by simp [nums]
      rw [e2] at this
      omega
    have h00 := sol_top h0 hc
    have hp0 := cnt_pos (m := m) (s := s) h0.1
    obtain ⟨h, k1, k2, k3, k4⟩ := most_ex (P := fun v => bothB m rs s v = true) tp tp.toNat ⟨cnt m s x0, by omega, by omega, (iff _).mpr ⟨x0, h0, rfl⟩⟩
    have bo : ∀ u, 0 ≤ u → u ≤ tp → BoOk m rs s u := fun u g1 g2 hf => ll_with 9 (by omega) (costB9 t.hm) t (by omega) hs (by omega) fun q hq => by
      obtain ⟨r, hr, hqr⟩ := hc q hq
      refine .inl ⟨r, hr, fun e => ?_, hqr⟩
      have := List.find?_eq_none.mp hf r hr
      simp [e] at this
    refine ⟨lo, some h, ⟨by omega, l3, loF, fun u g1 g2 => HB u g1 (by omega), ?_⟩, semlo.1, semlo.2, ⟨fun z => (nomatch z), fun z => ?_⟩, fun h' e => ?_, fun h' e x hx => ?_⟩
    · rw [htb]
      refine ⟨h, rfl, k2, by omega, k3, fun u g1 g2 => ?_, fun u g1 g2 => bo u (by omega) g2⟩
      have := k4 u g1 g2
      simpa using this
    · rw [top_none.mpr z] at htb
      cases htb
    · cases e
      exact (iff h).mp k3
    · cases e
      apply Classical.byContradiction
      intro hn
      have := sol_top hx hc
      exact k4 (cnt m s x) (by omega) (by omega) ((iff _).mpr ⟨x, hx, rfl⟩)
end Pg

set_option Elab.async false
set_option linter.all false
set_option maxRecDepth 100000
set_option maxHeartbeats 8000000
/-! Sp: with_places, spare. -/
namespace Pg
open Mn
def Ex (a b : Store) : Prop := ∃ r, b = a ++ r
theorem Ex.refl (a : Store) : Ex a a := ⟨[], by simp⟩
theorem Ex.trans {a b c : Store} (h : Ex a b) (g : Ex b c) : Ex a c := by
  obtain ⟨r, rfl⟩ := h; obtain ⟨q, rfl⟩ := g; exact ⟨r ++ q, by simp⟩
theorem Ex.get {a b : Store} (h : Ex a b) {n : Nat} {o : Ob} (e : a[n]? = some o) : b[n]? = some o := by
  obtain ⟨r, rfl⟩ := h
  rw [List.getElem?_append_left (List.getElem?_eq_some_iff.mp e).1]; exact e
def row (rs : List Rw) (p : Int) : Rw := rs.getD p.toNat ([], 0)
def selR (rs : List Rw) (ps : List Int) : List Rw := ps.map (row rs)
theorem row_at {rs : List Rw} {p : Int} (h : 0 ≤ p ∧ p < rs.length) : atD (rs.map rowD) p = some (rowD (row rs p)) := by
  have h2 : p < ((rs.map rowD).length : Int) := by rw [List.length_map]; exact h.2
  simp only [atD, ixOf, h.1, h2, if_true, Option.bind, List.getElem?_map]
  have h3 : p.toNat < rs.length := by omega
  unfold row
  rw [List.getD_eq_getElem?_getD, List.getElem?_eq_getElem h3]
  rfl
theorem row_mem {rs : List Rw} {p : Int} (h : 0 ≤ p ∧ p < rs.length) : row rs p ∈ rs := by
  have h3 : p.toNat < rs.length := by omega
  unfold row
  rw [List.getD_eq_getElem?_getD, List.getElem?_eq_getElem h3]
  exact List.getElem_mem h3
theorem tel1 (m : Int) (rs : List Rw) (st : Store) : pIdx (telD m rs) (.int 1) st = .ok (.tup (rs.map rowD)) st := rfl
theorem tel0 (m : Int) (rs : List Rw) (st : Store) : pIdx (telD m rs) (.int 0) st = .ok (.int m) st := rfl
theorem idx_tup (xs : List Mn.D) (i : Int) (st : Store) : pIdx (.tup xs) (.int i) st = optR (atD xs i) st := rfl
theorem idx_lst (xs : List Mn.D) (i : Int) (st : Store) : pIdx (.lst xs) (.int i) st = optR (atD xs i) st := rfl
/-- all places but one -/
def others (n : Nat) (p : Int) : List Int := (rgI 0 n).filter fun q => decide (q ≠ p)
def delR (rs : List Rw) (p : Int) : List Rw := selR rs (others rs.length p)
theorem others_mem {n : Nat} {p q : Int} : q ∈ others n p ↔ (0 ≤ q ∧ q < n) ∧ q ≠ p := by
  unfold others
  rw [List.mem_filter, mem_rg]
  simp
theorem others_len (n : Nat) (p : Int) : (others n p).length ≤ n := by
  have := List.length_filter_le (fun q => decide (q ≠ p)) (rgI 0 n)
  rw [rgI_len] at this
  exact this
theorem ne_ints (p q : Int) (st : Store) : pCmp .ne (.int p) (.int q) st = some (!decide (p = q)) := by
  simp [pCmp, vw, D.okp, D.isP, D.dep, D.eqv]
theorem eq_bds (lo n : Int) (hi : Option Int) (st : Store) : pCmp .eq (.tup [.int lo, intO hi]) (.tup [.int n, .int n]) st = some (decide (lo = n) && decide (hi = some n)) := by
  cases hi with
  | none => simp [pCmp, scrEq, Option.orElse, vw, D.okp, D.isP, isPs, D.dep, deps, D.eqv, eqvs, intO]
  | some h => simp [pCmp, scrEq, Option.orElse, vw, D.okp, D.isP, isPs, D.dep, deps, D.eqv, eqvs, intO]
def spB (rs : List Rw) (b : Int → Bool) (lo : Int → Int) (hi : Int → Option Int) (p : Int) : Bool := !b p || (decide (lo p = (row rs p).2) && decide (hi p = some (row rs p).2))
theorem app_ob {C : Calls} {env : En} {st : Store} {j : Nat} {xs : List Mn.D} {d : Mn.D} {e : E} (i : Nat) (h0 : env[i]? = some (some (.ob j))) (h : st[j]? = some (.lst xs)) (he : ev C e env st = .ok d st) (hl : xs.length < maxLen) :
    Mn.exec C (.expr (.me .append (.var i) (.cons e .nil))) env st = .next env (st.set j (.lst (xs ++ [d]))) := by
  simp [h0, he, pMe, mAppend, asL, obL, h, hl]
def spareL (rs : List Rw) (b : Int → Bool) (lo : Int → Int) (hi : Int → Option Int) : List Int := (rgI 0 rs.length).filter (spB rs b lo hi)
end Pg

set_option Elab.async false
set_option linter.all false
set_option maxRecDepth 100000
set_option maxHeartbeats 8000000
/-! Nr: near, how_far, mended. -/
namespace Pg
open Mn
def absI (i : Int) : Int := if i < 0 then -i else i
def findN (f : Int → Option (List Int)) : Nat → Int → Option (List Int)
  | 0, _ => none
  | c + 1, v => match f v with
    | some r => some r
    | none => findN f c (v + 1)
def zipN (rs : List Rw) (ns : List Int) : List Rw := (rs.zip ns).map fun q => (q.1.1, q.2)
def loN (r : Rw) (left : Int) : Int := if r.2 - left > 0 then r.2 - left else 0
def hiN (r : Rw) (left : Int) : Int := if r.2 + left < 9 then r.2 + left else 9
def nearL (m : Int) (rs : List Rw) : List Rw → Int → List Int → Option (List Int)
  | [], left, ns => if left = 0 then (if (llL m (zipN rs ns)).isSome then some ns else none) else none
  | r :: rest, left, ns => findN (fun v => nearL m rs rest (left - absI (v - r.2)) (ns ++ [v])) (hiN r left + 1 - loN r left).toNat (loN r left)
theorem zip_lc {C : Calls} {own : List Nat} {env : En} {st : Store} {t : Tg} {e : E} (rs : List Rw) (ns : List Int) (h : ∀ (r : Rw) (n : Int), lcBody C own t .nil e env (.tup [rowD r, .int n]) st = .ok (some (rowD (r.1, n))) st) :
    lcLoop [] (lcBody C own t .nil e env) (zipD (rs.map rowD) (iD ns)) [] st = .ok ((zipN rs ns).map rowD) st := by
  have ez : zipD (rs.map rowD) (iD ns) = (rs.zip ns).map fun q => .tup [rowD q.1, .int q.2] := by
    rw [zipD_eq, iD, List.zip_map, List.map_map]
    rfl
  have em : (zipN rs ns).map rowD = (rs.zip ns).map fun q => rowD (q.1.1, q.2) := by
    unfold zipN
    rw [List.map_map]
    rfl
  rw [ez, em]
  exact lc_all (rs.zip ns) (fun q => .tup [rowD q.1, .int q.2]) (fun q => rowD (q.1.1, q.2)) fun q hq => h q.1 q.2
theorem zipN_len (rs : List Rw) (ns : List Int) : (zipN rs ns).length ≤ rs.length := by
  unfold zipN
  rw [List.length_map, List.length_zip]
  omega
theorem optD_some (xs : List Int) : (optD (some xs)).isNon = false := rfl
/-- the telling with other numbers -/
theorem zipN_ll {m : Int} {rs : List Rw} {ns : List Int} (t : Tel m rs) (hn : ∀ n ∈ ns, 0 ≤ n ∧ n ≤ 9) : LlOk m (zipN rs ns) := by
  have hm : ∀ r ∈ zipN rs ns, SetOk m r.1 ∧ 0 ≤ r.2 ∧ r.2 ≤ 9 := fun r hr => by
    unfold zipN at hr
    obtain ⟨q, hq, rfl⟩ := List.mem_map.mp hr
    have := List.of_mem_zip hq
    exact ⟨t.hs q.1 this.1, hn q.2 this.2⟩
  have := zipN_len rs ns
  have hl := t.hl
  exact ⟨t.hm, fun r hr => (hm r hr).1, fun r hr => by have := (hm r hr).2; omega, by omega, cost9 t.hm fun r hr => (hm r hr).2⟩
/-! ### how far -/
end Pg

set_option Elab.async false
set_option linter.all false
set_option maxRecDepth 100000
set_option maxHeartbeats 8000000
/-! Bg: every telling that can be has bounds. -/
namespace Pg
open Mn
/-- the search's cost where one row counts all places -/
def cN : Nat → Nat → Nat
  | 0, _ => 0
  | n + 1, l => 1 + (List.range (l + 1)).foldl (fun a v => a + cN n v) 0
theorem fold_sum (f : Nat → Nat) : ∀ (l : List Nat) (a : Nat), l.foldl (fun a v => a + f v) a = a + (l.map f).sum
  | [], a => by simp
  | x :: l, a => by simp only [List.foldl_cons, fold_sum f l, List.map_cons, List.sum_cons]; omega
theorem cN_mono : ∀ (n a b : Nat), a ≤ b → cN n a ≤ cN n b
  | 0, _, _, _ => Nat.le_refl _
  | n + 1, a, b, h => by
    unfold cN
    rw [fold_sum, fold_sum]
    obtain ⟨d, rfl⟩ : ∃ d, b = a + d := ⟨b - a, by omega⟩
    clear h
    induction d with
    | zero => exact Nat.le_refl _
    | succ d ih =>
      have e : a + (d + 1) + 1 = (a + d + 1) + 1 := by omega
      rw [e, List.range_succ (n := a + d + 1), List.map_append, List.sum_append]
      simp only [List.map_cons, List.map_nil, List.sum_cons, List.sum_nil] at ih ⊢
      omega
theorem cost_all {cs : List (List Int)} {i : Nat} {c : List Int} (hc : cs[i]? = some c) : ∀ (n : Nat) (p : Int) (left : List Int) (l : Nat), (∀ q, p ≤ q → q < p + n → q ∈ c) → left[i]? = some (l : Int) → (∀ z ∈ left, 0 ≤ z) → costL cs n p left ≤ cN n l
  | 0, _, _, _, _, _, _ => Nat.zero_le _
  | n + 1, p, left, l, hq, hl, hz => by
    have hp : p ∈ c := hq p (Int.le_refl p) (by omega)
    have hmem : (l : Int) ∈ mostL cs left p := by
      unfold mostL
      exact List.mem_map.mpr ⟨(c, (l : Int)), List.mem_filter.mpr ⟨List.mem_of_getElem? (i := i) (by rw [List.getElem?_zip_eq_some]; exact ⟨hc, hl⟩), by simpa using hp⟩, rfl⟩
    have ht : topI cs left p ≤ l ∧ 0 ≤ topI cs left p := by
      unfold topI
      cases hml : mostL cs left p with
      | nil => rw [hml] at hmem; simp at hmem
      | cons a r =>
        rw [hml] at hmem
        refine ⟨(minI_le a r).2 _ hmem, ?_⟩
        have h1 : minI a r ∈ mostL cs left p := by rw [hml]; exact minI_mem a r
        unfold mostL at h1
        obtain ⟨q, hq', e⟩ := List.mem_map.mp h1
        show 0 ≤ minI a r
        rw [← e]
        exact hz q.2 (List.of_mem_zip (List.mem_filter.mp hq').1).2
    have hrec : ∀ w : Nat, w ≤ (topI cs left p).toNat → costL cs n (p + 1) (goL cs left p w) ≤ cN n (l - w) := fun w hw => by
      refine cost_all hc n (p + 1) _ (l - w) (fun q h1 h2 => hq q (by omega) (by omega)) ?_ fun z hz' => ?_
      · rw [goL_get hl hc, if_pos hp]
        congr 1
        omega
      · have hz2 := hz
        unfold goL at hz'
        obtain ⟨q, hq', e⟩ := List.mem_map.mp hz'
        have hm := List.of_mem_zip hq'
        have h0 := hz q.1 hm.1
        subst e
        by_cases hpq : p ∈ q.2
        · rw [if_pos hpq]
          have hqm : q.1 ∈ mostL cs left p := by
            unfold mostL
            refine List.mem_map.mpr ⟨(q.2, q.1), List.mem_filter.mpr ⟨?_, by simpa using hpq⟩, rfl⟩
            obtain ⟨j, hj⟩ := List.getElem?_of_mem hq'
            rw [List.getElem?_zip_eq_some] at hj
            exact List.mem_of_getElem? (i := j) (by rw [List.getElem?_zip_eq_some]; exact ⟨hj.2, hj.1⟩)
          have : topI cs left p ≤ q.1 := by
            unfold topI
            cases hml : mostL cs left p with
            | nil => rw [hml] at hqm; simp at hqm
            | cons a r => rw [hml] at hqm; exact (minI_le a r).2 _ hqm
          omega
        · rw [if_neg hpq]; omega
    -- sum over the values
    have hsum : sumF (fun v => costL cs n (p + 1) (goL cs left p v)) (topI cs left p + 1).toNat 0 ≤ ((List.range (l + 1)).map (cN n)).sum := by
      have key : ∀ (c v : Nat), v + c ≤ (topI cs left p).toNat + 1 → sumF (fun v => costL cs n (p + 1) (goL cs left p v)) c v + ((List.range (l + 1 - v - c)).map (cN n)).sum ≤ ((List.range (l + 1 - v)).map (cN n)).sum := by
        intro c
        induction c with
        | zero => intro v _; simp [sumF]
        | succ c ih =>
          intro v h
          have i1 := ih (v + 1) (by omega)
          have h1 := hrec v (by omega)
          have e1 : l + 1 - v = (l - v) + 1 := by omega
          have e2 : l + 1 - (v + 1) = l - v := by omega
          rw [e1, List.range_succ, List.map_append, List.sum_append]
          rw [e2] at i1
          simp only [List.map_cons, List.map_nil, List.sum_cons, List.sum_nil]
          unfold sumF
          rw [show ((v : Int) + 1) = ((v + 1 : Nat) : Int) by omega]
          rw [show (l - v) + 1 - (c + 1) = l - v - c by omega]
          omega
      have := key (topI cs left p + 1).toNat 0 (by omega)
      simp only [Nat.sub_zero] at this
      have e0 : ((0 : Nat) : Int) = 0 := rfl
      rw [e0] at this
      omega
    unfold costL cN
    rw [fold_sum]
    omega
theorem cN_27 : cN 8 27 ≤ maxLen := by
  unfold maxLen
  decide +kernel
/-- what counts nothing is nought -/
def trim (m : Int) (rs : List Rw) (x : Int → Int) (q : Int) : Int := if rs.any (fun r => decide (q ∈ cols m r.1)) then x q else 0
theorem tot_trim {m : Int} {rs : List Rw} {x : Int → Int} {c : List Int} (hc : ∀ q ∈ c, (rs.any fun r => decide (q ∈ cols m r.1)) = true) : ∀ (n : Nat) (p : Int), tot (trim m rs x) c n p = tot x c n p
  | 0, _ => rfl
  | n + 1, p => by
    unfold tot
    rw [tot_trim hc n (p + 1)]
    by_cases hp : p ∈ c
    · rw [if_pos hp, if_pos hp]; unfold trim; rw [hc p hp]; rfl
    · rw [if_neg hp, if_neg hp]
theorem trim_sol {m : Int} {rs : List Rw} {x : Int → Int} (h : Sol m rs x) : Sol m rs (trim m rs x) := by
  refine ⟨fun q => ?_, fun r hr => ?_⟩
  · unfold trim; split
    · exact h.1 q
    · exact Int.le_refl 0
  · rw [← h.2 r hr]
    exact tot_trim (fun q hq => List.any_eq_true.mpr ⟨r, hr, decide_eq_true hq⟩) _ _
theorem trim_zero {m : Int} {rs : List Rw} {x : Int → Int} {q : Int} (h : ∀ r ∈ rs, q ∉ cols m r.1) : trim m rs x q = 0 := by
  unfold trim
  rw [if_neg]
  intro hc
  obtain ⟨r, hr, hd⟩ := List.any_eq_true.mp hc
  exact h r hr (of_decide_eq_true hd)
theorem trim_le {m : Int} {rs : List Rw} {x : Int → Int} (t : Tel m rs) (h : Sol m rs x) (q : Int) : 0 ≤ trim m rs x q ∧ trim m rs x q ≤ 9 := by
  have hs := trim_sol h
  refine ⟨hs.1 q, ?_⟩
  by_cases hc : ∃ r ∈ rs, q ∈ cols m r.1
  · obtain ⟨r, hr, hq⟩ := hc
    have hb := colsOf_ge r.1 (regs m) 0 q hq
    have h1 : trim m rs x q ≤ cnt m r.1 (trim m rs x) := tot_ge hs.1 hq _ _ (by omega) (by omega)
    rw [hs.2 r hr] at h1
    have := (t.hn r hr).2
    omega
  · rw [trim_zero fun r hr hq => hc ⟨r, hr, hq⟩]
    omega
theorem trim_cov {m : Int} {rs : List Rw} {x : Int → Int} (q : Int) : trim m rs x q = 0 ∨ ∃ r ∈ rs, q ∈ cols m r.1 := by
  by_cases hc : ∃ r ∈ rs, q ∈ cols m r.1
  · exact .inr hc
  · exact .inl (trim_zero fun r hr hq => hc ⟨r, hr, hq⟩)
/-! ### three sets -/
def Has (rs : List Rw) (s : List Int) : Prop := ∃ r ∈ rs, r.1 = s
theorem has_sum {m : Int} {rs : List Rw} {x : Int → Int} (t : Tel m rs) (h : Sol m rs x) {s : List Int} (hs : Has rs s) : cnt m s x ≤ 9 := by
  obtain ⟨r, hr, rfl⟩ := hs
  rw [h.2 r hr]
  exact (t.hn r hr).2
theorem cov3 {rs : List Rw} (t : Tel 3 rs) {q : Int} (h : ∃ r ∈ rs, q ∈ cols 3 r.1) (l : List (List Int)) (hl : ((regs 3).filter fun s => decide (q ∈ cols 3 s)) = l) : ∃ s ∈ l, Has rs s := by
  obtain ⟨r, hr, hq⟩ := h
  refine ⟨r.1, ?_, r, hr, rfl⟩
  rw [← hl]
  exact List.mem_filter.mpr ⟨t.hs r hr, decide_eq_true hq⟩
structure F3 (rs : List Rw) (x : Int → Int) : Prop where
  b : ∀ q, 0 ≤ x q ∧ x q ≤ 9
  se : Has rs [] → x 0 + x 1 + x 2 + x 3 + x 4 + x 5 + x 6 + x 7 ≤ 9
  s0 : Has rs [0] → x 1 + x 2 + x 3 + x 4 ≤ 9
  s1 : Has rs [1] → x 2 + x 3 + x 5 + x 6 ≤ 9
  s2 : Has rs [2] → x 3 + x 4 + x 6 + x 7 ≤ 9
  s01 : Has rs [0, 1] → x 2 + x 3 ≤ 9
  s02 : Has rs [0, 2] → x 3 + x 4 ≤ 9
  s12 : Has rs [1, 2] → x 3 + x 6 ≤ 9
  u0 : x 0 = 0 ∨ Has rs []
  u1 : x 1 = 0 ∨ Has rs [] ∨ Has rs [0]
  u2 : x 2 = 0 ∨ Has rs [] ∨ Has rs [0] ∨ Has rs [0, 1] ∨ Has rs [1]
  u3 : x 3 = 0 ∨ Has rs [] ∨ Has rs [0] ∨ Has rs [0, 1] ∨ Has rs [0, 1, 2] ∨ Has rs [0, 2] ∨ Has rs [1] ∨ Has rs [1, 2] ∨ Has rs [2]
  u4 : x 4 = 0 ∨ Has rs [] ∨ Has rs [0] ∨ Has rs [0, 2] ∨ Has rs [2]
  u5 : x 5 = 0 ∨ Has rs [] ∨ Has rs [1]
  u6 : x 6 = 0 ∨ Has rs [] ∨ Has rs [1] ∨ Has rs [1, 2] ∨ Has rs [2]
  u7 : x 7 = 0 ∨ Has rs [] ∨ Has rs [2]
theorem f3_of {rs : List Rw} {x : Int → Int} (t : Tel 3 rs) (h : Sol 3 rs x) : F3 rs (trim 3 rs x) := by
  have hs := trim_sol h
  have sm : ∀ s, Has rs s → cnt 3 s (trim 3 rs x) ≤ 9 := fun s => has_sum t hs
  have cv : ∀ q, trim 3 rs x q = 0 ∨ ∃ r ∈ rs, q ∈ cols 3 r.1 := fun q => trim_cov q
  refine ⟨trim_le t h, fun p => ?_, fun p => ?_, fun p => ?_, fun p => ?_, fun p => ?_, fun p => ?_, fun p => ?_, ?_, ?_, ?_, ?_, ?_, ?_, ?_, ?_⟩
  · have := sm _ p; unfold cnt at this; rw [tot_3_e] at this; exact this
  · have := sm _ p; unfold cnt at this; rw [tot_3_0] at this; exact this
  · have := sm _ p; unfold cnt at this; rw [tot_3_1] at this; exact this
  · have := sm _ p; unfold cnt at this; rw [tot_3_2] at this; exact this
  · have := sm _ p; unfold cnt at this; rw [tot_3_01] at this; exact this
  · have := sm _ p; unfold cnt at this; rw [tot_3_02] at this; exact this
  · have := sm _ p; unfold cnt at this; rw [tot_3_12] at this; exact this
  · rcases cv 0 with z | z
    · exact .inl z
    · obtain ⟨s, hm, hh⟩ := cov3 t z [[]] (by decide)
      simp only [List.mem_cons, List.not_mem_nil, or_false] at hm
      subst hm; exact .inr hh
  · rcases cv 1 with z | z
    · exact .inl z
    · obtain ⟨s, hm, hh⟩ := cov3 t z [[], [0]] (by decide)
      simp only [List.mem_cons, List.not_mem_nil, or_false] at hm
      rcases hm with rfl | rfl <;> simp [hh]
  · rcases cv 2 with z | z
    · exact .inl z
    · obtain ⟨s, hm, hh⟩ := cov3 t z [[], [0], [0, 1], [1]] (by decide)
      simp only [List.mem_cons, List.not_mem_nil, or_false] at hm
      rcases hm with rfl | rfl | rfl | rfl <;> simp [hh]
  · rcases cv 3 with z | z
    · exact .inl z
    · obtain ⟨s, hm, hh⟩ := cov3 t z [[], [0], [0, 1], [0, 1, 2], [0, 2], [1], [1, 2], [2]] (by decide)
      simp only [List.mem_cons, List.not_mem_nil, or_false] at hm
      rcases hm with rfl | rfl | rfl | rfl | rfl | rfl | rfl | rfl <;> simp [hh]
  · rcases cv 4 with z | z
    · exact .inl z
    · obtain ⟨s, hm, hh⟩ := cov3 t z [[], [0], [0, 2], [2]] (by decide)
      simp only [List.mem_cons, List.not_mem_nil, or_false] at hm
      rcases hm with rfl | rfl | rfl | rfl <;> simp [hh]
  · rcases cv 5 with z | z
    · exact .inl z
    · obtain ⟨s, hm, hh⟩ := cov3 t z [[], [1]] (by decide)
      simp only [List.mem_cons, List.not_mem_nil, or_false] at hm
      rcases hm with rfl | rfl <;> simp [hh]
  · rcases cv 6 with z | z
    · exact .inl z
    · obtain ⟨s, hm, hh⟩ := cov3 t z [[], [1], [1, 2], [2]] (by decide)
      simp only [List.mem_cons, List.not_mem_nil, or_false] at hm
      rcases hm with rfl | rfl | rfl | rfl <;> simp [hh]
  · rcases cv 7 with z | z
    · exact .inl z
    · obtain ⟨s, hm, hh⟩ := cov3 t z [[], [2]] (by decide)
      simp only [List.mem_cons, List.not_mem_nil, or_false] at hm
      rcases hm with rfl | rfl <;> simp [hh]
theorem tot27 {rs : List Rw} {x : Int → Int} (f : F3 rs x) (he : ¬ Has rs []) : x 0 + x 1 + x 2 + x 3 + x 4 + x 5 + x 6 + x 7 ≤ 27 := by
  have b0 := f.b 0; have b1 := f.b 1; have b2 := f.b 2; have b3 := f.b 3; have b4 := f.b 4; have b5 := f.b 5; have b6 := f.b 6; have b7 := f.b 7
  have u0 := f.u0; have u1 := f.u1; have u2 := f.u2; have u3 := f.u3; have u4 := f.u4; have u5 := f.u5; have u6 := f.u6; have u7 := f.u7
  have s0 := f.s0; have s1 := f.s1; have s2 := f.s2; have s01 := f.s01; have s02 := f.s02; have s12 := f.s12
  clear f
  generalize x 0 = y0 at *
  generalize x 1 = y1 at *
  generalize x 2 = y2 at *
  generalize x 3 = y3 at *
  generalize x 4 = y4 at *
  generalize x 5 = y5 at *
  generalize x 6 = y6 at *
  generalize x 7 = y7 at *
  generalize Has rs [] = P at *
  generalize Has rs [0] = P0 at *
  generalize Has rs [1] = P1 at *
  generalize Has rs [2] = P2 at *
  generalize Has rs [0, 1] = P01 at *
  generalize Has rs [0, 2] = P02 at *
  generalize Has rs [1, 2] = P12 at *
  generalize Has rs [0, 1, 2] = P012 at *
  simp only [he, false_or, or_false] at u0 u1 u2 u3 u4 u5 u6 u7
  by_cases p0 : P0 <;> by_cases p1 : P1 <;> by_cases p2 : P2 <;> simp only [p0, p1, p2, true_or, or_true, false_or, or_false, forall_const, false_implies, true_implies] at u1 u2 u3 u4 u5 u6 u7 s0 s1 s2 <;>
    first
    | omega
    | (by_cases p01 : P01 <;> by_cases p02 : P02 <;> by_cases p12 : P12 <;> simp only [p01, p02, p12, true_or, or_true, false_or, or_false, forall_const, false_implies, true_implies] at u2 u3 u4 u6 s01 s02 s12 <;> omega)
end Pg

set_option Elab.async false
set_option linter.all false
set_option maxRecDepth 100000
set_option maxHeartbeats 8000000
/-! Bh: every telling that can be has bounds. -/
namespace Pg
open Mn
theorem tot_le9 {x : Int → Int} (h : ∀ q, 0 ≤ x q ∧ x q ≤ 9) (c : List Int) : ∀ (n : Nat) (p : Int), tot x c n p ≤ 9 * n
  | 0, _ => by simp [tot]
  | n + 1, p => by
    have := tot_le9 h c n (p + 1)
    have := h p
    unfold tot
    split <;> omega
/-- all that LlOk asks of a telling with a row more, but the cost -/
theorem ll_row {m : Int} {rs : List Rw} {s : List Int} {u : Int} (t : Tel m rs) (hl : rs.length ≤ 900) (hs : SetOk m s) (hu : 0 ≤ u ∧ u < 1000) (hc : costM m (withR rs s u) ≤ maxLen) : LlOk m (withR rs s u) := by
  refine ⟨t.hm, fun r hr => ?_, fun r hr => ?_, ?_, hc⟩
  · rcases withR_mem.mp hr with ⟨h, _⟩ | rfl
    · exact t.hs r h
    · exact hs
  · rcases withR_mem.mp hr with ⟨h, _⟩ | rfl
    · have := t.hn r h; omega
    · exact hu
  · have := withR_len rs s u
    omega
theorem ll_caps {rs : List Rw} {s : List Int} {u : Int} {B : Int → Nat} (t : Tel 3 rs) (hl : rs.length ≤ 900) (hs : SetOk 3 s) (hu : 0 ≤ u ∧ u < 1000) (hB : costB B 8 0 ≤ maxLen) (h9 : ∀ q, q ≠ 0 → 9 ≤ B q) (h0 : ∀ r ∈ rs, (0 : Int) ∉ cols 3 r.1) (h0s : (0 : Int) ∉ cols 3 s) (hub : ∀ q ∈ cols 3 s, u ≤ B q) : LlOk 3 (withR rs s u) := by
  refine ll_row t hl hs hu (Nat.le_trans (costM_le (B := B) fun q => ?_) hB)
  by_cases hq : ∃ r ∈ rs, r.1 ≠ s ∧ q ∈ cols 3 r.1
  · obtain ⟨r, hr, h1, h2⟩ := hq
    have hq0 : q ≠ 0 := fun e => h0 r hr (by rw [← e]; exact h2)
    have := (t.hn r hr).2
    have := h9 q hq0
    exact .inr ⟨r, withR_mem.mpr (.inl ⟨hr, h1⟩), h2, by omega⟩
  · by_cases hqs : q ∈ cols 3 s
    · exact .inr ⟨(s, u), withR_mem.mpr (.inr rfl), hqs, hub q hqs⟩
    · refine .inl fun r hr hqr => ?_
      rcases withR_mem.mp hr with ⟨h1, h2⟩ | rfl
      · exact hq ⟨r, h1, h2, hqr⟩
      · exact hqs hqr
theorem ll_e {rs : List Rw} {u : Int} (t : Tel 3 rs) (hl : rs.length ≤ 900) (hu : 0 ≤ u ∧ u ≤ 27) : LlOk 3 (withR rs [] u) := by
  refine ll_row t hl (show ([] : List Int) ∈ regs 3 by decide) (by omega) ?_
  have hm : (([] : List Int), u) ∈ withR rs [] u := withR_mem.mpr (.inr rfl)
  obtain ⟨i, hi⟩ := List.getElem?_of_mem hm
  have hc : (csM 3 (withR rs [] u))[i]? = some (cols 3 []) := by unfold csM; rw [List.getElem?_map, hi]; rfl
  have hn : (nums (withR rs [] u))[i]? = some ((u.toNat : Nat) : Int) := by
    unfold nums
    rw [List.getElem?_map, hi]
    simp only [Option.map]
    congr 1
    omega
  have := cost_all hc 8 0 (nums (withR rs [] u)) u.toNat (fun q h1 h2 => by
    rw [cols_3_e]
    simp only [List.mem_cons, List.not_mem_nil, or_false]
    omega) hn fun z hz => by
      obtain ⟨r, hr, rfl⟩ := List.mem_map.mp hz
      rcases withR_mem.mp hr with ⟨h, _⟩ | rfl
      · exact (t.hn r h).1
      · exact hu.1
  exact Nat.le_trans this (Nat.le_trans (cN_mono 8 _ 27 (by omega)) cN_27)
def B0 (q : Int) : Nat := if q = 0 then 0 else if q = 1 ∨ q = 2 ∨ q = 3 ∨ q = 4 then 18 else 9
def B1 (q : Int) : Nat := if q = 0 then 0 else if q = 2 ∨ q = 3 ∨ q = 5 ∨ q = 6 then 18 else 9
def B2 (q : Int) : Nat := if q = 0 then 0 else if q = 3 ∨ q = 4 ∨ q = 6 ∨ q = 7 then 18 else 9
theorem B_ok : costB B0 8 0 ≤ maxLen ∧ costB B1 8 0 ≤ maxLen ∧ costB B2 8 0 ≤ maxLen := by
  unfold maxLen
  refine ⟨?_, ?_, ?_⟩ <;> decide +kernel
theorem not0 {rs : List Rw} (t : Tel 3 rs) (he : ¬ Has rs []) : ∀ r ∈ rs, (0 : Int) ∉ cols 3 r.1 := fun r hr h => by
  have h1 : r.1 ∈ (regs 3).filter fun s => decide ((0 : Int) ∈ cols 3 s) := List.mem_filter.mpr ⟨t.hs r hr, decide_eq_true h⟩
  rw [show ((regs 3).filter fun s => decide ((0 : Int) ∈ cols 3 s)) = [[]] by decide] at h1
  exact he ⟨r, hr, by simpa using h1⟩
theorem bds_any {m : Int} {rs : List Rw} {s : List Int} (t : Tel m rs) (hl : rs.length ≤ 100) (hs : SetOk m s) (hsat : Sat m rs) : ∃ lo hi, BdsOk m rs s lo hi ∧ BdsSem m rs s lo hi := by
  obtain ⟨x, hx⟩ := hsat
  have hx : Sol m rs x := hx
  have hs' := trim_sol hx
  have h9 := trim_le t hx
  by_cases hh : Has rs s
  · refine bds_ex (b0 := 9) t hl hs (by omega) ⟨_, hs', has_sum t hs' hh⟩ fun u _ _ hf => ?_
    obtain ⟨r, hr, e⟩ := hh
    have := List.find?_eq_none.mp hf r hr
    simp [e] at this
  · have nine : ∀ {b : Nat}, b ≤ 9 → cnt m s (trim m rs x) ≤ b → ∃ lo hi, BdsOk m rs s lo hi ∧ BdsSem m rs s lo hi := fun {b} hb hc =>
      bds_ex (b0 := b) t hl hs (by omega) ⟨_, hs', hc⟩ fun u g1 g2 _ => ll_with 9 (by omega) (costB9 t.hm) t (by omega) hs (by omega) fun q _ => .inr (by omega)
    by_cases hm : m ≤ 2
    · have hr := t.hm
      have hr4 : (regs m).length ≤ 4 := by
        have : m = 1 ∨ m = 2 := by omega
        rcases this with rfl | rfl <;> decide
      have := tot_le9 h9 (cols m s) (regs m).length 0
      exact bds_ex (b0 := 36) t hl hs (by omega) ⟨_, hs', by show tot _ _ _ _ ≤ _; omega⟩ fun u g1 g2 _ => ll_with 99 (by omega) (costB99 (by omega)) t (by omega) hs (by omega) fun q _ => .inr (by omega)
    · have hm3 : m = 3 := by have := t.hm; omega
      subst hm3
      have f := f3_of t hx
      generalize trim 3 rs x = y at *
      have b := f.b
      have b0 := b 0; have b1 := b 1; have b2 := b 2; have b3 := b 3; have b4 := b 4; have b5 := b 5; have b6 := b 6; have b7 := b 7
      have hs8 : s = [] ∨ s = [0] ∨ s = [0, 1] ∨ s = [0, 1, 2] ∨ s = [0, 2] ∨ s = [1] ∨ s = [1, 2] ∨ s = [2] := by
        have : s ∈ regs 3 := hs
        simpa [regs] using this
      by_cases he : Has rs []
      · have hse := f.se he
        refine nine (b := 9) (by omega) ?_
        rcases hs8 with rfl | rfl | rfl | rfl | rfl | rfl | rfl | rfl <;> unfold cnt
        · rw [tot_3_e]; omega
        · rw [tot_3_0]; omega
        · rw [tot_3_01]; omega
        · rw [tot_3_012]; omega
        · rw [tot_3_02]; omega
        · rw [tot_3_1]; omega
        · rw [tot_3_12]; omega
        · rw [tot_3_2]; omega
      · have n0 := not0 t he
        have e1 : y 1 = 0 ∨ Has rs [0] := by rcases f.u1 with z | z | z <;> simp_all
        have e2 : y 2 = 0 ∨ Has rs [0] ∨ Has rs [0, 1] ∨ Has rs [1] := by rcases f.u2 with z | z | z <;> simp_all
        have e4 : y 4 = 0 ∨ Has rs [0] ∨ Has rs [0, 2] ∨ Has rs [2] := by rcases f.u4 with z | z | z <;> simp_all
        have e5 : y 5 = 0 ∨ Has rs [1] := by rcases f.u5 with z | z | z <;> simp_all
        have e6 : y 6 = 0 ∨ Has rs [1] ∨ Has rs [1, 2] ∨ Has rs [2] := by rcases f.u6 with z | z | z <;> simp_all
        have e7 : y 7 = 0 ∨ Has rs [2] := by rcases f.u7 with z | z | z <;> simp_all
        rcases hs8 with rfl | rfl | rfl | rfl | rfl | rfl | rfl | rfl
        · exact bds_ex (b0 := 27) t hl hs (by omega) ⟨_, hs', by unfold cnt; rw [tot_3_e]; exact tot27 f he⟩ fun u g1 g2 _ => ll_e t (by omega) ⟨g1, g2⟩
        · refine bds_ex (b0 := 18) t hl hs (by omega) ⟨_, hs', ?_⟩ fun u g1 g2 _ => ll_caps (B := B0) t (by omega) hs (by omega) B_ok.1 (fun q hq => by unfold B0; rw [if_neg hq]; split <;> omega) n0 (by decide) fun q hq => ?_
          · unfold cnt
            rw [tot_3_0]
            have z1 := e1.resolve_right hh
            rcases e2 with z | z | z | z
            · omega
            · exact absurd z hh
            · have := f.s01 z; omega
            · have := f.s1 z; omega
          · rw [cols_3_0] at hq
            simp only [List.mem_cons, List.not_mem_nil, or_false] at hq
            unfold B0
            rw [if_neg (by omega), if_pos hq]
            omega
        · refine nine (b := 9) (by omega) ?_
          unfold cnt
          rw [tot_3_01]
          rcases e2 with z | z | z | z
          · omega
          · have := f.s0 z; omega
          · exact absurd z hh
          · have := f.s1 z; omega
        · refine nine (b := 9) (by omega) ?_
          unfold cnt
          rw [tot_3_012]; omega
        · refine nine (b := 9) (by omega) ?_
          unfold cnt
          rw [tot_3_02]
          rcases e4 with z | z | z | z
          · omega
          · have := f.s0 z; omega
          · exact absurd z hh
          · have := f.s2 z; omega
        · refine bds_ex (b0 := 18) t hl hs (by omega) ⟨_, hs', ?_⟩ fun u g1 g2 _ => ll_caps (B := B1) t (by omega) hs (by omega) B_ok.2.1 (fun q hq => by unfold B1; rw [if_neg hq]; split <;> omega) n0 (by decide) fun q hq => ?_
          · unfold cnt
            rw [tot_3_1]
            have z1 := e5.resolve_right hh
            rcases e2 with z | z | z | z
            · omega
            · have := f.s0 z; omega
            · have := f.s01 z; omega
            · exact absurd z hh
          · rw [cols_3_1] at hq
            simp only [List.mem_cons, List.not_mem_nil, or_false] at hq
            unfold B1
            rw [if_neg (by omega), if_pos hq]
            omega
        · refine nine (b := 9) (by omega) ?_
          unfold cnt
          rw [tot_3_12]
          rcases e6 with z | z | z | z
          · omega
          · have := f.s1 z; omega
          · exact absurd z hh
          · have := f.s2 z; omega
        · refine bds_ex (b0 := 18) t hl hs (by omega) ⟨_, hs', ?_⟩ fun u g1 g2 _ => ll_caps (B := B2) t (by omega) hs (by omega) B_ok.2.2 (fun q hq => by unfold B2; rw [if_neg hq]; split <;> omega) n0 (by decide) fun q hq => ?_
          · unfold cnt
            rw [tot_3_2]
            have z1 := e7.resolve_right hh
            rcases e4 with z | z | z | z
            · omega
            · have := f.s0 z; omega
            · have := f.s02 z; omega
            · exact absurd z hh
          · rw [cols_3_2] at hq
            simp only [List.mem_cons, List.not_mem_nil, or_false] at hq
            unfold B2
            rw [if_neg (by omega), if_pos hq]
            omega
end Pg

set_option Elab.async false
set_option linter.all false
set_option maxRecDepth 100000
set_option maxHeartbeats 8000000
/-! Gn: loops by invariants; draws and the town. -/
namespace Pg
open Mn
theorem lc_inv {body : Mn.D → Store → Res (Option Mn.D)} (P : Nat → List Mn.D → Store → Prop) : ∀ (xs : List Mn.D) (i : Nat) (acc : List Mn.D) (st : Store), P i acc st → (∀ (j : Nat) x acc st, xs[j]? = some x → P (i + j) acc st → ∃ o st', body x st = .ok o st' ∧ P (i + j + 1) (match o with
      | some d => d :: acc
      | none => acc) st') → ∃ acc' st', lcLoop [] body xs acc st = .ok acc'.reverse st' ∧ P (i + xs.length) acc' st'
  | [], i, acc, st, h, _ => ⟨acc, st, rfl, h⟩
  | x :: xs, i, acc, st, h, hb => by
    obtain ⟨o, st1, e1, h1⟩ := hb 0 x acc st rfl h
    have ih := fun acc' => lc_inv (body := body) P xs (i + 1) acc' st1
    cases o with
    | none =>
      obtain ⟨acc', st', e, h2⟩ := ih acc h1 fun j x acc st hx hp => by
        have := hb (j + 1) x acc st (by simpa using hx) (by rw [show i + (j + 1) = i + 1 + j by omega]; exact hp)
        rw [show i + (j + 1) + 1 = i + 1 + j + 1 by omega] at this
        exact this
      refine ⟨acc', st', ?_, by rw [show i + (x :: xs).length = i + 1 + xs.length by simp; omega]; exact h2⟩
      simp only [lcLoop, still, if_true, e1]
      exact e
    | some d =>
      obtain ⟨acc', st', e, h2⟩ := ih (d :: acc) h1 fun j x acc st hx hp => by
        have := hb (j + 1) x acc st (by simpa using hx) (by rw [show i + (j + 1) = i + 1 + j by omega]; exact hp)
        rw [show i + (j + 1) + 1 = i + 1 + j + 1 by omega] at this
        exact this
      refine ⟨acc', st', ?_, by rw [show i + (x :: xs).length = i + 1 + xs.length by simp; omega]; exact h2⟩
      simp only [lcLoop, still, if_true, e1]
      exact e
theorem for_inv {body : Mn.D → En → Store → Out} (P : Nat → En → Store → Prop) : ∀ (xs : List Mn.D) (i : Nat) (env : En) (st : Store), P i env st → (∀ (j : Nat) x env st, xs[j]? = some x → P (i + j) env st → ∃ env' st', body x env st = .next env' st' ∧ P (i + j + 1) env' st') → ∃ env' st', forLoop [] body xs env st = .next env' st' ∧ P (i + xs.length) env' st'
  | [], i, env, st, h, _ => ⟨env, st, rfl, h⟩
  | x :: xs, i, env, st, h, hb => by
    obtain ⟨env1, st1, e1, h1⟩ := hb 0 x env st rfl h
    obtain ⟨env', st', e, h2⟩ := for_inv P xs (i + 1) env1 st1 h1 fun j x env st hx hp => by
      have := hb (j + 1) x env st (by simpa using hx) (by rw [show i + (j + 1) = i + 1 + j by omega]; exact hp)
      rw [show i + (j + 1) + 1 = i + 1 + j + 1 by omega] at this
      exact this
    refine ⟨env', st', ?_, by rw [show i + (x :: xs).length = i + 1 + xs.length by simp; omega]; exact h2⟩
    simp only [forLoop, still, if_true, e1]
    exact e
/-- only the town has changed, or new objects have come -/
structure Tw (st st' : Store) (n : Nat) : Prop where
  t : Town st' n
  len : st.length ≤ st'.length
  fr : ∀ i, 0 < i → i < st.length → st'[i]? = st[i]?
theorem Tw.refl {st : Store} {n : Nat} (h : Town st n) : Tw st st n := ⟨h, Nat.le_refl _, fun _ _ _ => rfl⟩
theorem Tw.trans {a b c : Store} {n m : Nat} (h : Tw a b n) (g : Tw b c m) : Tw a c m := ⟨g.t, Nat.le_trans h.len g.len, fun i h1 h2 => by rw [g.fr i h1 (Nat.lt_of_lt_of_le h2 h.len), h.fr i h1 h2]⟩
theorem Tw.get {st st' : Store} {n j : Nat} {o : Ob} (h : Tw st st' n) (hj : 0 < j) (e : st[j]? = some o) : st'[j]? = some o := by
  rw [h.fr j hj (List.getElem?_eq_some_iff.mp e).1]; exact e
theorem Tw.app {st : Store} {n : Nat} (h : Town st n) (r : Store) : Tw st (st ++ r) n := ⟨h.app r, by simp, fun i _ h2 => by rw [List.getElem?_append_left h2]⟩
theorem Tw.ex {st st' : Store} {n : Nat} (h : Town st n) (x : Ex st st') : Tw st st' n := by
  obtain ⟨r, rfl⟩ := x
  exact Tw.app h r
theorem Town.pos {st : Store} {n : Nat} (h : Town st n) : 0 < st.length := by
  obtain ⟨xs, h1, _⟩ := h
  exact (List.getElem?_eq_some_iff.mp h1).1
theorem Tw.set {st : Store} {n j : Nat} {o : Ob} (h : Town st n) (hj : 0 < j) : Town (st.set j o) n := by
  obtain ⟨xs, h1, h2⟩ := h
  exact ⟨xs, by rw [List.getElem?_set_ne (by omega)]; exact h1, h2⟩
/-- what a draw is -/
def DrawOk (C : Calls) : Prop := ∀ (ns : List Int) {st : Store} {n : Nat} {many : Int}, 0 < many → Town st n → n < 500 → ∃ v st', (0 ≤ v ∧ v < many) ∧ C i__law_draw [.scr ns, .ob 0, .int many] st = .ok (.int v) st' ∧ Tw st st' (n + 1) ∧ st'.length = st.length
theorem draw_w (k : Nat) : DrawOk (callN (tab L) (k + 3)) := fun ns {st n many} hm h hn => by
  obtain ⟨xs, h1, h2⟩ := h
  obtain ⟨v, g1, g2, e⟩ := draw_ok k ns st 0 xs many hm h1 (by omega)
  exact ⟨v, _, ⟨g1, g2⟩, e, ⟨⟨_, set_get h1, by simp [h2]⟩, by simp, fun i hi _ => by rw [List.getElem?_set_ne (by omega)]⟩, by simp⟩
theorem ext_of (k : Nat) {f : Nat} {ds : List Mn.D} {st : Store} {r : Res Mn.D} (h : callN (tab L) k f ds st = r) : callN (tab L) k f ds st = r := h
end Pg

set_option Elab.async false
set_option linter.all false
set_option maxRecDepth 100000
set_option maxHeartbeats 8000000
/-! TlB: the law's regions, counts, lots, tellings. -/
namespace Pg
open Mn
theorem lregions_ok (k : Nat) (st : Store) {m : Int} (h : 1 ≤ m ∧ m ≤ 3) : callN (tab L) (k + 1) i__law_regions [.int m] st = .ok (.lst ((regs m).map sD)) st := by
  have : m = 1 ∨ m = 2 ∨ m = 3 := by omega
  rcases this with rfl | rfl | rfl <;> rfl
def inB (s r : List Int) : Bool := s.all fun x => decide (x ∈ r)
def comZ (s : List Int) : List (List Int) → List Int → Int
  | r :: rs, h :: hs => (if inB s r then h else 0) + comZ s rs hs
  | _, _ => 0
def comL (m : Int) (heap s : List Int) : Int := comZ s (regs m) heap
theorem notin_ok (st : Store) (p : Int) (l : List Int) : pCmp .notin (.int p) (sD l) st = some (!decide (p ∈ l)) := by
  simp only [pCmp, in_set, Option.map]
theorem filt_nil (s r : List Int) : ((s.filter fun x => !decide (x ∈ r)) = []) ↔ inB s r = true := by
  unfold inB
  rw [List.filter_eq_nil_iff, List.all_eq_true]
  constructor
  · intro h x hx
    have := h x hx
    simpa using this
  · intro h x hx
    have := h x hx
    simpa using this
theorem lc_in {C : Calls} {env : En} {st : Store} {own : List Nat} {t : Tg} {c e : E} (s r : List Int) (hb : ∀ x ∈ s, lcBody C own t c e env (.int x) st = .ok (if !decide (x ∈ r) then some (.int x) else none) st) : lcLoop [] (lcBody C own t c e env) (iD s) [] st = .ok (iD (s.filter fun x => !decide (x ∈ r))) st := by
  have := lc_flt (C := C) (own := own) (t := t) (c := c) (e := e) (env := env) (st := st) (fun x => !decide (x ∈ r)) .int .int s [] hb
  simpa [iD] using this
theorem eq_nil (st : Store) (l : List Int) : pCmp .eq (.lst (iD l)) (.lst []) st = some (decide (l = [])) := by
  have h1 : isPs (iD l) = true := isPs_ints l
  have h2 : deps (iD l) = 0 := deps_ints l
  cases l with
  | nil => rfl
  | cons a l =>
    have h3 : eqvs (iD (a :: l)) [] = false := rfl
    generalize iD (a :: l) = X at *
    simp [pCmp, scrEq, Option.orElse, vw, D.okp, D.isP, isPs, D.dep, deps, D.eqv, h1, h2, h3]
theorem com_loop {C : Calls} {T : Mn.D} {hp s : List Int} (hs : s.length ≤ 1000) (st : Store) : ∀ (rg : List (List Int)) (hs' : List Int) (acc : Int) (x4 x5 : Option Mn.D), ∃ y4 y5, forLoop [] (forBody C (.tup (.cons (.name 4) (.cons (.name 5) .nil))) (.cons (.ite (.cmp .eq (.lc false [6] (.name 6) (.cons (.var 2) .nil) (.cons (.cmp .notin (.var 6) (.var 4)) .nil) (.var 6)) (.lst false .nil)) (.cons (.asg (.name 3) (.bin .add (.var 3) (.var 5)))
    .nil) .nil)
    .nil)) (zipD (rg.map sD) (iD hs')) [some T, some (sD hp), some (sD s), some (.int acc), x4, x5, none] st = .next [some T, some (sD hp), some (sD s), some (.int (acc + comZ s rg hs')), y4, y5, none] st
  | [], hs', acc, x4, x5 => ⟨x4, x5, by simp [zipD, forLoop, still, comZ]⟩
  | r :: rg, [], acc, x4, x5 => ⟨x4, x5, by simp [zipD, iD, forLoop, still, comZ]⟩
  | r :: rg, h :: hs', acc, x4, x5 => by
    obtain ⟨y4, y5, e⟩ := com_loop (C := C) (T := T) (hp := hp) hs st rg hs' (acc + if inB s r then h else 0) (some (sD r)) (some (.int h))
    refine ⟨y4, y5, ?_⟩
    have ez : zipD ((r :: rg).map sD) (iD (h :: hs')) = .tup [sD r, .int h] :: zipD (rg.map sD) (iD hs') := rfl
    have hlc := lc_in (C := C) (own := [6]) (t := .name 6) (c := .cons (.cmp .notin (.var 6) (.var 4)) .nil) (e := .var 6) (env := [some T, some (sD hp), some (sD s), some (.int acc), some (sD r), some (.int h), none]) (st := st) s r (fun x hx => by
      by_cases hm : x ∈ r
      · simp [lcBody, asgT, wipeE, notin_ok, hm]
      · simp [lcBody, asgT, wipeE, notin_ok, hm])
    have hw : wkOf st (sD s) = some ⟨iD s, []⟩ := rfl
    have hl : (iD (s.filter fun x => !decide (x ∈ r))).length ≤ maxLen := by
      rw [iD_len]
      have := List.length_filter_le (fun x => !decide (x ∈ r)) s
      unfold maxLen
      omega
    have m0 : 0 ≤ maxLen := Nat.zero_le _
    have heq := eq_nil st (s.filter fun x => !decide (x ∈ r))
    have hd : decide ((s.filter fun x => !decide (x ∈ r)) = []) = inB s r := by
      cases hb : inB s r with
      | true => exact decide_eq_true ((filt_nil s r).mpr hb)
      | false => exact decide_eq_false fun z => by rw [(filt_nil s r).mp z] at hb; cases hb
    rw [hd] at heq
    have hbody : forBody C (.tup (.cons (.name 4) (.cons (.name 5) .nil))) (.cons (.ite (.cmp .eq (.lc false [6] (.name 6) (.cons (.var 2) .nil) (.cons (.cmp .notin (.var 6) (.var 4)) .nil) (.var 6)) (.lst false .nil)) (.cons (.asg (.name 3) (.bin .add (.var 3) (.var 5)))
    .nil) .nil)
    .nil) (.tup [sD r, .int h]) [some T, some (sD hp), some (sD s), some (.int acc), x4, x5, none] st = .next [some T, some (sD hp), some (sD s), some (.int (acc + if inB s r then h else 0)), some (sD r), some (.int h), none] st := by
      generalize (s.filter fun x => !decide (x ∈ r)) = FL at *
      generalize hI : iD FL = IF at *
      cases hb : inB s r with
      | true =>
        rw [hb] at heq
        simp [forBody, asgT, asgTs, hw, hlc, hl, m0, heq, pBin]
      | false =>
        rw [hb] at heq
        simp [forBody, asgT, asgTs, hw, hlc, hl, m0, heq, pBin]
    rw [ez]
    simp only [forLoop, still, if_true, hbody]
    rw [e]
    simp [comZ, Int.add_assoc]
theorem common_ok {C : Calls} {m : Int} {heap s : List Int} (hs : s.length ≤ 1000) (st : Store) (hr : C i__law_regions [.int m] st = .ok (.lst ((regs m).map sD)) st) : runDf C d__law_common [.int m, sD heap, sD s] st = .ok (.int (comL m heap s)) st := by
  obtain ⟨y4, y5, e⟩ := com_loop (C := C) (T := .int m) (hp := heap) hs st (regs m) heap 0 none none
  rw [Int.zero_add] at e
  show outR (Mn.exec C b__law_common [some (.int m), some (sD heap), some (sD s), none, none, none, none] st) = _
  unfold b__law_common
  have hw : evw C (.zip (.call i__law_regions (.cons (.var 0) .nil)) (.var 1)) [some (.int m), some (sD heap), some (sD s), some (.int 0), none, none, none] st = .ok ⟨zipD ((regs m).map sD) (iD heap), []⟩ st := by
    have h1 : ev C (.call i__law_regions (.cons (.var 0) .nil)) [some (.int m), some (sD heap), some (sD s), some (.int 0), none, none, none] st = .ok (.lst ((regs m).map sD)) st := hr
    rw [evw_zip, h1]
    rfl
  rw [exS (env' := [some (.int m), some (sD heap), some (sD s), some (.int 0), none, none, none]) (st' := st) rfl, ex_cons, ex_for, hw]
  dsimp only
  rw [e]
  rfl
theorem lots_ok {C : Calls} (D : DrawOk C) {ns : List Int} {m wide : Int} (hw : 0 < wide) {st : Store} {n : Nat} (h : Town st n) (hn : n + (regs m).length < 500) (hr : C i__law_regions [.int m] st = .ok (.lst ((regs m).map sD)) st) :
    ∃ heap st', runDf C d__law_lots [.scr ns, .ob 0, .int m, .int wide] st = .ok (sD heap) st' ∧ heap.length = (regs m).length ∧ (∀ z ∈ heap, 0 ≤ z ∧ z < wide) ∧ Tw st st' (n + heap.length) ∧ st'.length = st.length := by
  obtain ⟨acc, st', e, heap, ea, hl, hz, ht, hle⟩ := lc_inv (body := lcBody C [4] (.name 4) .nil (.call i__law_draw (.cons (.var 0) (.cons (.var 1) (.cons (.var 3) .nil)))) [some (.scr ns), some (.ob 0), some (.int m), some (.int wide), none])
    (fun i acc st' => ∃ heap : List Int, acc.reverse = iD heap ∧ heap.length = i ∧ (∀ z ∈ heap, 0 ≤ z ∧ z < wide) ∧ Tw st st' (n + i) ∧ st'.length = st.length) ((regs m).map sD) 0 [] st ⟨[], rfl, rfl, fun z hz => (nomatch hz), Tw.refl h, rfl⟩ fun j x acc st1 hx hp => by
      obtain ⟨heap, ea, hl, hz, ht, hle⟩ := hp
      have hj : j < (regs m).length := by
        have := (List.getElem?_eq_some_iff.mp hx).1
        simpa using this
      obtain ⟨v, st2, hv, e2, t2, l2⟩ := D ns hw ht.t (by omega)
      refine ⟨some (.int v), st2, ?_, heap ++ [v], by simp [ea, iD], by simp [hl], fun z hz' => ?_, ?_, by rw [l2, hle]⟩
      · show (((C i__law_draw [.scr ns, .ob 0, .int wide] st1).bind fun d st4 => .ok (some d) st4) : Res (Option Mn.D)) = _
        rw [e2]
        rfl
      · rcases List.mem_append.mp hz' with q | q
        · exact hz z q
        · have : z = v := by simpa using q
          subst this; exact hv
      · exact ht.trans t2
  refine ⟨heap, st', ?_, by rw [hl]; simp, hz, by rw [hl]; exact ht, hle⟩
  rw [ea] at e
  have hm : (iD heap).length ≤ maxLen := by
    rw [iD_len, hl]
    simp
    have : (regs m).length ≤ 500 := by omega
    unfold maxLen
    omega
  have hw1 : ∀ xs : List Mn.D, wkOf st (.lst xs) = some ⟨xs, []⟩ := fun _ => rfl
  show outR (Mn.exec C b__law_lots [some (.scr ns), some (.ob 0), some (.int m), some (.int wide), none] st) = _
  unfold b__law_lots
  have h1 : ev C (.call i__law_regions (.cons (.var 2) .nil)) [some (.scr ns), some (.ob 0), some (.int m), some (.int wide), none] st = .ok (.lst ((regs m).map sD)) st := hr
  rw [ex_cons, ex_ret, ev_bi, evs_cons, ev_lc, evw_one, h1, bind_ok]
  rw [hw1, bind_ok]
  rw [e, bind_ok, ndL _ _ hm]
  have h2 : pBi .tuple [.lst (iD heap)] st' = .ok (sD heap) st' := by
    show newT (iD heap) st' = _
    rw [ndT _ _ hm]
    rfl
  simp only [prim_ok, bind_ok, evs_nil, h2]
  rfl
def min9 (c : Int) : Int := if c < 9 then c else 9
theorem comZ_pos {s : List Int} : ∀ (rg : List (List Int)) (hs : List Int), (∀ z ∈ hs, 0 ≤ z) → 0 ≤ comZ s rg hs
  | [], _, _ => by simp [comZ]
  | _ :: _, [], _ => by simp [comZ]
  | r :: rg, h :: hs, hz => by
    have := comZ_pos (s := s) rg hs fun z hz' => hz z (List.mem_cons_of_mem _ hz')
    have := hz h List.mem_cons_self
    unfold comZ
    split <;> omega
theorem regs_pw {m : Int} (h : 1 ≤ m ∧ m ≤ 3) : (regs m).Pairwise fun a b => lts (iD a) (iD b) = true := by
  have : m = 1 ∨ m = 2 ∨ m = 3 := by omega
  rcases this with rfl | rfl | rfl <;> decide
theorem asc_sub {m : Int} (h : 1 ≤ m ∧ m ≤ 3) {rs : List Rw} (hs : (rs.map (·.1)).Sublist (regs m)) : Asc rs := by
  intro i a b ha hb
  have hp := (regs_pw h).sublist hs
  have h1 : (rs.map (·.1))[i]? = some a.1 := by rw [List.getElem?_map, ha]; rfl
  have h2 : (rs.map (·.1))[i + 1]? = some b.1 := by rw [List.getElem?_map, hb]; rfl
  obtain ⟨g1, e1⟩ := List.getElem?_eq_some_iff.mp h1
  obtain ⟨g2, e2⟩ := List.getElem?_eq_some_iff.mp h2
  have := List.pairwise_iff_getElem.mp hp i (i + 1) g1 g2 (by omega)
  rw [e1, e2] at this
  exact this
theorem tel_sub {m : Int} (h : 1 ≤ m ∧ m ≤ 3) {rs : List Rw} (hs : (rs.map (·.1)).Sublist (regs m)) (hn : ∀ r ∈ rs, 0 ≤ r.2 ∧ r.2 ≤ 9) : Tel m rs := by
  refine ⟨h, fun r hr => hs.subset (List.mem_map.mpr ⟨r, hr, rfl⟩), hn, asc_sub h hs, ?_⟩
  have := hs.length_le
  rw [List.length_map] at this
  have := regs_len h
  omega
theorem ge_ints (a b : Int) (st : Store) : pCmp .ge (.int a) (.int b) st = some (decide (b ≤ a)) := rfl
def tlE (ns : List Int) (wide spoilt share m : Int) (heap : List Int) (j : Nat) (x8 x9 x10 : Option Mn.D) : En := [some (.scr ns), some (.ob 0), some (.int wide), some (.int spoilt), some (.int share), some (.int m), some (sD heap), some (.ob j), x8, x9, x10]
def tlB1 : S := (.cons (.ite (.or (.cmp .ge (.call i__law_draw (.cons (.var 0) (.cons (.var 1) (.cons (.con (.int 4)) .nil)))) (.var 4)) (.cmp .eq (.var 8) (.tup .nil))) (.cons (.expr (.me .append (.var 7) (.cons (.tup (.cons (.var 8) (.cons (.bi .min (.cons (.con (.int 9)) (.cons (.call i__law_common (.cons (.var 5) (.cons (.var 6) (.cons (.var 8) .nil)))) .nil))) .nil))) .nil)))
    .nil) .nil)
    .nil)
theorem tl_turn {C : Calls} (D : DrawOk C) {ns : List Int} {wide spoilt share m : Int} {heap : List Int} (hc : ∀ s st, s ∈ regs m → C i__law_common [.int m, sD heap, sD s] st = .ok (.int (comL m heap s)) st) {s : List Int} (hs : s ∈ regs m) {j n : Nat} (hj : 0 < j) (x8 x9 x10 : Option Mn.D) {st : Store} {rs : List Rw} (hr : st[j]? = some (.lst (rs.map rowD))) (hl : rs.length ≤ 100) (ht : Town st n) (hn : n < 400) :
    ∃ b st', forBody C (.name 8) tlB1 (sD s) (tlE ns wide spoilt share m heap j x8 x9 x10) st = .next (tlE ns wide spoilt share m heap j (some (sD s)) x9 x10) st' ∧ st'[j]? = some (.lst ((if b then rs ++ [(s, min9 (comL m heap s))] else rs).map rowD)) ∧ (s = [] → b = true) ∧ Town st' (n + 1) ∧ st'.length = st.length ∧ ∀ i, 0 < i → i ≠ j → st'[i]? = st[i]? := by
  obtain ⟨v, st1, hv, e1, t1, l1⟩ := D ns (many := 4) (by omega) ht (by omega)
  have hr1 := t1.get hj hr
  have hcm := hc s st1 hs
  have hm : rs.length < maxLen := by unfold maxLen; omega
  have m2 : 2 ≤ maxLen := by unfold maxLen; omega
  have m0 : 0 ≤ maxLen := Nat.zero_le _
  have heq : pCmp .eq (sD s) (.tup []) st1 = some (decide (s = [])) := (eq_sets s [] st1).2
  have hfr : ∀ i, 0 < i → i ≠ j → st1[i]? = st[i]? := fun i h1 h2 => by
    by_cases h3 : i < st.length
    · exact t1.fr i h1 h3
    · rw [List.getElem?_eq_none (by omega), List.getElem?_eq_none (by omega)]
  have happ : Mn.exec C (.expr (.me .append (.var 7) (.cons (.tup (.cons (.var 8) (.cons (.bi .min (.cons (.con (.int 9)) (.cons (.call i__law_common (.cons (.var 5) (.cons (.var 6) (.cons (.var 8) .nil)))) .nil))) .nil))) .nil))) (tlE ns wide spoilt share m heap j (some (sD s)) x9 x10) st1 = .next (tlE ns wide spoilt share m heap j (some (sD s)) x9 x10) (st1.set j (.lst ((rs ++ [(s, min9 (comL m heap s))]).map rowD))) := by
    rw [app_ob (xs := rs.map rowD) (d := rowD (s, min9 (comL m heap s))) (j := j) 7 rfl hr1 ?_ (by simpa using hm)]
    · simp
    · have hc' : ev C (.call i__law_common (.cons (.var 5) (.cons (.var 6) (.cons (.var 8) .nil)))) (tlE ns wide spoilt share m heap j (some (sD s)) x9 x10) st1 = .ok (.int (comL m heap s)) st1 := hcm
      rw [ev_tup, evs_cons, show ev C (.var 8) (tlE ns wide spoilt share m heap j (some (sD s)) x9 x10) st1 = .ok (sD s) st1 from rfl, bind_ok, evs_cons, ev_bi, evs_cons, ev_con, bind_ok, evs_cons, hc']
      rfl
  have hdr : ev C (.call i__law_draw (.cons (.var 0) (.cons (.var 1) (.cons (.con (.int 4)) .nil)))) (tlE ns wide spoilt share m heap j (some (sD s)) x9 x10) st = .ok (.int v) st1 := e1
  by_cases hb : (share ≤ v) ∨ s = []
  · refine ⟨true, st1.set j (.lst ((rs ++ [(s, min9 (comL m heap s))]).map rowD)), ?_, set_get hr1, fun _ => rfl, Tw.set t1.t hj, by simp [l1], fun i h1 h2 => by rw [List.getElem?_set_ne (by omega)]; exact hfr i h1 h2⟩
    show Mn.exec C tlB1 (tlE ns wide spoilt share m heap j (some (sD s)) x9 x10) st = _
    have hcond : boolR (ev C (.or (.cmp .ge (.call i__law_draw (.cons (.var 0) (.cons (.var 1) (.cons (.con (.int 4)) .nil)))) (.var 4)) (.cmp .eq (.var 8) (.tup .nil))) (tlE ns wide spoilt share m heap j (some (sD s)) x9 x10) st) = .ok true st1 := by
      rw [ev_or, ev_cmp, hdr, bind_ok, show ev C (.var 4) (tlE ns wide spoilt share m heap j (some (sD s)) x9 x10) st1 = .ok (.int share) st1 from rfl, bind_ok, ge_ints, oB_some, boolR_ok, bind_ok]
      by_cases h1 : share ≤ v
      · rw [decide_eq_true h1]; rfl
      · rw [decide_eq_false h1, if_neg Bool.false_ne_true, ev_cmp, show ev C (.var 8) (tlE ns wide spoilt share m heap j (some (sD s)) x9 x10) st1 = .ok (sD s) st1 from rfl, bind_ok, show ev C (.tup .nil) (tlE ns wide spoilt share m heap j (some (sD s)) x9 x10) st1 = .ok (.tup []) st1 from rfl, bind_ok, heq, decide_eq_true (hb.resolve_left h1)]
        rfl
    unfold tlB1
    rw [ex_cons, ex_ite, hcond]
    dsimp only
    rw [ex_cons, happ]
    rfl
  · refine ⟨false, st1, ?_, hr1, fun h => absurd (Or.inr h) hb, t1.t, l1, hfr⟩
    show Mn.exec C tlB1 (tlE ns wide spoilt share m heap j (some (sD s)) x9 x10) st = _
    have hcond : boolR (ev C (.or (.cmp .ge (.call i__law_draw (.cons (.var 0) (.cons (.var 1) (.cons (.con (.int 4)) .nil)))) (.var 4)) (.cmp .eq (.var 8) (.tup .nil))) (tlE ns wide spoilt share m heap j (some (sD s)) x9 x10) st) = .ok false st1 := by
      rw [ev_or, ev_cmp, hdr, bind_ok, show ev C (.var 4) (tlE ns wide spoilt share m heap j (some (sD s)) x9 x10) st1 = .ok (.int share) st1 from rfl, bind_ok, ge_ints, oB_some, boolR_ok, bind_ok, decide_eq_false fun h => hb (.inl h), if_neg Bool.false_ne_true, ev_cmp, show ev C (.var 8) (tlE ns wide spoilt share m heap j (some (sD s)) x9 x10) st1 = .ok (sD s) st1 from rfl, bind_ok, show ev C (.tup .nil) (tlE ns wide spoilt share m heap j (some (sD s)) x9 x10) st1 = .ok (.tup []) st1 from rfl, bind_ok, heq, decide_eq_false fun h => hb (.inr h)]
      rfl
    unfold tlB1
    rw [ex_cons, ex_ite, hcond]
    rfl
end Pg

set_option Elab.async false
set_option linter.all false
set_option maxRecDepth 100000
set_option maxHeartbeats 8000000
/-! TlC: the law's tellings. -/
namespace Pg
open Mn
def tlB2 : S := (.cons (.asg (.name 10) (.call i__law_draw (.cons (.var 0) (.cons (.var 1) (.cons (.bi .len (.cons (.var 7) .nil)) .nil)))))
    (.cons (.setI (.var 7) (.var 10) (.tup (.cons (.idx (.idx (.var 7) (.var 10)) (.con (.int 0))) (.cons (.call i__law_draw (.cons (.var 0) (.cons (.var 1) (.cons (.con (.int 10)) .nil)))) .nil))))
    .nil))
theorem sp_turnB {C : Calls} (D : DrawOk C) {ns : List Int} {wide spoilt share m : Int} {heap : List Int} {j n : Nat} (hj : 0 < j) (x8 x9 x10 : Option Mn.D) (x : Mn.D) {st : Store} {rs : List Rw} (hr : st[j]? = some (.lst (rs.map rowD))) (hl : 0 < rs.length ∧ rs.length ≤ 100) (ht : Town st n) (hn : n < 400) :
    ∃ (i : Nat) (w : Int) (st' : Store) (y10 : Option Mn.D), forBody C (.name 9) tlB2 x (tlE ns wide spoilt share m heap j x8 x9 x10) st = .next (tlE ns wide spoilt share m heap j x8 (some x) y10) st' ∧ (∃ r, rs[i]? = some r ∧ st'[j]? = some (.lst ((rs.set i (r.1, w)).map rowD))) ∧ (0 ≤ w ∧ w ≤ 9) ∧ Town st' (n + 2) ∧ st'.length = st.length ∧ ∀ i, 0 < i → i ≠ j → st'[i]? = st[i]? := by
  obtain ⟨v, st1, hv, e1, t1, l1⟩ := D ns (many := (rs.length : Int)) (by omega) ht (by omega)
  have hr1 := t1.get hj hr
  obtain ⟨w, st2, hw, e2, t2, l2⟩ := D ns (many := 10) (by omega) t1.t (by omega)
  have hr2 := t2.get hj hr1
  have hvl : v.toNat < rs.length := by omega
  have hfr : ∀ i, 0 < i → i ≠ j → st2[i]? = st[i]? := fun i h1 h2 => by
    by_cases h3 : i < st.length
    · rw [t2.fr i h1 (by omega), t1.fr i h1 h3]
    · rw [List.getElem?_eq_none (by omega), List.getElem?_eq_none (by omega)]
  refine ⟨v.toNat, w, st2.set j (.lst ((rs.set v.toNat ((rs[v.toNat]).1, w)).map rowD)), some (.int v), ?_, ⟨rs[v.toNat], List.getElem?_eq_getElem hvl, set_get hr2⟩, by omega, Tw.set t2.t hj, by simp [l1, l2], fun i h1 h2 => by rw [List.getElem?_set_ne (by omega)]; exact hfr i h1 h2⟩
  have m2 : 2 ≤ maxLen := by unfold maxLen; omega
  have hat : atD (rs.map rowD) v = some (rowD rs[v.toNat]) := by
    have h2 : v < ((rs.map rowD).length : Int) := by rw [List.length_map]; exact hv.2
    simp only [atD, ixOf, hv.1, h2, if_true, Option.bind, List.getElem?_map, List.getElem?_eq_getElem hvl]
    rfl
  have hix : ixOf (rs.map rowD).length v = some v.toNat := by
    have h2 : v < ((rs.map rowD).length : Int) := by rw [List.length_map]; exact hv.2
    simp only [ixOf, hv.1, h2, if_true]
  have q1 : Mn.exec C (.asg (.name 10) (.call i__law_draw (.cons (.var 0) (.cons (.var 1) (.cons (.bi .len (.cons (.var 7) .nil)) .nil))))) (tlE ns wide spoilt share m heap j x8 (some x) x10) st = .next (tlE ns wide spoilt share m heap j x8 (some x) (some (.int v))) st1 := by
    have hb : ev C (.bi .len (.cons (.var 7) .nil)) (tlE ns wide spoilt share m heap j x8 (some x) x10) st = .ok (.int (rs.length : Int)) st := by
      rw [ev_bi, evs_cons, show ev C (.var 7) (tlE ns wide spoilt share m heap j x8 (some x) x10) st = .ok (.ob j) st from rfl, bind_ok, evs_nil, bind_ok, bind_ok]
      show prim (bLen [.ob j] st) = _
      simp [bLen, asQ, asL, obL, hr]
    rw [ex_asg, ev_call, evs_cons, show ev C (.var 0) (tlE ns wide spoilt share m heap j x8 (some x) x10) st = .ok (.scr ns) st from rfl, bind_ok, evs_cons, show ev C (.var 1) (tlE ns wide spoilt share m heap j x8 (some x) x10) st = .ok (.ob 0) st from rfl, bind_ok, evs_cons, hb, bind_ok, evs_nil, bind_ok, bind_ok, bind_ok, bind_ok, e1]
    rfl
  have q2 : Mn.exec C (.setI (.var 7) (.var 10) (.tup (.cons (.idx (.idx (.var 7) (.var 10)) (.con (.int 0))) (.cons (.call i__law_draw (.cons (.var 0) (.cons (.var 1) (.cons (.con (.int 10)) .nil)))) .nil)))) (tlE ns wide spoilt share m heap j x8 (some x) (some (.int v))) st1 = .next (tlE ns wide spoilt share m heap j x8 (some x) (some (.int v))) (st2.set j (.lst ((rs.set v.toNat ((rs[v.toNat]).1, w)).map rowD))) := by
    have hb : ev C (.idx (.idx (.var 7) (.var 10)) (.con (.int 0))) (tlE ns wide spoilt share m heap j x8 (some x) (some (.int v))) st1 = .ok (sD (rs[v.toNat]).1) st1 := by
      rw [ev_idx, ev_idx, show ev C (.var 7) (tlE ns wide spoilt share m heap j x8 (some x) (some (.int v))) st1 = .ok (.ob j) st1 from rfl, bind_ok, show ev C (.var 10) (tlE ns wide spoilt share m heap j x8 (some x) (some (.int v))) st1 = .ok (.int v) st1 from rfl, bind_ok]
      have : pIdx (.ob j) (.int v) st1 = .ok (rowD rs[v.toNat]) st1 := by simp only [pIdx, hr1, hat, optR]
      rw [this]
      rfl
    have hd : ev C (.call i__law_draw (.cons (.var 0) (.cons (.var 1) (.cons (.con (.int 10)) .nil)))) (tlE ns wide spoilt share m heap j x8 (some x) (some (.int v))) st1 = .ok (.int w) st2 := e2
    have ht' : ev C (.tup (.cons (.idx (.idx (.var 7) (.var 10)) (.con (.int 0))) (.cons (.call i__law_draw (.cons (.var 0) (.cons (.var 1) (.cons (.con (.int 10)) .nil)))) .nil))) (tlE ns wide spoilt share m heap j x8 (some x) (some (.int v))) st1 = .ok (rowD ((rs[v.toNat]).1, w)) st2 := by
      rw [ev_tup, evs_cons, hb, bind_ok, evs_cons, hd]
      rfl
    have hset : pSetI (.ob j) (.int v) (rowD ((rs[v.toNat]).1, w)) st2 = some (st2.set j (.lst ((rs.set v.toNat ((rs[v.toNat]).1, w)).map rowD))) := by
      simp only [pSetI, hr2, hix]
      rw [List.map_set]
    rw [ex_setI, ht']
    dsimp only
    rw [show ev C (.var 7) (tlE ns wide spoilt share m heap j x8 (some x) (some (.int v))) st2 = .ok (.ob j) st2 from rfl]
    dsimp only
    rw [show ev C (.var 10) (tlE ns wide spoilt share m heap j x8 (some x) (some (.int v))) st2 = .ok (.int v) st2 from rfl]
    dsimp only
    rw [hset]
  show Mn.exec C tlB2 (tlE ns wide spoilt share m heap j x8 (some x) x10) st = _
  unfold tlB2
  rw [exS q1, exS q2]
  rfl
structure TelOut (m : Int) (rs : List Rw) (heap : List Int) (spoilt : Int) : Prop where
  hm : 1 ≤ m ∧ m ≤ 3
  sub : (rs.map (·.1)).Sublist (regs m)
  hn : ∀ r ∈ rs, 0 ≤ r.2 ∧ r.2 ≤ 9
  fst : ∃ c q, rs = ([], c) :: q
  hl : heap.length = (regs m).length
  com : spoilt = 0 → ∀ r ∈ rs, r.2 = min9 (comL m heap r.1)
theorem TelOut.tel {m : Int} {rs : List Rw} {heap : List Int} {spoilt : Int} (h : TelOut m rs heap spoilt) : Tel m rs := tel_sub h.hm h.sub h.hn
theorem regs_hd {m : Int} (h : 1 ≤ m ∧ m ≤ 3) : (regs m)[0]? = some [] := by
  have : m = 1 ∨ m = 2 ∨ m = 3 := by omega
  rcases this with rfl | rfl | rfl <;> rfl
theorem telling_okB {C : Calls} (D : DrawOk C) {ns : List Int} {wide spoilt : Int} (hw : 0 < wide) (hsp : 0 ≤ spoilt ∧ spoilt ≤ 10)
    (hreg : ∀ m st, 1 ≤ m ∧ m ≤ 3 → C i__law_regions [.int m] st = .ok (.lst ((regs m).map sD)) st)
    (hlots : ∀ m n st, 1 ≤ m ∧ m ≤ 3 → Town st n → n < 400 → ∃ heap st', C i__law_lots [.scr ns, .ob 0, .int m, .int wide] st = .ok (sD heap) st' ∧ heap.length = (regs m).length ∧ (∀ z ∈ heap, 0 ≤ z ∧ z < wide) ∧ Tw st st' (n + heap.length) ∧ st'.length = st.length)
    (hc : ∀ m heap s st, s ∈ regs m → 1 ≤ m ∧ m ≤ 3 → C i__law_common [.int m, sD heap, sD s] st = .ok (.int (comL m heap s)) st) {st : Store} {n : Nat} (h : Town st n) (hn : n < 300) :
    ∃ m rs heap st' n', runDf C d__law_telling [.scr ns, .ob 0, .int wide, .int spoilt] st = .ok (telD m rs) st' ∧ TelOut m rs heap spoilt ∧ (∀ z ∈ heap, 0 ≤ z ∧ z < wide) ∧ Tw st st' n' ∧ n' ≤ n + 60 := by
  obtain ⟨share, st1, hs, e1, t1, l1⟩ := D ns (many := 4) (by omega) h (by omega)
  obtain ⟨m0, st2, hm0, e2, t2, l2⟩ := D ns (many := 3) (by omega) t1.t (by omega)
  have hm : 1 ≤ 1 + m0 ∧ 1 + m0 ≤ 3 := by omega
  generalize hmm : 1 + m0 = m at *
  obtain ⟨heap, st3, e3, hhl, hz, t3, l3⟩ := hlots m (n + 1 + 1) st2 hm t2.t (by omega)
  have hr8 := regs_len hm
  have hpos := h.pos
  have hjl : 0 < st3.length := by omega
  have hg : (st3 ++ [Ob.lst []])[st3.length]? = some (.lst (([] : List Rw).map rowD)) := by simp
  obtain ⟨env5, st5, e5, rs, x8, rfl, g1, g2, g3, g4, g5, g6, g7⟩ := for_inv (body := forBody C (.name 8) tlB1) (fun i env st' => ∃ (rs : List Rw) (x8 : Option Mn.D), env = tlE ns wide spoilt share m heap st3.length x8 none none ∧ st'[st3.length]? = some (.lst (rs.map rowD)) ∧
      (rs.map (·.1)).Sublist ((regs m).take i) ∧ (∀ r ∈ rs, r.2 = min9 (comL m heap r.1)) ∧ (0 < i → ∃ c q, rs = ([], c) :: q) ∧ Town st' (n + 1 + 1 + heap.length + i) ∧ st'.length = st3.length + 1 ∧ ∀ i, 0 < i → i ≠ st3.length → st'[i]? = (st3 ++ [Ob.lst []])[i]?)
    ((regs m).map sD) 0 (tlE ns wide spoilt share m heap st3.length none none none) (st3 ++ [.lst []])
    ⟨[], none, rfl, hg, List.nil_sublist _, fun r hr => (nomatch hr), fun z => by omega, t3.t.app _, by simp, fun _ _ _ => rfl⟩ fun i x env st' hx hp => by
      obtain ⟨rs, x8, rfl, g1, g2, g3, g4, g5, g6, g7⟩ := hp
      have hil : i < (regs m).length := by
        have := (List.getElem?_eq_some_iff.mp hx).1
        simpa using this
      rw [List.getElem?_map, List.getElem?_eq_getElem hil] at hx
      have hx : x = sD (regs m)[i] := by cases hx; rfl
      subst hx
      have hrl : rs.length ≤ 8 := by
        have := g2.length_le
        rw [List.length_map, List.length_take] at this
        omega
      obtain ⟨b, st6, e6, k1, k2, k3, k4, k5⟩ := tl_turn D (fun s st hs => hc m heap s st hs hm) (List.getElem_mem hil) hjl x8 none none g1 (by omega) g5 (by omega)
      refine ⟨_, st6, e6, if b then rs ++ [((regs m)[i], min9 (comL m heap (regs m)[i]))] else rs, some (sD (regs m)[i]), rfl, k1, ?_, ?_, ?_, ?_, by rw [k4, g6], fun i h1 h2 => by rw [k5 i h1 h2, g7 i h1 h2]⟩
      · simp only [Nat.zero_add] at g2 ⊢
        rw [List.take_succ_eq_append_getElem hil]
        cases b with
        | true =>
          simp only [if_true, List.map_append, List.map_cons, List.map_nil]
          exact g2.append (List.Sublist.refl _)
        | false => exact g2.trans (List.sublist_append_left _ _)
      · intro r hr
        cases b with
        | true =>
          have hr2 : r ∈ rs ++ [((regs m)[i], min9 (comL m heap (regs m)[i]))] := hr
          rcases List.mem_append.mp hr2 with z | z
          · exact g3 r z
          · have : r = ((regs m)[i], min9 (comL m heap (regs m)[i])) := by simpa using z
            subst this; rfl
        | false => exact g3 r hr
      · intro _
        simp only [Nat.zero_add] at g4 g2
        by_cases hi : 0 < i
        · obtain ⟨c, q, eq⟩ := g4 hi
          subst eq
          cases b with
          | true => exact ⟨c, q ++ [((regs m)[i], min9 (comL m heap (regs m)[i]))], rfl⟩
          | false => exact ⟨c, q, rfl⟩
        · have hi0 : i = 0 := by omega
          subst hi0
          have h0 : (regs m)[0] = [] := by
            have := regs_hd hm
            rw [List.getElem?_eq_getElem hil] at this
            exact Option.some.inj this
          have hrs : rs = [] := by
            have := g2.length_le
            rw [List.length_map, List.length_take] at this
            exact List.length_eq_zero_iff.mp (by omega)
          subst hrs
          rw [k2 h0, h0]
          exact ⟨_, [], rfl⟩
      · rw [show n + 1 + 1 + heap.length + (0 + i + 1) = n + 1 + 1 + heap.length + (0 + i) + 1 by omega]
        exact k3
  have hreg8 : ((regs m).map sD).length = (regs m).length := by simp
  rw [hreg8, Nat.zero_add] at g2 g4 g5
  rw [List.take_length] at g2
  have hfst := g4 (List.getElem?_eq_some_iff.mp (regs_hd hm)).1
  have hrl8 : rs.length ≤ 8 := by
    have := g2.length_le
    rw [List.length_map] at this
    omega
  have hmin : ∀ r ∈ rs, 0 ≤ r.2 ∧ r.2 ≤ 9 := fun r hr => by
    rw [g3 r hr]
    have := comZ_pos (s := r.1) (regs m) heap fun z hz' => (hz z hz').1
    unfold min9 comL
    split <;> omega
  obtain ⟨env7, st7, e7, rs7, x9, x10, rfl, q1, q2, q3, q4, q5, q6, q7⟩ := for_inv (body := forBody C (.name 9) tlB2) (fun i env st' => ∃ (rs' : List Rw) (x9 x10 : Option Mn.D), env = tlE ns wide spoilt share m heap st3.length x8 x9 x10 ∧ st'[st3.length]? = some (.lst (rs'.map rowD)) ∧
      rs'.map (·.1) = rs.map (·.1) ∧ (∀ r ∈ rs', 0 ≤ r.2 ∧ r.2 ≤ 9) ∧ (i = 0 → rs' = rs) ∧ Town st' (n + 1 + 1 + heap.length + (regs m).length + 2 * i) ∧ st'.length = st3.length + 1 ∧ ∀ i, 0 < i → i ≠ st3.length → st'[i]? = (st3 ++ [Ob.lst []])[i]?)
    (rangeD 0 spoilt.toNat) 0 (tlE ns wide spoilt share m heap st3.length x8 none none) st5
    ⟨rs, none, none, rfl, g1, rfl, hmin, fun _ => rfl, g5, g6, g7⟩ fun i x env st' hx hp => by
      obtain ⟨rs', x9, x10, rfl, q1, q2, q3, q4, q5, q6, q7⟩ := hp
      have hil : i < spoilt.toNat := by
        have := (List.getElem?_eq_some_iff.mp hx).1
        rw [rangeD_eq, List.length_map, rgI_len] at this
        exact this
      have hlen : rs'.length = rs.length := by
        have := congrArg List.length q2
        simpa using this
      have hp0 : 0 < rs.length := by
        obtain ⟨c, q, eq⟩ := hfst
        rw [eq]; simp
      obtain ⟨i', w, st8, y10, e8, ⟨r, hr, k1⟩, k2, k3, k4, k5⟩ := sp_turnB D (wide := wide) (spoilt := spoilt) (share := share) (m := m) (heap := heap) hjl x8 x9 x10 x q1 (by omega) q5 (by omega)
      refine ⟨_, st8, e8, rs'.set i' (r.1, w), some x, y10, rfl, k1, ?_, fun r' hr' => ?_, fun z => by omega, ?_, by rw [k4, q6], fun i h1 h2 => by rw [k5 i h1 h2, q7 i h1 h2]⟩
      · rw [List.map_set, ← q2]
        apply List.ext_getElem?
        intro a
        by_cases ha : i' = a
        · subst ha
          have hb : i' < (rs'.map (·.1)).length := by rw [List.length_map]; exact (List.getElem?_eq_some_iff.mp hr).1
          rw [List.getElem?_set_self hb, List.getElem?_map, hr]
          rfl
        · rw [List.getElem?_set_ne ha]
      · rcases List.mem_or_eq_of_mem_set hr' with z | z
        · exact q3 r' z
        · rw [z]; exact k2
      · rw [show n + 1 + 1 + heap.length + (regs m).length + 2 * (0 + i + 1) = n + 1 + 1 + heap.length + (regs m).length + 2 * (0 + i) + 2 by omega]
        exact k3
  have hspl : (rangeD 0 spoilt.toNat).length = spoilt.toNat := by rw [rangeD_eq, List.length_map, rgI_len]
  rw [hspl, Nat.zero_add] at q4 q5
  refine ⟨m, rs7, heap, st7, _, ?_, ⟨hm, by rw [q2]; exact g2, q3, ?_, hhl, fun h0 r hr => ?_⟩, hz, ⟨q5, by omega, fun i h1 h2 => ?_⟩, by omega⟩
  · show outR (Mn.exec C b__law_telling [some (.scr ns), some (.ob 0), some (.int wide), some (.int spoilt), none, none, none, none, none, none, none] st) = _
    unfold b__law_telling
    have p1 : Mn.exec C (.asg (.name 4) (.call i__law_draw (.cons (.var 0) (.cons (.var 1) (.cons (.con (.int 4)) .nil))))) [some (.scr ns), some (.ob 0), some (.int wide), some (.int spoilt), none, none, none, none, none, none, none] st = .next [some (.scr ns), some (.ob 0), some (.int wide), some (.int spoilt), some (.int share), none, none, none, none, none, none] st1 := by
      rw [ex_asg, show ev C (.call i__law_draw (.cons (.var 0) (.cons (.var 1) (.cons (.con (.int 4)) .nil)))) [some (.scr ns), some (.ob 0), some (.int wide), some (.int spoilt), none, none, none, none, none, none, none] st = .ok (.int share) st1 from e1]
      rfl
    have p2 : Mn.exec C (.asg (.name 5) (.bin .add (.con (.int 1)) (.call i__law_draw (.cons (.var 0) (.cons (.var 1) (.cons (.con (.int 3)) .nil)))))) [some (.scr ns), some (.ob 0), some (.int wide), some (.int spoilt), some (.int share), none, none, none, none, none, none] st1 = .next [some (.scr ns), some (.ob 0), some (.int wide), some (.int spoilt), some (.int share), some (.int m), none, none, none, none, none] st2 := by
      rw [ex_asg, ev_bin, ev_con, bind_ok, show ev C (.call i__law_draw (.cons (.var 0) (.cons (.var 1) (.cons (.con (.int 3)) .nil)))) [some (.scr ns), some (.ob 0), some (.int wide), some (.int spoilt), some (.int share), none, none, none, none, none, none] st1 = .ok (.int m0) st2 from e2, ← hmm]
      rfl
    have p3 : Mn.exec C (.asg (.name 6) (.call i__law_lots (.cons (.var 0) (.cons (.var 1) (.cons (.var 5) (.cons (.var 2) .nil)))))) [some (.scr ns), some (.ob 0), some (.int wide), some (.int spoilt), some (.int share), some (.int m), none, none, none, none, none] st2 = .next [some (.scr ns), some (.ob 0), some (.int wide), some (.int spoilt), some (.int share), some (.int m), some (sD heap), none, none, none, none] st3 := by
      rw [ex_asg, show ev C (.call i__law_lots (.cons (.var 0) (.cons (.var 1) (.cons (.var 5) (.cons (.var 2) .nil))))) [some (.scr ns), some (.ob 0), some (.int wide), some (.int spoilt), some (.int share), some (.int m), none, none, none, none, none] st2 = .ok (sD heap) st3 from e3]
      rfl
    have hw5 : evw C (.cons (.call i__law_regions (.cons (.var 5) .nil)) .nil) (tlE ns wide spoilt share m heap st3.length none none none) (st3 ++ [.lst []]) = .ok ⟨(regs m).map sD, []⟩ (st3 ++ [.lst []]) := by
      rw [evw_one, show ev C (.call i__law_regions (.cons (.var 5) .nil)) (tlE ns wide spoilt share m heap st3.length none none none) (st3 ++ [.lst []]) = .ok (.lst ((regs m).map sD)) (st3 ++ [.lst []]) from hreg m _ hm]
      rfl
    have hw7 : evw C (.rng (.var 3)) (tlE ns wide spoilt share m heap st3.length x8 none none) st5 = .ok ⟨rangeD 0 spoilt.toNat, []⟩ st5 := by
      have hsm : small spoilt = true := by simp [small]; omega
      show (if small spoilt then Res.ok (⟨rangeD 0 spoilt.toNat, []⟩ : Wk) st5 else .err) = _
      rw [hsm]
      rfl
    have e5' : forLoop [] (forBody C (.name 8) (.cons (.ite (.or (.cmp .ge (.call i__law_draw (.cons (.var 0) (.cons (.var 1) (.cons (.con (.int 4)) .nil)))) (.var 4)) (.cmp .eq (.var 8) (.tup .nil))) (.cons (.expr (.me .append (.var 7) (.cons (.tup (.cons (.var 8) (.cons (.bi .min (.cons (.con (.int 9)) (.cons (.call i__law_common (.cons (.var 5) (.cons (.var 6) (.cons (.var 8) .nil)))) .nil))) .nil))) .nil)))
    .nil) .nil)
    .nil)) ((regs m).map sD) (tlE ns wide spoilt share m heap st3.length none none none) (st3 ++ [.lst []]) = _ := e5
    have e7' : forLoop [] (forBody C (.name 9) (.cons (.asg (.name 10) (.call i__law_draw (.cons (.var 0) (.cons (.var 1) (.cons (.bi .len (.cons (.var 7) .nil)) .nil)))))
    (.cons (.setI (.var 7) (.var 10) (.tup (.cons (.idx (.idx (.var 7) (.var 10)) (.con (.int 0))) (.cons (.call i__law_draw (.cons (.var 0) (.cons (.var 1) (.cons (.con (.int 10)) .nil)))) .nil))))
    .nil))) (rangeD 0 spoilt.toNat) (tlE ns wide spoilt share m heap st3.length x8 none none) st5 = _ := e7
    rw [exS p1, exS p2, exS p3, exS (env' := tlE ns wide spoilt share m heap st3.length none none none) (st' := st3 ++ [.lst []]) rfl, ex_cons, ex_for, hw5]
    dsimp only
    rw [e5']
    dsimp only
    rw [ex_cons, ex_for, hw7]
    dsimp only
    rw [e7']
    dsimp only
    have hlen7 : rs7.length = rs.length := by
      have := congrArg List.length q2
      simpa using this
    have ht7 : (rs7.map rowD).length ≤ maxLen := by rw [List.length_map]; unfold maxLen; omega
    have m2 : 2 ≤ maxLen := by unfold maxLen; omega
    have htup : ev C (.bi .tuple (.cons (.var 7) .nil)) (tlE ns wide spoilt share m heap st3.length x8 x9 x10) st7 = .ok (.tup (rs7.map rowD)) st7 := by
      rw [ev_bi, evs_cons, show ev C (.var 7) (tlE ns wide spoilt share m heap st3.length x8 x9 x10) st7 = .ok (.ob st3.length) st7 from rfl, bind_ok, evs_nil, bind_ok, bind_ok]
      show prim (bTuple [.ob st3.length] st7) = _
      simp [bTuple, asL, obL, q1, ndT _ _ ht7]
    rw [ex_cons, ex_ret, ev_tup, evs_cons, show ev C (.var 5) (tlE ns wide spoilt share m heap st3.length x8 x9 x10) st7 = .ok (.int m) st7 from rfl, bind_ok, evs_cons, htup]
    rfl
  · obtain ⟨c, q, eq⟩ := hfst
    subst eq
    cases rs7 with
    | nil => simp at q2
    | cons r7 q7' =>
      have : r7.1 = [] := by
        have := congrArg List.head? q2
        simpa using this
      obtain ⟨r71, r72⟩ := r7
      dsimp only at this
      subst this
      exact ⟨r72, q7', rfl⟩
  · have := q4 (by omega)
    subst this
    exact g3 r hr
  · have hne : i ≠ st3.length := by omega
    rw [q7 i h1 hne, List.getElem?_append_left (by omega), t3.fr i h1 (by omega), t2.fr i h1 (by omega), t1.fr i h1 (by omega)]
end Pg

set_option Elab.async false
set_option linter.all false
set_option maxRecDepth 100000
set_option maxHeartbeats 8000000
/-! OdB: what is no telling; picks. -/
namespace Pg
open Mn
def odds : List Mn.D := [.non, .int 5, .tup [], .tup [.int 0, .tup []], .tup [.int 4, .tup []], .tup [.bl true, .tup []], .tup [.int 2, .lst [.tup [.tup [.int 0], .int 1]]], .lst [.int 2, .tup []], .tup [.int 2, .tup [.tup [.tup [.int 0], .int 10]]], .tup [.int 2, .tup [.tup [.tup [.int 2], .int 1]]],
  .tup [.int 2, .tup [.tup [.tup [.int 1, .int 0], .int 1]]], .tup [.int 2, .tup [.tup [.tup [.int 0], .int 1], .tup [.tup [.int 0], .int 1]]], .tup [.int 2, .tup [.tup [.tup [.int 1], .int 1], .tup [.tup [.int 0], .int 1]]], .tup [.int 2, .tup [.tup [.tup [.int 0], .bl true]]],
  .str "2: 0=1", .tup [.int 2, .tup [.tup [.int 0, .int 1]]], .tup [.int 2, .tup [.tup [.tup [.int 0], .int (-1)]]], .tup [.int 2], .tup [.int 2, .tup [.non]]]
def PickOk (C : Calls) : Prop := ∀ (ns : List Int) {st : Store} {n : Nat} (ds : List Mn.D), ds ≠ [] → ds.length ≤ 1000 → Town st n → n < 500 → ∃ d st', d ∈ ds ∧ C i__law_pick [.scr ns, .ob 0, .lst ds] st = .ok d st' ∧ Tw st st' (n + 1) ∧ st'.length = st.length
theorem pick_w (k : Nat) : PickOk (callN (tab L) (k + 4)) := fun ns {st n} ds h0 hm h hn => by
  have hp := List.length_pos_iff.mpr h0
  obtain ⟨v, st', hv, e, t, l⟩ := draw_w k ns (many := (ds.length : Int)) (by omega) h hn
  have hvl : v.toNat < ds.length := by omega
  refine ⟨ds[v.toNat], st', List.getElem_mem hvl, ?_, t, l⟩
  rw [c__law_pick]
  have ea : atD ds v = some ds[v.toNat] := by
    simp only [atD, ixOf, hv.1, hv.2, if_true, Option.bind]
    exact List.getElem?_eq_getElem _
  simp [runDf, d__law_pick, b__law_pick, pBi, bLen, asQ, asL, e, idx_lst, ea, optR]
def ref (n : Int) : Mn.D := .tup [.str "refused", .int n]
end Pg

set_option Elab.async false
set_option linter.all false
set_option maxRecDepth 100000
set_option maxHeartbeats 8000000
/-! Lo: are_lots. -/
namespace Pg
open Mn
def lotsB (m : Int) (l : List Int) : Bool := decide (l.length = (regs m).length) && l.all fun z => decide (0 ≤ z) && decide (z ≤ 99)
theorem cut_init (l : List Mn.D) : cut l none (some (-1)) = l.dropLast := by
  unfold cut bnd
  cases l with
  | nil => rfl
  | cons a l =>
    have h : ((-1 : Int) + ((a :: l).length : Nat)).toNat = l.length := by simp only [List.length_cons]; omega
    simp only [show ((-1 : Int) < 0) from by decide, if_true, h, List.drop_zero, Nat.sub_zero]
    rw [List.dropLast_eq_take]
    simp
end Pg

set_option Elab.async false
set_option linter.all false
set_option maxRecDepth 100000
set_option maxHeartbeats 8000000
/-! Lx: the order of tuples; plain lists; short forms of what is shown. -/
namespace Pg
open Mn
theorem lx_cons (a b : Int) (x y : List Int) : lts (iD (a :: x)) (iD (b :: y)) = if a = b then lts (iD x) (iD y) else decide (a < b) := by
  show (if decide (a = b) then lts (iD x) (iD y) else decide (a < b)) = _
  by_cases h : a = b <;> simp [h]
theorem lx_tot : ∀ a b : List Int, a ≠ b → lts (iD a) (iD b) = true ∨ lts (iD b) (iD a) = true
  | [], [], h => absurd rfl h
  | [], _ :: _, _ => .inl rfl
  | _ :: _, [], _ => .inr rfl
  | a :: x, b :: y, h => by
    rw [lx_cons, lx_cons]
    by_cases e : a = b
    · subst e
      simp only [if_true]
      exact lx_tot x y fun e => h (by rw [e])
    · rw [if_neg e, if_neg (fun z => e z.symm)]
      simp only [decide_eq_true_eq]
      omega
theorem lx_tr : ∀ a b c : List Int, lts (iD a) (iD b) = true → lts (iD b) (iD c) = true → lts (iD a) (iD c) = true
  | [], [], _, h, _ => by cases h
  | [], _ :: _, [], _, h => by cases h
  | [], _ :: _, _ :: _, _, _ => rfl
  | _ :: _, [], _, h, _ => by cases h
  | _ :: _, _ :: _, [], _, h => by cases h
  | a :: x, b :: y, c :: z, h1, h2 => by
    rw [lx_cons] at h1 h2 ⊢
    by_cases e1 : a = b
    · subst e1
      rw [if_pos rfl] at h1
      by_cases e2 : a = c
      · subst e2
        rw [if_pos rfl] at h2 ⊢
        exact lx_tr x y z h1 h2
      · rw [if_neg e2] at h2 ⊢
        exact h2
    · rw [if_neg e1, decide_eq_true_eq] at h1
      by_cases e2 : b = c
      · subst e2
        rw [if_neg e1, decide_eq_true_eq]
        exact h1
      · rw [if_neg e2, decide_eq_true_eq] at h2
        rw [if_neg (by omega), decide_eq_true_eq]
        omega
theorem lx_irr (a : List Int) : lts (iD a) (iD a) = false := by
  induction a with
  | nil => rfl
  | cons a x ih => rw [lx_cons, if_pos rfl, ih]
def LxP (l : List (List Int)) : Prop := l.Pairwise fun a b => lts (iD a) (iD b) = true
/-- two rising lists of the same members are one -/
theorem lx_same : ∀ {a b : List (List Int)}, LxP a → LxP b → (∀ x, x ∈ a ↔ x ∈ b) → a = b
  | [], [], _, _, _ => rfl
  | [], y :: b, _, _, h => by have := (h y).mpr (by simp); simp at this
  | x :: a, [], _, _, h => by have := (h x).mp (by simp); simp at this
  | x :: a, y :: b, ha, hb, h => by
    unfold LxP at ha hb
    rw [List.pairwise_cons] at ha hb
    have e : x = y := by
      have h1 := (h x).mp (by simp)
      have h2 := (h y).mpr (by simp)
      rcases List.mem_cons.mp h1 with z | z
      · exact z
      · rcases List.mem_cons.mp h2 with w | w
        · exact w.symm
        · have g1 := hb.1 x z
          have g2 := ha.1 y w
          have := lx_tr _ _ _ g1 g2
          rw [lx_irr] at this
          cases this
    subst e
    rw [lx_same ha.2 hb.2 fun z => ?_]
    have hz := h z
    constructor
    · intro hm
      rcases List.mem_cons.mp (hz.mp (by simp [hm])) with w | w
      · subst w
        have := ha.1 z hm
        rw [lx_irr] at this
        cases this
      · exact w
    · intro hm
      rcases List.mem_cons.mp (hz.mpr (by simp [hm])) with w | w
      · subst w
        have := hb.1 z hm
        rw [lx_irr] at this
        cases this
      · exact w
theorem fm_map {α β : Type} (f : α → β) : ∀ l : List α, l.filterMap (fun a => some (f a)) = l.map f
  | [] => rfl
  | a :: l => by simp only [List.filterMap_cons, List.map_cons, fm_map f l]
theorem fm_if {α β : Type} (p : α → Bool) (f : α → β) : ∀ l : List α, l.filterMap (fun a => if p a then some (f a) else none) = (l.filter p).map f
  | [] => rfl
  | a :: l => by
    simp only [List.filterMap_cons, List.filter_cons]
    cases h : p a <;> simp [fm_if p f l]
/-! ### lists of a known length -/
theorem list1 {α : Type} {l : List α} (h : l.length = 2) : ∃ a b, l = [a, b] := by
  match l, h with
  | [a, b], _ => exact ⟨a, b, rfl⟩
theorem list2 {α : Type} {l : List α} (h : l.length = 4) : ∃ a b c d, l = [a, b, c, d] := by
  match l, h with
  | [a, b, c, d], _ => exact ⟨a, b, c, d, rfl⟩
theorem list3 {α : Type} {l : List α} (h : l.length = 8) : ∃ a b c d e f g i, l = [a, b, c, d, e, f, g, i] := by
  match l, h with
  | [a, b, c, d, e, f, g, i], _ => exact ⟨a, b, c, d, e, f, g, i, rfl⟩
/-! ### sameness of plain things -/
mutual
theorem eqv_refl : ∀ d : Mn.D, d.isP = true → d.eqv d = true
  | .non, _ => rfl
  | .bl b, _ => by simp [D.eqv]
  | .int i, _ => by simp [D.eqv]
  | .str x, _ => by simp [D.eqv]
  | .tup xs, h => by
    have := eqvs_refl xs h
    simp only [D.eqv, this]
  | .lst xs, h => by
    have := eqvs_refl xs h
    simp only [D.eqv, this]
  | .ob _, h => by cases h
  | .fn _, h => by cases h
  | .ex _, h => by cases h
  | .scr _, h => by cases h
theorem eqvs_refl : ∀ ds : List Mn.D, isPs ds = true → eqvs ds ds = true
  | [], _ => rfl
  | d :: ds, h => by
    have h : (d.isP && isPs ds) = true := h
    rw [Bool.and_eq_true] at h
    simp only [eqvs, eqv_refl d h.1, eqvs_refl ds h.2, Bool.and_self]
end
/-- == and != of the same thing -/
theorem eq_same {d : Mn.D} (h : d.okp = true) (hs : ∀ st, vw st d = d) (hx : ∀ ns, d ≠ .scr ns) (st : Store) : pCmp .eq d d st = some true ∧ pCmp .ne d d st = some false := by
  have h1 := eqv_refl d (okp_isP h)
  constructor
  · have : scrEq d d = none := by
      cases d with
      | scr ns => exact absurd rfl (hx ns)
      | _ => rfl
    show (scrEq d d).orElse (fun _ => if (vw st d).okp && (vw st d).okp then some ((vw st d).eqv (vw st d)) else none) = _
    rw [this, hs, h, h1]
    rfl
  · show (if (vw st d).okp && (vw st d).okp then some (!(vw st d).eqv (vw st d)) else none) = _
    rw [hs, h, h1]
    rfl
theorem isPs_map {α : Type} {f : α → Mn.D} {l : List α} {n : Nat} (h : ∀ a ∈ l, (f a).isP = true ∧ (f a).dep ≤ n) : isPs (l.map f) = true ∧ deps (l.map f) ≤ n := by
  induction l with
  | nil => exact ⟨rfl, Nat.zero_le _⟩
  | cons a l ih =>
    have h1 := h a (by simp)
    have h2 := ih fun b hb => h b (by simp [hb])
    refine ⟨?_, ?_⟩
    · show ((f a).isP && isPs (l.map f)) = true
      rw [h1.1, h2.1]; rfl
    · show max (f a).dep (deps (l.map f)) ≤ n
      omega
theorem sD_P (s : List Int) : (sD s).isP = true ∧ (sD s).dep ≤ 1 := by
  refine ⟨isPs_ints s, ?_⟩
  show deps (iD s) + 1 ≤ 1
  have : deps (iD s) = 0 := deps_ints s
  omega
theorem lst_ok {xs : List Mn.D} (h : isPs xs = true) (hd : deps xs ≤ 59) : (Mn.D.lst xs).okp = true := by
  unfold D.okp
  rw [show (Mn.D.lst xs).isP = true from h, show (Mn.D.lst xs).dep = deps xs + 1 from rfl]
  simp; omega
theorem tup_ok {xs : List Mn.D} (h : isPs xs = true) (hd : deps xs ≤ 59) : (Mn.D.tup xs).okp = true := by
  unfold D.okp
  rw [show (Mn.D.tup xs).isP = true from h, show (Mn.D.tup xs).dep = deps xs + 1 from rfl]
  simp; omega
/-- == of plain lists -/
theorem cmp_lst {a b : List Mn.D} (ha : isPs a = true ∧ deps a ≤ 59) (hb : isPs b = true ∧ deps b ≤ 59) (st : Store) : pCmp .eq (.lst a) (.lst b) st = some (eqvs a b) ∧ pCmp .ne (.lst a) (.lst b) st = some (!eqvs a b) := by
  have h1 := lst_ok ha.1 ha.2
  have h2 := lst_ok hb.1 hb.2
  constructor
  · show (if (vw st (.lst a)).okp && (vw st (.lst b)).okp then some ((vw st (.lst a)).eqv (vw st (.lst b))) else none) = _
    rw [show vw st (.lst a) = .lst a from rfl, show vw st (.lst b) = .lst b from rfl, h1, h2]
    rfl
  · show (if (vw st (.lst a)).okp && (vw st (.lst b)).okp then some (!(vw st (.lst a)).eqv (vw st (.lst b))) else none) = _
    rw [show vw st (.lst a) = .lst a from rfl, show vw st (.lst b) = .lst b from rfl, h1, h2]
    rfl
theorem cmp_tup {a b : List Mn.D} (ha : isPs a = true ∧ deps a ≤ 59) (hb : isPs b = true ∧ deps b ≤ 59) (st : Store) : pCmp .eq (.tup a) (.tup b) st = some (eqvs a b) ∧ pCmp .ne (.tup a) (.tup b) st = some (!eqvs a b) := by
  have h1 := tup_ok ha.1 ha.2
  have h2 := tup_ok hb.1 hb.2
  constructor
  · show (if (vw st (.tup a)).okp && (vw st (.tup b)).okp then some ((vw st (.tup a)).eqv (vw st (.tup b))) else none) = _
    rw [show vw st (.tup a) = .tup a from rfl, show vw st (.tup b) = .tup b from rfl, h1, h2]
    rfl
  · show (if (vw st (.tup a)).okp && (vw st (.tup b)).okp then some (!(vw st (.tup a)).eqv (vw st (.tup b))) else none) = _
    rw [show vw st (.tup a) = .tup a from rfl, show vw st (.tup b) = .tup b from rfl, h1, h2]
    rfl
/-! ### the store -/
theorem idx_ob {st : Store} {j : Nat} {xs : List Mn.D} {i : Int} {d : Mn.D} (h : st[j]? = some (.lst xs)) (h2 : atD xs i = some d) : pIdx (.ob j) (.int i) st = .ok d st := by
  simp only [pIdx, h, h2]; rfl
theorem setI_ob {st : Store} {j : Nat} {xs : List Mn.D} {i : Int} {d : Mn.D} (h : st[j]? = some (.lst xs)) (h2 : 0 ≤ i ∧ i < xs.length) : pSetI (.ob j) (.int i) d st = some (st.set j (.lst (xs.set i.toNat d))) := by
  simp only [pSetI, h, ixOf, h2.1, h2.2, if_true]
theorem asL_ob {st : Store} {j : Nat} {xs : List Mn.D} (h : st[j]? = some (.lst xs)) : asL st (.ob j) = some xs := by simp only [asL, obL, h]
theorem asL_ob' {st : Store} {j : Nat} {xs : List Mn.D} (h : st[j]? = some (.lst xs)) : (asL st (.ob j)).isSome = true := by rw [asL_ob h]; rfl
theorem app_o {st : Store} {j : Nat} {xs : List Mn.D} {d : Mn.D} (h : st[j]? = some (.lst xs)) (hl : xs.length < maxLen) : pMe .append (.ob j) [d] st = .ok .non (st.set j (.lst (xs ++ [d]))) := by
  show mAppend (.ob j) [d] st = _
  simp only [mAppend, h, hl, if_true]
theorem len_ob {st : Store} {j : Nat} {xs : List Mn.D} (h : st[j]? = some (.lst xs)) : pBi .len [.ob j] st = .ok (.int (xs.length : Int)) st := by
  show bLen [.ob j] st = _
  simp only [bLen, asQ, asL_ob h]
theorem tup_ob {st : Store} {j : Nat} {xs : List Mn.D} (h : st[j]? = some (.lst xs)) (hl : xs.length ≤ maxLen) : pBi .tuple [.ob j] st = .ok (.tup xs) st := by
  show bTuple [.ob j] st = _
  simp only [bTuple, asL_ob h]
  exact ndT _ _ hl
theorem get_new (st : Store) (o : Ob) : (st ++ [o])[st.length]? = some o := by simp
theorem get_old {st : Store} {j : Nat} {o : Ob} (h : st[j]? = some o) (q : Ob) : (st ++ [q])[j]? = some o := by
  rw [List.getElem?_append_left (List.getElem?_eq_some_iff.mp h).1]; exact h
theorem lt_len {st : Store} {j : Nat} {o : Ob} (h : st[j]? = some o) : j < st.length := (List.getElem?_eq_some_iff.mp h).1
/-! ### calls, so deep at least -/
theorem draw_c {j : Nat} (hj : 3 ≤ j) : DrawOk (callN (tab L) j) := by
  obtain ⟨i, rfl⟩ := Nat.exists_eq_add_of_le hj
  rw [Nat.add_comm]
  exact draw_w i
theorem pick_c {j : Nat} (hj : 4 ≤ j) : PickOk (callN (tab L) j) := by
  obtain ⟨i, rfl⟩ := Nat.exists_eq_add_of_le hj
  rw [Nat.add_comm]
  exact pick_w i
theorem need_c {j : Nat} (hj : 5 ≤ j) (st : Store) {m : Int} {rs : List Rw} (t : Tel m rs) : callN (tab L) j i_need_telling [telD m rs] st = .ok .non st := by
  obtain ⟨i, rfl⟩ := Nat.exists_eq_add_of_le hj
  have := need_ok i st t.hm t.hs t.hn t.ha t.hl
  rw [Nat.add_comm] at this
  exact this
theorem can_c {j : Nat} (hj : 13 ≤ j) (st : Store) {m : Int} {rs : List Rw} (t : Tel m rs) : ∃ st', callN (tab L) j i_can [telD m rs] st = .ok (.bl (llL m rs).isSome) st' ∧ Ex st st' := by
  obtain ⟨i, rfl⟩ := Nat.exists_eq_add_of_le hj
  obtain ⟨kvs, e⟩ := can_ok i st t (cost9 t.hm t.hn)
  rw [Nat.add_comm] at e
  exact ⟨_, e, _, rfl⟩
theorem ll_c {j : Nat} (hj : 12 ≤ j) (st : Store) {m : Int} {rs : List Rw} (t : Tel m rs) : ∃ st', callN (tab L) j i_least_lots [telD m rs] st = .ok (optD (llL m rs)) st' ∧ Ex st st' := by
  obtain ⟨i, rfl⟩ := Nat.exists_eq_add_of_le hj
  obtain ⟨kvs, e⟩ := ll_ok i st m rs t.hm t.hs (fun r hr => by have := t.hn r hr; omega) t.hl (cost9 t.hm t.hn)
  rw [Nat.add_comm] at e
  exact ⟨_, e, _, rfl⟩
theorem reg_c {j : Nat} (hj : 1 ≤ j) (st : Store) {m : Int} (h : 1 ≤ m ∧ m ≤ 3) : callN (tab L) j i_regions [.int m] st = .ok (.lst ((regs m).map sD)) st := by
  obtain ⟨i, rfl⟩ := Nat.exists_eq_add_of_le hj
  rw [Nat.add_comm]
  exact regions_ok i st h
theorem rows_c {j : Nat} (hj : 3 ≤ j) (st : Store) {m : Int} {rs : List Rw} (t : Tel m rs) : callN (tab L) j i_rows_of [telD m rs] st = .ok (.lst ((rs.map fun r => (cols m r.1, r.2)).map rD)) st := by
  obtain ⟨i, rfl⟩ := Nat.exists_eq_add_of_le hj
  rw [Nat.add_comm]
  exact rows_ok i st m rs t.hm (fun r hr => by have := (setOk_len (t.hs r hr)).1; omega) t.hl
theorem free_c {j : Nat} (hj : 4 ≤ j) (st : Store) {m : Int} {rs : List Rw} (t : Tel m rs) : callN (tab L) j i_free_places [telD m rs] st = .ok (.lst (iD (freeL m rs))) st := by
  obtain ⟨i, rfl⟩ := Nat.exists_eq_add_of_le hj
  rw [Nat.add_comm]
  exact free_ok i st m rs t.hm t.hs t.hl
end Pg

set_option Elab.async false
set_option linter.all false
set_option maxRecDepth 100000
set_option maxHeartbeats 8000000
/-! Rf: refusals (laws with twelve classes). -/
namespace Pg
open Mn
def wlS (i : Nat) : Store := [.lst ((List.replicate 12 (Mn.D.bl false)).set i (.bl true))]
theorem ref_isP (n : Int) : (ref n).isP = true := by
  have h : PySem.PyData.strOk (PySem.Str.ofString "refused") = true := by decide +kernel
  simp [ref, D.isP, isPs, h]
theorem ref_okp (n : Int) : (ref n).okp = true := by
  unfold D.okp
  rw [ref_isP]
  rfl
theorem same_ref (n : Int) (st : Store) : pCmp .eq (ref n) (ref n) st = some true ∧ pCmp .ne (ref n) (ref n) st = some false := eq_same (ref_okp n) (fun _ => rfl) (fun _ h => by cases h) st
/-! ### lists of tuples of ints -/
theorem sols_P (l : List (List Int)) : isPs (l.map sD) = true ∧ deps (l.map sD) ≤ 1 := isPs_map fun s _ => sD_P s
theorem sD_ok (x : List Int) : (sD x).okp = true := tup_ok (isPs_ints x) (by rw [show deps (iD x) = 0 from deps_ints x]; omega)
theorem same_sD (x : List Int) (st : Store) : pCmp .eq (sD x) (sD x) st = some true ∧ pCmp .ne (sD x) (sD x) st = some false := eq_same (sD_ok x) (fun _ => rfl) (fun _ h => by cases h) st
theorem same_sols (l : List (List Int)) (st : Store) : pCmp .eq (.lst (l.map sD)) (.lst (l.map sD)) st = some true ∧ pCmp .ne (.lst (l.map sD)) (.lst (l.map sD)) st = some false := eq_same (lst_ok (sols_P l).1 (by have := (sols_P l).2; omega)) (fun _ => rfl) (fun _ h => by cases h) st
theorem sols_at {l : List (List Int)} {i : Nat} {x : List Int} (h : l[i]? = some x) : atD (l.map sD) (i : Int) = some (sD x) := by
  have hl := (List.getElem?_eq_some_iff.mp h).1
  unfold atD ixOf
  rw [if_pos (by omega), if_pos (by rw [List.length_map]; omega)]
  show (l.map sD)[((i : Int)).toNat]? = _
  rw [Int.toNat_natCast, List.getElem?_map, h]
  rfl
end Pg

set_option Elab.async false
set_option linter.all false
set_option maxRecDepth 100000
set_option maxHeartbeats 8000000
/-! Wy: all lots that fill rows, in order. -/
namespace Pg
open Mn
def waysL (cs : List (List Int)) : Nat → Int → List Int → List (List Int)
  | 0, _, left => if left.all (fun l => decide (l = 0)) then [[]] else []
  | n + 1, p, left => (rgI 0 (topI cs left p + 1).toNat).flatMap fun v => (waysL cs n (p + 1) (goL cs left p v)).map (v :: ·)
theorem ways_head (cs : List (List Int)) : ∀ (n : Nat) (p : Int) (left : List Int), ffL cs n p left = (waysL cs n p left).head?
  | 0, p, left => by
    unfold ffL waysL
    split <;> rfl
  | n + 1, p, left => by
    unfold ffL waysL
    have : ∀ (c : Nat) (v : Int), findL (fun v => ffL cs n (p + 1) (goL cs left p v)) c v = ((rgI v c).flatMap fun v => (waysL cs n (p + 1) (goL cs left p v)).map (v :: ·)).head? := by
      intro c
      induction c with
      | zero => intro v; rfl
      | succ c ih =>
        intro v
        have h0 := ways_head cs n (p + 1) (goL cs left p v)
        have h1 := ih (v + 1)
        simp only [findL, rgI, List.flatMap_cons]
        cases h : waysL cs n (p + 1) (goL cs left p v) with
        | nil =>
          rw [h] at h0
          rw [show ffL cs n (p + 1) (goL cs left p v) = none from h0, List.map_nil, List.nil_append]
          exact h1
        | cons a l =>
          rw [h] at h0
          rw [show ffL cs n (p + 1) (goL cs left p v) = some a from h0]
          rfl
    exact this _ _
theorem ways_len (cs : List (List Int)) : ∀ (n : Nat) (p : Int) (left x : List Int), x ∈ waysL cs n p left → x.length = n
  | 0, p, left, x, h => by
    unfold waysL at h
    split at h
    · rw [List.mem_singleton] at h; subst h; rfl
    · cases h
  | n + 1, p, left, x, h => by
    unfold waysL at h
    obtain ⟨v, _, h⟩ := List.mem_flatMap.mp h
    obtain ⟨y, hy, rfl⟩ := List.mem_map.mp h
    rw [List.length_cons, ways_len cs n _ _ y hy]
theorem dead_ways {cs : List (List Int)} (hr : Rise cs) : ∀ (n : Nat) (p : Int) (left : List Int), deadB cs left p = true → waysL cs n p left = [] := by
  intro n p left h
  have h1 := dead_none hr n p left h
  rw [ways_head] at h1
  cases hw : waysL cs n p left with
  | nil => rfl
  | cons a l => rw [hw] at h1; cases h1
/-- what lots come to in some places -/
def totL : List Int → List Int → Int → Int
  | [], _, _ => 0
  | v :: x, c, p => (if p ∈ c then v else 0) + totL x c (p + 1)
theorem totL_pos {x : List Int} (h : ∀ v ∈ x, 0 ≤ v) (c : List Int) : ∀ p : Int, 0 ≤ totL x c p := by
  induction x with
  | nil => intro p; exact Int.le_refl _
  | cons v x ih =>
    intro p
    have h1 := h v (by simp)
    have h2 := ih (fun w hw => h w (by simp [hw])) (p + 1)
    unfold totL
    split <;> omega
structure Fills (cs : List (List Int)) (p : Int) (left x : List Int) : Prop where
  nn : ∀ v ∈ x, 0 ≤ v
  fl : ∀ (i : Nat) c l, cs[i]? = some c → left[i]? = some l → totL x c p = l
  fr : ∀ (k : Nat) v, x[k]? = some v → (∀ c ∈ cs, (p + k) ∉ c) → v = 0
theorem top_bound {cs : List (List Int)} {left : List Int} {p v : Int} (hl : left.length = cs.length) : (0 ≤ v ∧ v ≤ topI cs left p) ↔ (0 ≤ v ∧ (∀ (i : Nat) c l, cs[i]? = some c → left[i]? = some l → p ∈ c → v ≤ l) ∧ ((∀ c ∈ cs, p ∉ c) → v = 0)) := by
  unfold topI
  cases hm : mostL cs left p with
  | nil =>
    have h0 : ∀ c ∈ cs, p ∉ c := by
      intro c hc hp
      obtain ⟨i, hi⟩ := List.getElem?_of_mem hc
      have hil : i < cs.length := (List.getElem?_eq_some_iff.mp hi).1
      have : (left[i]'(by omega)) ∈ mostL cs left p := by
        unfold mostL
        exact List.mem_map.mpr ⟨(c, left[i]'(by omega)), List.mem_filter.mpr ⟨List.mem_of_getElem? (i := i) (by rw [List.getElem?_zip_eq_some]; exact ⟨hi, List.getElem?_eq_getElem (by omega)⟩), by simpa using hp⟩, rfl⟩
      rw [hm] at this
      cases this
    constructor
    · intro h
      have h : 0 ≤ v ∧ v ≤ 0 := h
      exact ⟨h.1, fun i c l hc _ hp => absurd hp (h0 c (List.mem_of_getElem? hc)), fun _ => by omega⟩
    · intro h
      have := h.2.2 h0
      subst this
      exact ⟨Int.le_refl _, Int.le_refl _⟩
  | cons a r =>
    have hmin := minI_le a r
    constructor
    · intro h
      refine ⟨h.1, fun i c l hc hl' hp => ?_, fun h0 => ?_⟩
      · have : l ∈ mostL cs left p := by
          unfold mostL
          exact List.mem_map.mpr ⟨(c, l), List.mem_filter.mpr ⟨List.mem_of_getElem? (i := i) (by rw [List.getElem?_zip_eq_some]; exact ⟨hc, hl'⟩), by simpa using hp⟩, rfl⟩
        rw [hm] at this
        have := hmin.2 l this
        have h2 : v ≤ minI a r := h.2
        omega
      · have : a ∈ mostL cs left p := by rw [hm]; simp
        unfold mostL at this
        obtain ⟨q, hq, _⟩ := List.mem_map.mp this
        have hq := List.mem_filter.mp hq
        have := h0 q.1 (List.of_mem_zip hq.1).1
        exact absurd (by simpa using hq.2) this
    · intro h
      refine ⟨h.1, ?_⟩
      show v ≤ minI a r
      have h1 : minI a r ∈ mostL cs left p := by rw [hm]; exact hmin.1
      unfold mostL at h1
      obtain ⟨q, hq, e⟩ := List.mem_map.mp h1
      have hq := List.mem_filter.mp hq
      obtain ⟨i, hi⟩ := List.getElem?_of_mem hq.1
      rw [List.getElem?_zip_eq_some] at hi
      rw [← e]
      exact h.2.1 i q.1 q.2 hi.1 hi.2 (by simpa using hq.2)
theorem mem_ways {cs : List (List Int)} : ∀ (n : Nat) (p : Int) (left x : List Int), left.length = cs.length → (x ∈ waysL cs n p left ↔ x.length = n ∧ Fills cs p left x)
  | 0, p, left, x, hl => by
    unfold waysL
    constructor
    · intro h
      split at h
      · rename_i h0
        rw [List.mem_singleton] at h
        subst h
        refine ⟨rfl, by simp, fun i c l _ hl' => ?_, fun k v h => by simp at h⟩
        have := List.all_eq_true.mp h0 l (List.mem_of_getElem? hl')
        simp only [decide_eq_true_eq] at this
        rw [this]; rfl
      · cases h
    · rintro ⟨h1, h2⟩
      have : x = [] := List.eq_nil_of_length_eq_zero h1
      subst this
      rw [if_pos]
      · simp
      · rw [List.all_eq_true]
        intro l hm
        obtain ⟨i, hi⟩ := List.getElem?_of_mem hm
        have hil : i < left.length := (List.getElem?_eq_some_iff.mp hi).1
        have := h2.fl i (cs[i]'(by omega)) l (List.getElem?_eq_getElem (by omega)) hi
        simp only [decide_eq_true_eq]
        exact this.symm
  | n + 1, p, left, x, hl => by
    unfold waysL
    have hgl : ∀ v, (goL cs left p v).length = cs.length := fun v => goL_len p v hl
    rw [List.mem_flatMap]
    constructor
    · rintro ⟨v, hv, h⟩
      obtain ⟨y, hy, rfl⟩ := List.mem_map.mp h
      rw [mem_rg] at hv
      obtain ⟨h1, h2⟩ := (mem_ways n (p + 1) _ y (hgl v)).mp hy
      have hb := (top_bound hl).mp (show 0 ≤ v ∧ v ≤ topI cs left p by omega)
      refine ⟨by simp [h1], fun w hw => ?_, fun i c l hc hl' => ?_, fun k w hk h0 => ?_⟩
      · rcases List.mem_cons.mp hw with rfl | hw
        · exact hb.1
        · exact h2.nn w hw
      · have := h2.fl i c _ hc (goL_get hl' hc)
        unfold totL
        rw [this]
        split <;> omega
      · cases k with
        | zero =>
          simp at hk
          subst hk
          exact hb.2.2 (by simpa using h0)
        | succ k => exact h2.fr k w (by simpa using hk) (by
            intro c hc
            have := h0 c hc
            rw [show p + ((k + 1 : Nat) : Int) = p + 1 + k by omega] at this
            exact this)
    · rintro ⟨h1, h2⟩
      cases x with
      | nil => simp at h1
      | cons v y =>
        have hv0 := h2.nn v (by simp)
        have hy0 : ∀ w ∈ y, 0 ≤ w := fun w hw => h2.nn w (by simp [hw])
        have hb := (top_bound (p := p) (v := v) hl).mpr ⟨hv0, fun i c l hc hl' hp => by
          have := h2.fl i c l hc hl'
          unfold totL at this
          rw [if_pos hp] at this
          have := totL_pos hy0 c (p + 1)
          omega, fun h0 => h2.fr 0 v (by simp) (by simpa using h0)⟩
        refine ⟨v, by rw [mem_rg]; omega, List.mem_map.mpr ⟨y, (mem_ways n (p + 1) _ y (hgl v)).mpr ⟨by simpa using h1, hy0, fun i c l' hc hl' => ?_, fun k w hk h0 => ?_⟩, rfl⟩⟩
        · obtain ⟨l, h3, h4⟩ := goL_inv hl hc hl'
          have := h2.fl i c l hc h3
          unfold totL at this
          rw [h4]
          split <;> simp_all <;> omega
        · refine h2.fr (k + 1) w (by simpa using hk) fun c hc => ?_
          have := h0 c hc
          rw [show p + ((k + 1 : Nat) : Int) = p + 1 + k by omega]
          exact this
theorem rg_pw : ∀ (n : Nat) (lo : Int), (rgI lo n).Pairwise (· < ·)
  | 0, _ => List.Pairwise.nil
  | n + 1, lo => List.pairwise_cons.mpr ⟨fun a ha => by rw [mem_rg] at ha; omega, rg_pw n (lo + 1)⟩
theorem flat_pw {f : Int → List (List Int)} (hf : ∀ v, LxP (f v)) : ∀ l : List Int, l.Pairwise (· < ·) → LxP (l.flatMap fun v => (f v).map (v :: ·))
  | [], _ => List.Pairwise.nil
  | v :: l, h => by
    rw [List.pairwise_cons] at h
    unfold LxP
    rw [List.flatMap_cons, List.pairwise_append]
    refine ⟨?_, flat_pw hf l h.2, fun a ha b hb => ?_⟩
    · rw [List.pairwise_map]
      refine (hf v).imp fun {a b} hab => ?_
      rw [lx_cons, if_pos rfl]
      exact hab
    · obtain ⟨y, _, rfl⟩ := List.mem_map.mp ha
      obtain ⟨w, hw, hb⟩ := List.mem_flatMap.mp hb
      obtain ⟨z, _, rfl⟩ := List.mem_map.mp hb
      have := h.1 w hw
      rw [lx_cons, if_neg (by omega), decide_eq_true_eq]
      exact this
theorem ways_pw (cs : List (List Int)) : ∀ (n : Nat) (p : Int) (left : List Int), LxP (waysL cs n p left)
  | 0, p, left => by
    unfold waysL
    split
    · exact List.pairwise_singleton _ _
    · exact List.Pairwise.nil
  | n + 1, p, left => by
    unfold waysL
    exact flat_pw (fun v => ways_pw cs n (p + 1) (goL cs left p v)) _ (rg_pw _ _)
/-! ### of a telling -/
def solsL (m : Int) (rs : List Rw) : List (List Int) := waysL (csM m rs) (regs m).length 0 (nums rs)
theorem sols_head (m : Int) (rs : List Rw) : llL m rs = (solsL m rs).head? := ways_head _ _ _ _
theorem tot_totL (c : List Int) : ∀ (x : List Int) (f : Int → Int) (p : Int), (∀ (k : Nat) v, x[k]? = some v → f (p + k) = v) → tot f c x.length p = totL x c p
  | [], f, p, _ => rfl
  | v :: x, f, p, h => by
    have h0 := h 0 v (by simp)
    have ih := tot_totL c x f (p + 1) fun k w hk => by
      have := h (k + 1) w (by simpa using hk)
      rw [show p + ((k + 1 : Nat) : Int) = p + 1 + k by omega] at this
      exact this
    simp only [List.length_cons, tot, totL, ih]
    rw [show f p = v by simpa using h0]
theorem cnt_totL {m : Int} {s x : List Int} (h : x.length = (regs m).length) : cnt m s (fx x) = totL x (cols m s) 0 := by
  unfold cnt
  rw [← h]
  refine tot_totL _ x (fx x) 0 fun k v hk => ?_
  unfold fx
  rw [if_neg (by omega), show (0 + (k : Int)).toNat = k by omega, hk]
  rfl
/-- lots fit -/
structure FitL (m : Int) (rs : List Rw) (x : List Int) : Prop where
  len : x.length = (regs m).length
  nn : ∀ v ∈ x, 0 ≤ v
  fl : ∀ r ∈ rs, totL x (cols m r.1) 0 = r.2
  fr : ∀ (k : Nat) v, x[k]? = some v → (∀ r ∈ rs, (k : Int) ∉ cols m r.1) → v = 0
theorem mem_sols {m : Int} {rs : List Rw} {x : List Int} : x ∈ solsL m rs ↔ FitL m rs x := by
  unfold solsL
  rw [mem_ways _ _ _ _ (by simp [nums, csM])]
  constructor
  · rintro ⟨h1, h2⟩
    refine ⟨h1, h2.nn, fun r hr => ?_, fun k v hk h0 => h2.fr k v hk fun c hc => ?_⟩
    · obtain ⟨i, hi⟩ := List.getElem?_of_mem hr
      exact h2.fl i _ _ (by unfold csM; rw [List.getElem?_map, hi]; rfl) (by unfold nums; rw [List.getElem?_map, hi]; rfl)
    · unfold csM at hc
      obtain ⟨r, hr, rfl⟩ := List.mem_map.mp hc
      rw [Int.zero_add]
      exact h0 r hr
  · intro h
    refine ⟨h.len, h.nn, fun i c l hc hl => ?_, fun k v hk h0 => h.fr k v hk fun r hr => ?_⟩
    · unfold csM at hc
      unfold nums at hl
      rw [List.getElem?_map] at hc hl
      cases hr : rs[i]? with
      | none => rw [hr] at hc; cases hc
      | some r =>
        rw [hr] at hc hl
        cases hc
        cases hl
        exact h.fl r (List.mem_of_getElem? hr)
    · have := h0 (cols m r.1) (by unfold csM; exact List.mem_map.mpr ⟨r, hr, rfl⟩)
      rw [Int.zero_add] at this
      exact this
theorem sols_sat {m : Int} {rs : List Rw} : Sat m rs ↔ solsL m rs ≠ [] := by
  rw [← llL_sat, sols_head]
  cases solsL m rs <;> simp
theorem sols_pw (m : Int) (rs : List Rw) : LxP (solsL m rs) := ways_pw _ _ _ _
end Pg

set_option Elab.async false
set_option linter.all false
set_option maxRecDepth 100000
set_option maxHeartbeats 8000000
/-! Wf: ways_from, how_many. -/
namespace Pg
open Mn
local macro_rules | `(tactic| walk_at "go") => `(tactic| repeat (first | refine EsW.cons ?_ | refine EW.var rfl ?_ | refine EsW.nil ?_ | refine EW.con ?_ | refine EW.call ?_ | refine EW.bin ?_ | refine EW.idx ?_ | refine EW.cmp ?_ | refine EW.bi ?_ | refine Exists.intro _ (And.intro rfl ?_) | refine SW.cons ?_ | refine SW.asgT ?_ | refine SW.ite ?_ | refine RW.oB (eq_i _ _ _) ?_ | refine RW.oB (ne_i _ _ _) ?_ | refine RW.oB (lt_i _ _ _) ?_ | refine RW.oB (le_i _ _ _) ?_ | refine RW.oB (gt_i _ _ _) ?_ | refine RW.oB (ge_i _ _ _) ?_ | refine RW.prim rfl ?_ | refine SW.nil ?_ | refine SW.ret ?_ | refine SW.expr ?_ | refine EW.glo ?_ | refine EW.bi2 ?_ | refine EW.not ?_ | refine EW.isN ?_ | refine EW.notN ?_ | refine EW.tup ?_ | refine EW.lst ?_ | refine EW.lstM ?_ | refine EW.dic ?_ | refine EW.sl ?_ | refine EoW.nil ?_ | refine EoW.one ?_ | refine SW.setI ?_ | refine EW.lc ?_ | refine WkW.one ?_ | refine WkW.rng ?_ | refine WkW.rng2 ?_ | refine WkW.enu ?_ | refine WkW.zip ?_ | refine Exists.intro _ (Exists.intro _ (And.intro rfl (And.intro rfl ?_))) | refine EW.or ?_ | refine EW.and ?_ | refine EtW.nil ?_ | refine EtW.one ?_ | refine EW.neg ?_ | refine EW.isi ?_ | refine EW.ite ?_ | refine SW.for_ ?_ | refine SW.retN ?_ | refine SW.raise ?_ | refine SW.par (by simp) (by simp) ?_ | refine EW.fnv ?_ | refine EW.callV ?_ | ((refine And.intro ?_ ?_); (focus ((with_reducible (show List.contains _ _ = true)); rfl))) | refine EW.chain ?_ | refine EW.chn ?_ | refine SW.pass ?_ | refine SW.brk ?_ | refine SW.cont ?_ | refine And.intro (by simp [maxLen] : _ ≤ maxLen) ?_))
theorem rg_snoc : ∀ (n : Nat) (lo : Int), rgI lo (n + 1) = rgI lo n ++ [lo + n]
  | 0, lo => by simp [rgI]
  | n + 1, lo => by
    have := rg_snoc n (lo + 1)
    rw [rgI, this, rgI]
    simp only [List.cons_append]
    rw [show lo + 1 + (n : Int) = lo + ((n + 1 : Nat) : Int) by omega]
theorem sumF_snoc (f : Int → Nat) : ∀ (c : Nat) (v : Int), sumF f (c + 1) v = sumF f c v + f (v + c)
  | 0, v => by simp [sumF]
  | c + 1, v => by
    have := sumF_snoc f c (v + 1)
    rw [sumF, this, sumF, show v + 1 + (c : Int) = v + ((c + 1 : Nat) : Int) by omega]
    omega
def costW (cs : List (List Int)) : Nat → Int → List Int → Nat
  | 0, _, _ => 1
  | n + 1, p, left => 1 + sumF (fun v => costW cs n (p + 1) (goL cs left p v)) (topI cs left p + 1).toNat 0
/-- all things come to l at most: so many nodes -/
def nodeB : Nat → Nat → Nat
  | 0, _ => 1
  | n + 1, l => 1 + ((List.range (l + 1)).map fun v => nodeB n (l - v)).sum
theorem sumF_map (f : Int → Nat) : ∀ (c : Nat), sumF f c 0 = ((List.range c).map fun v : Nat => f (v : Int)).sum
  | 0 => rfl
  | c + 1 => by rw [sumF_snoc, sumF_map f c, List.range_succ, List.map_append, List.sum_append]; simp
theorem sum_mono {f g : Nat → Nat} : ∀ (l : List Nat), (∀ x ∈ l, f x ≤ g x) → (l.map f).sum ≤ (l.map g).sum
  | [], _ => Nat.le_refl _
  | a :: l, h => by
    have h1 := h a (by simp)
    have h2 := sum_mono l fun x hx => h x (by simp [hx])
    simp only [List.map_cons, List.sum_cons]
    omega
theorem sum_take {f : Nat → Nat} : ∀ (a b : Nat), a ≤ b → ((List.range a).map f).sum ≤ ((List.range b).map f).sum
  | a, 0, h => by have : a = 0 := by omega
                  subst this; exact Nat.le_refl _
  | a, b + 1, h => by
    by_cases e : a = b + 1
    · subst e; exact Nat.le_refl _
    · have := sum_take (f := f) a b (by omega)
      rw [List.range_succ, List.map_append, List.sum_append]
      omega
theorem costW_le {cs : List (List Int)} {i : Nat} {c : List Int} (hc : cs[i]? = some c) : ∀ (n : Nat) (p : Int) (left : List Int) (l : Nat), left[i]? = some (l : Int) → (∀ q, p ≤ q → q < p + n → q ∈ c) → costW cs n p left ≤ nodeB n l
  | 0, _, _, _, _, _ => Nat.le_refl _
  | n + 1, p, left, l, hl, hin => by
    have hp : p ∈ c := hin p (by omega) (by omega)
    have htop : topI cs left p ≤ l := by
      have hm : (l : Int) ∈ mostL cs left p := by
        unfold mostL
        exact List.mem_map.mpr ⟨(c, (l : Int)), List.mem_filter.mpr ⟨List.mem_of_getElem? (i := i) (by rw [List.getElem?_zip_eq_some]; exact ⟨hc, hl⟩), by simpa using hp⟩, rfl⟩
      unfold topI
      cases hml : mostL cs left p with
      | nil => rw [hml] at hm; simp at hm
      | cons a r =>
        rw [hml] at hm
        exact (minI_le a r).2 _ hm
    unfold costW nodeB
    rw [sumF_map]
    have h1 : ((List.range (topI cs left p + 1).toNat).map fun v : Nat => costW cs n (p + 1) (goL cs left p (v : Int))).sum ≤ ((List.range (topI cs left p + 1).toNat).map fun v => nodeB n (l - v)).sum := by
      refine sum_mono _ fun v hv => ?_
      rw [List.mem_range] at hv
      refine costW_le hc n (p + 1) _ (l - v) ?_ fun q h1 h2 => hin q (by omega) (by omega)
      have := goL_get (p := p) (v := (v : Int)) hl hc
      rw [if_pos hp] at this
      rw [this]
      congr 1
      omega
    have h2 := sum_take (f := fun v => nodeB n (l - v)) (topI cs left p + 1).toNat (l + 1) (by omega)
    omega
/-! ### the memo -/
def WayI (cs : List (List Int)) (many : Int) (kvs : List (Mn.D × Mn.D)) : Prop := ∀ q ∈ kvs, ∃ (p : Int) (left : List Int) (n : Nat), q.1 = keyD p left ∧ p + n = many ∧ q.2 = .int ((waysL cs n p left).length : Int)
theorem look_way {cs : List (List Int)} {many p : Int} {left : List Int} {n : Nat} (hn : p + n = many) : ∀ {kvs : List (Mn.D × Mn.D)} {d : Mn.D}, WayI cs many kvs → kLook (keyD p left) kvs = some d → d = .int ((waysL cs n p left).length : Int)
  | [], _, _, h => by cases h
  | (k', v) :: kvs, d, hd, h => by
    unfold kLook at h
    split at h
    · rename_i he
      obtain ⟨p', l', n', e1, e2, e3⟩ := hd _ List.mem_cons_self
      have e1 : k' = keyD p' l' := e1
      rw [e1] at he
      obtain ⟨z1, z2⟩ := key_eq he
      subst z1; subst z2
      have : n' = n := by omega
      subst this
      cases h
      exact e3
    · exact look_way hn (fun q hq => hd q (List.mem_cons_of_mem _ hq)) h
theorem put_way {cs : List (List Int)} {many p : Int} {left : List Int} {n : Nat} (hn : p + n = many) : ∀ {kvs : List (Mn.D × Mn.D)}, WayI cs many kvs → WayI cs many (kPut (keyD p left) (.int ((waysL cs n p left).length : Int)) kvs)
  | [], hd => fun q hq => by
    have : q = (keyD p left, .int ((waysL cs n p left).length : Int)) := by simpa [kPut] using hq
    rw [this]
    exact ⟨p, left, n, rfl, hn, rfl⟩
  | (k', v') :: r, hd => by
    unfold kPut
    split
    · rename_i he
      intro q hq
      rcases List.mem_cons.mp hq with rfl | hq
      · obtain ⟨p', l', n', e1, e2, e3⟩ := hd (k', v') List.mem_cons_self
        have e1 : k' = keyD p' l' := e1
        rw [e1] at he
        obtain ⟨z1, z2⟩ := key_eq he
        subst z1; subst z2
        exact ⟨_, _, n, e1, hn, rfl⟩
      · exact hd q (List.mem_cons_of_mem _ hq)
    · intro q hq
      rcases List.mem_cons.mp hq with rfl | hq
      · exact hd _ List.mem_cons_self
      · exact put_way hn (fun q hq => hd q (List.mem_cons_of_mem _ hq)) q hq
theorem look_put (k v : Mn.D) (hk : k.eqv k = true) : ∀ kvs : List (Mn.D × Mn.D), kLook k (kPut k v kvs) = some v
  | [] => by simp [kPut, kLook, hk]
  | (k', v') :: r => by
    unfold kPut
    cases he : k'.eqv k with
    | true => simp [kLook, he]
    | false => simp only [Bool.false_eq_true, if_false, kLook, he]; exact look_put k v hk r
theorem notin_dct {st : Store} {j : Nat} {kvs : List (Mn.D × Mn.D)} (p : Int) (l : List Int) (h : st[j]? = some (.dct kvs)) : pCmp .notin (keyD p l) (.ob j) st = some (!(kLook (keyD p l) kvs).isSome) := by
  show (pIn (keyD p l) (.ob j) st).map (!·) = _
  rw [in_dct p l h]
  rfl
theorem idx_dct {st : Store} {j : Nat} {kvs : List (Mn.D × Mn.D)} {k d : Mn.D} (h : st[j]? = some (.dct kvs)) (hk : keyOk k = true) (hl : kLook k kvs = some d) : pIdx (.ob j) k st = .ok d st := by
  simp only [pIdx, h, hk, if_true, hl, optR]
theorem set_dct {st : Store} {j : Nat} {kvs : List (Mn.D × Mn.D)} {k d : Mn.D} (h : st[j]? = some (.dct kvs)) (hk : keyOk k = true) (hl : kvs.length < maxLen) : pSetI (.ob j) k d st = some (st.set j (.dct (kPut k d kvs))) := by
  simp only [pSetI, h, hk, Bool.true_and, decide_eq_true hl, if_true]
theorem set_set (st : Store) (j : Nat) (a b : Ob) : (st.set j a).set j b = st.set j b := by simp
theorem most_c {j : Nat} (hj : 1 ≤ j) {rs : List Rw} {left : List Int} {p : Int} (st : Store) (hl : left.length = rs.length) (hm : rs.length ≤ 1000) (hne : mostL (csOf rs) left p ≠ []) : callN (tab L) j i_most_at [.lst (rs.map rD), .lst (iD left), .int p] st = .ok (.int (topI (csOf rs) left p)) st := by
  obtain ⟨i, rfl⟩ := Nat.exists_eq_add_of_le hj
  rw [Nat.add_comm, most_ok i rs left p st hl hm]
  unfold topI
  cases h : mostL (csOf rs) left p with
  | nil => exact absurd h hne
  | cons a r => rfl
theorem go_c {j : Nat} (hj : 1 ≤ j) {rs : List Rw} {left : List Int} {p v : Int} (st : Store) (hl : left.length = rs.length) (hm : rs.length ≤ 1000) (hv : 0 ≤ v ∧ v < 1000) : callN (tab L) j i_go_on [.lst (rs.map rD), .lst (iD left), .int p, .int v] st = .ok (.lst (iD (goL (csOf rs) left p v))) st := by
  obtain ⟨i, rfl⟩ := Nat.exists_eq_add_of_le hj
  rw [Nat.add_comm]
  exact go_ok i rs left p v st hl hm hv
theorem dead_c {j : Nat} (hj : 1 ≤ j) {rs : List Rw} {left : List Int} {p : Int} (st : Store) (hl : left.length = rs.length) (hne : ∀ r ∈ rs, r.1 ≠ []) : callN (tab L) j i_is_dead [.lst (rs.map rD), .lst (iD left), .int p] st = .ok (.bl (deadB (csOf rs) left p)) st := by
  obtain ⟨i, rfl⟩ := Nat.exists_eq_add_of_le hj
  rw [Nat.add_comm]
  exact dead_ok i rs left p st hl hne
theorem lastQ {l : List Int} (h : l ≠ []) : l.getLast? = some (l.getLast h) := by
  rw [List.getLast?_eq_getLast]
theorem most_ne {cs : List (List Int)} {left : List Int} {p : Int} (hl : left.length = cs.length) (h : ∃ c ∈ cs, p ∈ c) : mostL cs left p ≠ [] := by
  obtain ⟨c, hc, hp⟩ := h
  obtain ⟨i, hi⟩ := List.getElem?_of_mem hc
  have hil : i < cs.length := (List.getElem?_eq_some_iff.mp hi).1
  intro e
  have : (left[i]'(by omega)) ∈ mostL cs left p := by
    unfold mostL
    exact List.mem_map.mpr ⟨(c, left[i]'(by omega)), List.mem_filter.mpr ⟨List.mem_of_getElem? (i := i) (by rw [List.getElem?_zip_eq_some]; exact ⟨hi, List.getElem?_eq_getElem (by omega)⟩), by simpa using hp⟩, rfl⟩
  rw [e] at this
  cases this
/-- what ways_from answers -/
def WfK (rs : List Rw) (many : Int) (j : Nat) (n : Nat) (p : Int) (left : List Int) (kvs : List (Mn.D × Mn.D)) (st : Store) : Mn.D → Store → Prop := fun d s => ∃ kvs', d = .int ((waysL (csOf rs) n p left).length : Int) ∧ s = st.set j (.dct kvs') ∧ WayI (csOf rs) many kvs' ∧ kvs'.length ≤ kvs.length + costW (csOf rs) n p left
end Pg

set_option Elab.async false
set_option linter.all false
set_option maxRecDepth 100000
set_option maxHeartbeats 8000000
/-! Hw: how_many; common; is_whole of anything. -/
namespace Pg
open Mn
local macro_rules | `(tactic| walk_at "go") => `(tactic| repeat (first | refine EsW.cons ?_ | refine EW.var rfl ?_ | refine EsW.nil ?_ | refine EW.con ?_ | refine EW.call ?_ | refine EW.bin ?_ | refine EW.idx ?_ | refine EW.cmp ?_ | refine EW.bi ?_ | refine Exists.intro _ (And.intro rfl ?_) | refine SW.cons ?_ | refine SW.asgT ?_ | refine SW.ite ?_ | refine RW.oB (eq_i _ _ _) ?_ | refine RW.oB (ne_i _ _ _) ?_ | refine RW.oB (lt_i _ _ _) ?_ | refine RW.oB (le_i _ _ _) ?_ | refine RW.oB (gt_i _ _ _) ?_ | refine RW.oB (ge_i _ _ _) ?_ | refine RW.prim rfl ?_ | refine SW.nil ?_ | refine SW.ret ?_ | refine SW.expr ?_ | refine EW.glo ?_ | refine EW.bi2 ?_ | refine EW.not ?_ | refine EW.isN ?_ | refine EW.notN ?_ | refine EW.tup ?_ | refine EW.lst ?_ | refine EW.lstM ?_ | refine EW.dic ?_ | refine EW.sl ?_ | refine EoW.nil ?_ | refine EoW.one ?_ | refine SW.setI ?_ | refine EW.lc ?_ | refine WkW.one ?_ | refine WkW.rng ?_ | refine WkW.rng2 ?_ | refine WkW.enu ?_ | refine WkW.zip ?_ | refine Exists.intro _ (Exists.intro _ (And.intro rfl (And.intro rfl ?_))) | refine EW.or ?_ | refine EW.and ?_ | refine EtW.nil ?_ | refine EtW.one ?_ | refine EW.neg ?_ | refine EW.isi ?_ | refine EW.ite ?_ | refine SW.for_ ?_ | refine SW.retN ?_ | refine SW.raise ?_ | refine SW.par (by simp) (by simp) ?_ | refine EW.fnv ?_ | refine EW.callV ?_ | ((refine And.intro ?_ ?_); (focus ((with_reducible (show List.contains _ _ = true)); rfl))) | refine EW.chain ?_ | refine EW.chn ?_ | refine SW.pass ?_ | refine SW.brk ?_ | refine SW.cont ?_ | refine And.intro (by simp [maxLen] : _ ≤ maxLen) ?_))
def nodeT : List (List Nat) := [[1, 1, 1, 1, 1, 1, 1, 1, 1, 1], [2, 3, 4, 5, 6, 7, 8, 9, 10, 11], [3, 6, 10, 15, 21, 28, 36, 45, 55, 66], [4, 10, 20, 35, 56, 84, 120, 165, 220, 286], [5, 15, 35, 70, 126, 210, 330, 495, 715, 1001], [6, 21, 56, 126, 252, 462, 792, 1287, 2002, 3003], [7, 28, 84, 210, 462, 924, 1716, 3003, 5005, 8008], [8, 36, 120, 330, 792, 1716, 3432, 6435, 11440, 19448], [9, 45, 165, 495, 1287, 3003, 6435, 12870, 24310, 43758]]
def nodeA (n l : Nat) : Nat := (nodeT.getD n []).getD l 0
theorem node_s : ((List.range 8).all fun n => (List.range 10).all fun l => decide (nodeA (n + 1) l = 1 + ((List.range (l + 1)).map fun v => nodeA n (l - v)).sum) && decide (nodeA (n + 1) l ≤ 43758) && decide (nodeA 0 l = 1)) = true := by decide +kernel
theorem node_eq : ∀ (n l : Nat), n ≤ 8 → l ≤ 9 → nodeB n l = nodeA n l
  | 0, l, _, hl => by
    have h1 := List.all_eq_true.mp node_s 0 (by decide)
    have h2 := List.all_eq_true.mp h1 l (List.mem_range.mpr (by omega))
    simp only [Bool.and_eq_true, decide_eq_true_eq] at h2
    exact h2.2.symm
  | n + 1, l, hn, hl => by
    have h1 := List.all_eq_true.mp node_s n (List.mem_range.mpr (by omega))
    have h2 := List.all_eq_true.mp h1 l (List.mem_range.mpr (by omega))
    simp only [Bool.and_eq_true, decide_eq_true_eq] at h2
    rw [h2.1.1]
    unfold nodeB
    congr 2
    refine List.map_congr_left fun v hv => ?_
    exact node_eq n (l - v) (by omega) (by omega)
theorem node_le {n l : Nat} (hn : n ≤ 8) (hl : l ≤ 9) : nodeB n l ≤ 43758 := by
  rw [node_eq n l hn hl]
  cases n with
  | zero =>
    have h1 := List.all_eq_true.mp node_s 0 (by decide)
    have h2 := List.all_eq_true.mp h1 l (List.mem_range.mpr (by omega))
    simp only [Bool.and_eq_true, decide_eq_true_eq] at h2
    omega
  | succ n =>
    have h1 := List.all_eq_true.mp node_s n (List.mem_range.mpr (by omega))
    have h2 := List.all_eq_true.mp h1 l (List.mem_range.mpr (by omega))
    simp only [Bool.and_eq_true, decide_eq_true_eq] at h2
    exact h2.1.2
/-- rows in play: some row counts all places -/
structure Full (rs : List Rw) (many : Int) : Prop where
  ok : RowsOk rs many
  all : ∃ (i : Nat) (c : List Int), (csOf rs)[i]? = some c ∧ ∀ q, 0 ≤ q → q < many → q ∈ c
theorem Full.cov {rs : List Rw} {many : Int} (f : Full rs many) : ∀ q, 0 ≤ q → q < many → ∃ c ∈ csOf rs, q ∈ c := by
  obtain ⟨i, c, hc, h⟩ := f.all
  exact fun q h1 h2 => ⟨c, List.mem_of_getElem? hc, h q h1 h2⟩
theorem Full.cost {rs : List Rw} {many : Int} (f : Full rs many) {n : Nat} {p : Int} {left : List Int} (hn : n ≤ 8) (hp : p + n = many) (h0 : 0 ≤ p) (hl : left.length = rs.length) (h9 : ∀ l ∈ left, 0 ≤ l ∧ l < 10) : costW (csOf rs) n p left ≤ 43758 := by
  obtain ⟨i, c, hc, h⟩ := f.all
  have hil : i < (csOf rs).length := (List.getElem?_eq_some_iff.mp hc).1
  have hil : i < left.length := by rw [hl]; simpa using hil
  have hm := h9 _ (List.getElem_mem hil)
  have := costW_le hc n p left (left[i]).toNat (by rw [List.getElem?_eq_getElem hil]; congr 1; omega) fun q h1 h2 => h q (by omega) (by omega)
  exact Nat.le_trans this (node_le hn (by omega))
/-! ### of a telling -/
def rowsM (m : Int) (rs : List Rw) : List Rw := rs.map fun r => (cols m r.1, r.2)
theorem cs_rowsM (m : Int) (rs : List Rw) : csOf (rowsM m rs) = csM m rs := by
  unfold csOf rowsM csM
  rw [List.map_map]
  rfl
theorem rowsM_c {j : Nat} (hj : 3 ≤ j) (st : Store) {m : Int} {rs : List Rw} (t : Tel m rs) : callN (tab L) j i_rows_of [telD m rs] st = .ok (.lst ((rowsM m rs).map rD)) st := rows_c hj st t
theorem col0 {m : Int} (hm : 1 ≤ m ∧ m ≤ 3) : ((regs m).all fun s => decide ((0 : Int) ∈ cols m s) == decide (s = [])) = true := by
  have : m = 1 ∨ m = 2 ∨ m = 3 := by omega
  rcases this with rfl | rfl | rfl <;> decide
theorem colE {m : Int} (hm : 1 ≤ m ∧ m ≤ 3) : cols m [] = rgI 0 (regs m).length := by
  have : m = 1 ∨ m = 2 ∨ m = 3 := by omega
  rcases this with rfl | rfl | rfl <;> decide
theorem row_all {m : Int} {rs : List Rw} (t : Tel m rs) (h : ∃ r ∈ rs, r.1 = []) : Full (rowsM m rs) ((regs m).length : Nat) := by
  refine ⟨rowsOk_of t.hs t.hl, ?_⟩
  obtain ⟨r, hr, e⟩ := h
  obtain ⟨i, hi⟩ := List.getElem?_of_mem hr
  refine ⟨i, cols m [], ?_, fun q h1 h2 => ?_⟩
  · rw [cs_rowsM]
    unfold csM
    rw [List.getElem?_map, hi]
    show some (cols m r.1) = _
    rw [e]
  · rw [colE t.hm, mem_rg]
    omega
theorem free_has {m : Int} {rs : List Rw} (t : Tel m rs) : freeL m rs = [] ↔ ∃ r ∈ rs, r.1 = [] := by
  have hp : 0 < (regs m).length := by
    have := t.hm
    have : m = 1 ∨ m = 2 ∨ m = 3 := by omega
    rcases this with rfl | rfl | rfl <;> decide
  constructor
  · intro h
    have h0 : ¬ isFree m rs 0 = true := fun hf => by
      have : (0 : Int) ∈ freeL m rs := by
        unfold freeL
        rw [List.mem_filter, mem_rg]
        exact ⟨by omega, hf⟩
      rw [h] at this
      cases this
    unfold isFree at h0
    rw [Bool.not_eq_true, Bool.not_eq_false', List.any_eq_true] at h0
    obtain ⟨r, hr, h1⟩ := h0
    have h2 := List.all_eq_true.mp (col0 t.hm) r.1 (t.hs r hr)
    rw [h1] at h2
    simp at h2
    exact ⟨r, hr, h2⟩
  · rintro ⟨r, hr, e⟩
    unfold freeL
    rw [List.filter_eq_nil_iff]
    intro q hq
    rw [mem_rg] at hq
    unfold isFree
    rw [Bool.not_eq_true, Bool.not_eq_false', List.any_eq_true]
    refine ⟨r, hr, ?_⟩
    rw [e, colE t.hm, decide_eq_true_eq, mem_rg]
    exact hq
theorem nums_lc {C : Calls} {own : List Nat} {t : Tg} {e : E} {env : En} {st : Store} {K : List Mn.D → Store → Prop} {X : Nat → Store → Prop} (rs : List Rw) (hb : ∀ r : Rw, lcBody C own t .nil e env (rD r) st = .ok (some (.int r.2)) st) (k : K (iD (nums rs)) st) : RW (lcLoop [] (lcBody C own t .nil e env) (rs.map rD) [] st) K X := by
  refine lc_pure rfl rD (fun r => some (.int r.2)) rs (fun r _ => hb r) ?_
  rw [fm_map]
  unfold nums iD at k
  rw [List.map_map] at k
  exact k
theorem nums_rowsM (m : Int) (rs : List Rw) : nums (rowsM m rs) = nums rs := by
  unfold nums rowsM
  rw [List.map_map]
  rfl
theorem sols_rowsM (m : Int) (rs : List Rw) : waysL (csOf (rowsM m rs)) (regs m).length 0 (nums (rowsM m rs)) = solsL m rs := by
  rw [cs_rowsM, nums_rowsM]
  rfl
theorem nums_lt {m : Int} {rs : List Rw} (t : Tel m rs) : ∀ l ∈ nums (rowsM m rs), 0 ≤ l ∧ l < 10 := by
  rw [nums_rowsM]
  intro l hl
  obtain ⟨r, hr, rfl⟩ := List.mem_map.mp hl
  have := t.hn r hr
  omega
theorem nums_len (rs : List Rw) : (nums rs).length = rs.length := by simp [nums]
theorem ne_nilI (st : Store) (l : List Int) : pCmp .ne (.lst (iD l)) (.lst []) st = some (!decide (l = [])) := by
  have h := (cmp_lst (a := iD l) (b := []) ⟨isPs_ints l, by rw [show deps (iD l) = 0 from deps_ints l]; omega⟩ ⟨rfl, by simp [deps]⟩ st).2
  rw [h]
  cases l <;> rfl
end Pg

set_option Elab.async false
set_option linter.all false
set_option maxRecDepth 100000
set_option maxHeartbeats 8000000
/-! Li: common, lots_at, number_of, all_lots. -/
namespace Pg
open Mn
local macro_rules | `(tactic| walk_at "go") => `(tactic| repeat (first | refine EsW.cons ?_ | refine EW.var rfl ?_ | refine EsW.nil ?_ | refine EW.con ?_ | refine EW.call ?_ | refine EW.bin ?_ | refine EW.idx ?_ | refine EW.cmp ?_ | refine EW.bi ?_ | refine Exists.intro _ (And.intro rfl ?_) | refine SW.cons ?_ | refine SW.asgT ?_ | refine SW.ite ?_ | refine RW.oB (eq_i _ _ _) ?_ | refine RW.oB (ne_i _ _ _) ?_ | refine RW.oB (lt_i _ _ _) ?_ | refine RW.oB (le_i _ _ _) ?_ | refine RW.oB (gt_i _ _ _) ?_ | refine RW.oB (ge_i _ _ _) ?_ | refine RW.prim rfl ?_ | refine SW.nil ?_ | refine SW.ret ?_ | refine SW.expr ?_ | refine EW.glo ?_ | refine EW.bi2 ?_ | refine EW.not ?_ | refine EW.isN ?_ | refine EW.notN ?_ | refine EW.tup ?_ | refine EW.lst ?_ | refine EW.lstM ?_ | refine EW.dic ?_ | refine EW.sl ?_ | refine EoW.nil ?_ | refine EoW.one ?_ | refine SW.setI ?_ | refine EW.lc ?_ | refine WkW.one ?_ | refine WkW.rng ?_ | refine WkW.rng2 ?_ | refine WkW.enu ?_ | refine WkW.zip ?_ | refine Exists.intro _ (Exists.intro _ (And.intro rfl (And.intro rfl ?_))) | refine EW.or ?_ | refine EW.and ?_ | refine EtW.nil ?_ | refine EtW.one ?_ | refine EW.neg ?_ | refine EW.isi ?_ | refine EW.ite ?_ | refine SW.for_ ?_ | refine SW.retN ?_ | refine SW.raise ?_ | refine SW.par (by simp) (by simp) ?_ | refine EW.fnv ?_ | refine EW.callV ?_ | ((refine And.intro ?_ ?_); (focus ((with_reducible (show List.contains _ _ = true)); rfl))) | refine EW.chain ?_ | refine EW.chn ?_ | refine SW.pass ?_ | refine SW.brk ?_ | refine SW.cont ?_ | refine And.intro (by simp [maxLen] : _ ≤ maxLen) ?_))
theorem totL_skip (q : Int) (c : List Int) : ∀ (x : List Int) (p : Int), q < p → totL x (q :: c) p = totL x c p
  | [], _, _ => rfl
  | v :: x, p, h => by
    have ih := totL_skip q c x (p + 1) (by omega)
    unfold totL
    rw [ih]
    have : (p ∈ q :: c) ↔ p ∈ c := by
      simp only [List.mem_cons]
      constructor
      · rintro (z | z)
        · omega
        · exact z
      · exact .inr
    simp only [this]
theorem com_tot (s : List Int) : ∀ (rg : List (List Int)) (x : List Int) (p : Int), x.length = rg.length → comZ s rg x = totL x (colsOf rg s p) p
  | [], [], _, _ => rfl
  | [], _ :: _, _, h => by simp at h
  | _ :: _, [], _, h => by simp at h
  | r :: rg, v :: x, p, h => by
    have ih := com_tot s rg x (p + 1) (by simpa using h)
    have hge : p ∉ colsOf rg s (p + 1) := fun hm => by have := colsOf_ge s rg (p + 1) p hm; omega
    unfold comZ colsOf
    show (if (s.all fun x => decide (x ∈ r)) then v else 0) + comZ s rg x = _
    by_cases hs : (s.all fun x => decide (x ∈ r)) = true
    · rw [if_pos hs, if_pos hs, totL, totL_skip p _ x (p + 1) (by omega), if_pos (by simp), ih]
    · rw [if_neg hs, if_neg hs, totL, if_neg hge, ih]
theorem com_totL {m : Int} {x s : List Int} (h : x.length = (regs m).length) : comL m x s = totL x (cols m s) 0 := com_tot s (regs m) x 0 h
theorem zip_rg : ∀ (x : List Int) (rg : List (List Int)), zipD (iD x) (rg.map sD) = (x.zip rg).map fun q => .tup [.int q.1, sD q.2]
  | [], rg => by cases rg <;> rfl
  | v :: x, [] => rfl
  | v :: x, r :: rg => by
    show Mn.D.tup [.int v, sD r] :: zipD (iD x) (rg.map sD) = _
    rw [zip_rg x rg]
    rfl
theorem com_sum (s : List Int) : ∀ (rg : List (List Int)) (x : List Int), (((x.zip rg).filter fun q => inB s q.2).map (·.1)).sum = comZ s rg x
  | [], x => by cases x <;> rfl
  | r :: rg, [] => rfl
  | r :: rg, v :: x => by
    have ih := com_sum s rg x
    simp only [List.zip_cons_cons, List.filter_cons, comZ]
    cases h : inB s r <;> simp [ih]
theorem within_c {j : Nat} (hj : 1 ≤ j) (st : Store) (s r : List Int) (hl : s.length ≤ 1000) : callN (tab L) j i_is_within [sD s, sD r] st = .ok (.bl (inB s r)) st := by
  obtain ⟨i, rfl⟩ := Nat.exists_eq_add_of_le hj
  rw [Nat.add_comm]
  exact within_ok i st s r hl
/-! ### is_whole of anything plain -/
def wholeB (d : Mn.D) (a b : Int) : Bool := match d with
  | .int i => decide (a ≤ i) && decide (i ≤ b)
  | _ => false
theorem whole_c {j : Nat} (hj : 1 ≤ j) (st : Store) (d : Mn.D) (hd : d.isP = true) (a b : Int) : callN (tab L) j i_is_whole [d, .int a, .int b] st = .ok (.bl (wholeB d a b)) st := by
  obtain ⟨i, rfl⟩ := Nat.exists_eq_add_of_le hj
  rw [Nat.add_comm]
  cases d with
  | int x => exact whole_ok i st x a b
  | ob _ => cases hd
  | fn _ => cases hd
  | ex _ => cases hd
  | scr _ => cases hd
  | _ => rfl
/-! ### lots_at -/
theorem get_flat {f : Int → List (List Int)} {y : List Int} : ∀ (l : List Int) (r : Nat) (v : Int), ((v :: l).flatMap f)[r]? = some y → (r < (f v).length ∧ (f v)[r]? = some y) ∨ ((f v).length ≤ r ∧ (l.flatMap f)[r - (f v).length]? = some y) := by
  intro l r v h
  rw [List.flatMap_cons] at h
  by_cases hr : r < (f v).length
  · rw [List.getElem?_append_left hr] at h
    exact .inl ⟨hr, h⟩
  · rw [List.getElem?_append_right (by omega)] at h
    exact .inr ⟨by omega, h⟩
def laE (T : Mn.D) (num : Int) (R : List Rw) (many : Nat) (left : List Int) (jd : Nat) (made : List Int) (x7 x8 x9 x10 : Option Mn.D) : En := [some T, some (.int num), some (.lst (R.map rD)), some (.int (many : Int)), some (.lst (iD left)), some (.ob jd), some (sD made), x7, x8, x9, x10, none]
theorem rg_step (v : Int) (n : Nat) : rgI v (n + 1) = v :: rgI (v + 1) n := rfl
end Pg

set_option Elab.async false
set_option linter.all false
set_option maxRecDepth 100000
set_option maxHeartbeats 8000000
/-! Lj: are_lots of anything, number_of, all_lots. -/
namespace Pg
open Mn
local macro_rules | `(tactic| walk_at "go") => `(tactic| repeat (first | refine EsW.cons ?_ | refine EW.var rfl ?_ | refine EsW.nil ?_ | refine EW.con ?_ | refine EW.call ?_ | refine EW.bin ?_ | refine EW.idx ?_ | refine EW.cmp ?_ | refine EW.bi ?_ | refine Exists.intro _ (And.intro rfl ?_) | refine SW.cons ?_ | refine SW.asgT ?_ | refine SW.ite ?_ | refine RW.oB (eq_i _ _ _) ?_ | refine RW.oB (ne_i _ _ _) ?_ | refine RW.oB (lt_i _ _ _) ?_ | refine RW.oB (le_i _ _ _) ?_ | refine RW.oB (gt_i _ _ _) ?_ | refine RW.oB (ge_i _ _ _) ?_ | refine RW.prim rfl ?_ | refine SW.nil ?_ | refine SW.ret ?_ | refine SW.expr ?_ | refine EW.glo ?_ | refine EW.bi2 ?_ | refine EW.not ?_ | refine EW.isN ?_ | refine EW.notN ?_ | refine EW.tup ?_ | refine EW.lst ?_ | refine EW.lstM ?_ | refine EW.dic ?_ | refine EW.sl ?_ | refine EoW.nil ?_ | refine EoW.one ?_ | refine SW.setI ?_ | refine EW.lc ?_ | refine WkW.one ?_ | refine WkW.rng ?_ | refine WkW.rng2 ?_ | refine WkW.enu ?_ | refine WkW.zip ?_ | refine Exists.intro _ (Exists.intro _ (And.intro rfl (And.intro rfl ?_))) | refine EW.or ?_ | refine EW.and ?_ | refine EtW.nil ?_ | refine EtW.one ?_ | refine EW.neg ?_ | refine EW.isi ?_ | refine EW.ite ?_ | refine SW.for_ ?_ | refine SW.retN ?_ | refine SW.raise ?_ | refine SW.par (by simp) (by simp) ?_ | refine EW.fnv ?_ | refine EW.callV ?_ | ((refine And.intro ?_ ?_); (focus ((with_reducible (show List.contains _ _ = true)); rfl))) | refine EW.chain ?_ | refine EW.chn ?_ | refine SW.pass ?_ | refine SW.brk ?_ | refine SW.cont ?_ | refine And.intro (by simp [maxLen] : _ ≤ maxLen) ?_))
def lotsD (m : Int) (d : Mn.D) : Bool := match d with
  | .tup xs => decide (xs.length = (regs m).length) && xs.all fun z => wholeB z 0 99
  | _ => false
theorem isPs_all {xs : List Mn.D} (h : isPs xs = true) : ∀ x ∈ xs, x.isP = true := isPs_mem h
theorem bls_all {α : Type} (l : List α) (f : α → Bool) (st : Store) : pBi .all [.lst (l.map fun r => .bl (f r))] st = .ok (.bl (l.all f)) st := by
  show bAll (fun bs => bs.all id) [.lst (l.map fun r => .bl (f r))] st = _
  have e : (l.map fun r => Mn.D.bl (f r)) = (l.map f).map .bl := by rw [List.map_map]; rfl
  rw [e]
  simp only [bAll, asL, Option.bind, dBools_map]
  simp [List.all_map, Function.comp_def]
theorem lc_pure0 {src : List (Nat × List Mn.D)} {body : Mn.D → Store → Res (Option Mn.D)} {K : List Mn.D → Store → Prop} {X : Nat → Store → Prop} {st : Store} (hs : still st src = true) (g : Mn.D → Option Mn.D) (xs : List Mn.D) (hb : ∀ x ∈ xs, body x st = .ok (g x) st) (k : K (xs.filterMap g) st) : RW (lcLoop src body xs [] st) K X := by
  have := lc_pure (X := X) hs id g xs hb k
  rw [List.map_id] at this
  exact this
theorem lotsD_tup (m : Int) (xs : List Mn.D) : lotsD m (.tup xs) = (decide (xs.length = (regs m).length) && xs.all fun z => wholeB z 0 99) := rfl
theorem lotsD_inv {m : Int} {d : Mn.D} (h : lotsD m d = true) : ∃ x : List Int, d = sD x ∧ x.length = (regs m).length ∧ ∀ z ∈ x, 0 ≤ z ∧ z ≤ 99 := by
  unfold lotsD at h
  cases d with
  | tup xs =>
    simp only [Bool.and_eq_true, decide_eq_true_eq, List.all_eq_true] at h
    have : ∀ l : List Mn.D, (∀ z ∈ l, wholeB z 0 99 = true) → ∃ x : List Int, l = iD x ∧ ∀ z ∈ x, 0 ≤ z ∧ z ≤ 99 := by
      intro l
      induction l with
      | nil => intro _; exact ⟨[], rfl, by simp⟩
      | cons a l ih =>
        intro h
        obtain ⟨x, h1, h2⟩ := ih fun z hz => h z (by simp [hz])
        have ha := h a (by simp)
        cases a with
        | int i =>
          simp [wholeB] at ha
          refine ⟨i :: x, by rw [h1]; rfl, fun z hz => ?_⟩
          rcases List.mem_cons.mp hz with e | hz
          · subst e; exact ha
          · exact h2 z hz
        | _ => simp [wholeB] at ha
    obtain ⟨x, h1, h2⟩ := this xs h.2
    exact ⟨x, by rw [h1]; rfl, by rw [← h.1, h1, iD_len], h2⟩
  | _ => cases h
theorem lotsD_sD {m : Int} {x : List Int} (h1 : x.length = (regs m).length) (h2 : ∀ z ∈ x, 0 ≤ z ∧ z ≤ 99) : lotsD m (sD x) = true := by
  show (decide ((iD x).length = (regs m).length) && (iD x).all fun z => wholeB z 0 99) = true
  rw [iD_len, decide_eq_true h1, Bool.true_and, List.all_eq_true]
  intro z hz
  obtain ⟨i, hi, rfl⟩ := List.mem_map.mp hz
  have := h2 i hi
  simp [wholeB]
  exact this
theorem mem_totL {x c : List Int} (hn : ∀ v ∈ x, 0 ≤ v) : ∀ (p : Int) (k : Nat) (v : Int), x[k]? = some v → (p + k) ∈ c → v ≤ totL x c p := by
  induction x with
  | nil => intro p k v h; simp at h
  | cons a x ih =>
    intro p k v h hc
    have ha := hn a (by simp)
    have hx : ∀ v ∈ x, 0 ≤ v := fun v hv => hn v (by simp [hv])
    have hp := totL_pos hx c (p + 1)
    cases k with
    | zero =>
      simp at h
      subst h
      unfold totL
      rw [if_pos (by simpa using hc)]
      omega
    | succ k =>
      have := ih hx (p + 1) k v (by simpa using h) (by rw [show p + 1 + (k : Int) = p + ((k + 1 : Nat) : Int) by omega]; exact hc)
      unfold totL
      split <;> omega
/-- lots that fit a telling of all things are small -/
theorem fit_le {m : Int} {rs : List Rw} (t : Tel m rs) {x : List Int} (h : FitL m rs x) (hrow : ∃ r ∈ rs, r.1 = []) : ∀ z ∈ x, 0 ≤ z ∧ z ≤ 9 := by
  obtain ⟨r, hr, e⟩ := hrow
  intro z hz
  obtain ⟨k, hk⟩ := List.getElem?_of_mem hz
  have hkl : k < x.length := (List.getElem?_eq_some_iff.mp hk).1
  have h1 := h.fl r hr
  have h2 := mem_totL h.nn (c := cols m r.1) 0 k z hk (by
    rw [e, colE t.hm, mem_rg]
    have := h.len
    omega)
  have h3 := t.hn r hr
  exact ⟨h.nn z hz, by omega⟩
theorem rg_split (v : Nat) : ∀ (c : Nat) (lo : Int), v ≤ c → rgI lo c = rgI lo v ++ rgI (lo + v) (c - v) := by
  induction v with
  | zero => intro c lo _; simp [rgI]
  | succ v ih =>
    intro c lo h
    cases c with
    | zero => omega
    | succ c =>
      rw [rgI, ih c (lo + 1) (by omega), rgI, List.cons_append, Nat.add_sub_add_right]
      rw [show lo + 1 + (v : Int) = lo + ((v + 1 : Nat) : Int) by omega]
theorem flat_at {f : Int → List (List Int)} {c v r : Nat} {y : List Int} (hv : v < c) (h : (f (v : Int))[r]? = some y) : ((rgI 0 c).flatMap f)[((rgI 0 v).flatMap f).length + r]? = some y := by
  rw [rg_split v c 0 (by omega), List.flatMap_append, List.getElem?_append_right (Nat.le_add_right _ _), Nat.add_sub_cancel_left]
  rw [show c - v = (c - v - 1) + 1 by omega, Int.zero_add]
  show (((v : Int) :: rgI ((v : Int) + 1) (c - v - 1)).flatMap f)[r]? = _
  rw [List.flatMap_cons, List.getElem?_append_left (List.getElem?_eq_some_iff.mp h).1]
  exact h
def noE (T : Mn.D) (x : List Int) (tot : Int) (R : List Rw) (many : Nat) (left : List Int) (jd : Nat) (x7 x8 x9 x10 : Option Mn.D) : En := [some T, some (sD x), some (.int tot), some (.lst (R.map rD)), some (.int (many : Int)), some (.lst (iD left)), some (.ob jd), x7, x8, x9, x10, none]
theorem iD_at {x : List Int} {p : Nat} {v : Int} (h : x[p]? = some v) : atD (iD x) (p : Int) = some (.int v) := by
  have hl := (List.getElem?_eq_some_iff.mp h).1
  unfold atD ixOf
  rw [if_pos (by omega), if_pos (by rw [iD_len]; omega)]
  show (iD x)[((p : Int)).toNat]? = _
  rw [Int.toNat_natCast, iD_get, h]
  rfl
/-! ### all_lots -/
end Pg

set_option Elab.async false
set_option linter.all false
set_option maxRecDepth 100000
set_option maxHeartbeats 8000000
/-! Sm: the law's heaps and small tellings. -/
namespace Pg
open Mn
local macro_rules | `(tactic| walk_at "go") => `(tactic| repeat (first | refine EsW.cons ?_ | refine EW.var rfl ?_ | refine EsW.nil ?_ | refine EW.con ?_ | refine EW.call ?_ | refine EW.bin ?_ | refine EW.idx ?_ | refine EW.cmp ?_ | refine EW.bi ?_ | refine Exists.intro _ (And.intro rfl ?_) | refine SW.cons ?_ | refine SW.asgT ?_ | refine SW.ite ?_ | refine RW.oB (eq_i _ _ _) ?_ | refine RW.oB (ne_i _ _ _) ?_ | refine RW.oB (lt_i _ _ _) ?_ | refine RW.oB (le_i _ _ _) ?_ | refine RW.oB (gt_i _ _ _) ?_ | refine RW.oB (ge_i _ _ _) ?_ | refine RW.prim rfl ?_ | refine SW.nil ?_ | refine SW.ret ?_ | refine SW.expr ?_ | refine EW.glo ?_ | refine EW.bi2 ?_ | refine EW.not ?_ | refine EW.isN ?_ | refine EW.notN ?_ | refine EW.tup ?_ | refine EW.lst ?_ | refine EW.lstM ?_ | refine EW.dic ?_ | refine EW.sl ?_ | refine EoW.nil ?_ | refine EoW.one ?_ | refine SW.setI ?_ | refine EW.lc ?_ | refine WkW.one ?_ | refine WkW.rng ?_ | refine WkW.rng2 ?_ | refine WkW.enu ?_ | refine WkW.zip ?_ | refine Exists.intro _ (Exists.intro _ (And.intro rfl (And.intro rfl ?_))) | refine EW.or ?_ | refine EW.and ?_ | refine EtW.nil ?_ | refine EtW.one ?_ | refine EW.neg ?_ | refine EW.isi ?_ | refine EW.ite ?_ | refine SW.for_ ?_ | refine SW.retN ?_ | refine SW.raise ?_ | refine SW.par (by simp) (by simp) ?_ | refine EW.fnv ?_ | refine EW.callV ?_ | ((refine And.intro ?_ ?_); (focus ((with_reducible (show List.contains _ _ = true)); rfl))) | refine EW.chain ?_ | refine EW.chn ?_ | refine SW.pass ?_ | refine SW.brk ?_ | refine SW.cont ?_ | refine And.intro (by simp [maxLen] : _ ≤ maxLen) ?_))
/-! ### _law_ways -/
def levN (most : Nat) : Nat → List (List Int)
  | 0 => [[]]
  | k + 1 => (levN most k).flatMap fun line => (rgI 0 (((most : Int) + 1 - line.sum).toNat)).map fun v => line ++ [v]
theorem lev_mem (most : Nat) : ∀ (k : Nat) (x : List Int), x ∈ levN most k ↔ x.length = k ∧ (∀ v ∈ x, 0 ≤ v) ∧ x.sum ≤ most
  | 0, x => by
    simp only [levN, List.mem_singleton]
    constructor
    · rintro rfl; simp
    · rintro ⟨h, _⟩; exact List.eq_nil_of_length_eq_zero h
  | k + 1, x => by
    simp only [levN, List.mem_flatMap, List.mem_map, mem_rg]
    constructor
    · rintro ⟨line, hl, v, hv, rfl⟩
      obtain ⟨h1, h2, h3⟩ := (lev_mem most k line).mp hl
      refine ⟨by simp [h1], fun w hw => ?_, ?_⟩
      · rcases List.mem_append.mp hw with h | h
        · exact h2 w h
        · simp at h; omega
      · rw [List.sum_append]; simp; omega
    · rintro ⟨h1, h2, h3⟩
      have hne : x ≠ [] := by intro e; subst e; simp at h1
      have hx := List.dropLast_concat_getLast hne
      have hs : x.dropLast.sum + x.getLast hne = x.sum := by
        conv => rhs; rw [← hx]
        rw [List.sum_append]; simp
      have hg := h2 _ (List.getLast_mem hne)
      refine ⟨x.dropLast, (lev_mem most k _).mpr ⟨by simp [h1], fun w hw => h2 w (List.dropLast_subset _ hw), by omega⟩, x.getLast hne, ⟨by omega, by omega⟩, hx⟩
theorem lx_snoc : ∀ (a b : List Int) (u v : Int), a.length = b.length → lts (iD a) (iD b) = true → lts (iD (a ++ [u])) (iD (b ++ [v])) = true
  | [], [], _, _, _, h => by cases h
  | [], _ :: _, _, _, h, _ => by simp at h
  | _ :: _, [], _, _, h, _ => by simp at h
  | x :: a, y :: b, u, v, h, hlt => by
    rw [List.cons_append, List.cons_append, lx_cons]
    rw [lx_cons] at hlt
    by_cases e : x = y
    · rw [if_pos e] at hlt ⊢
      exact lx_snoc a b u v (by simpa using h) hlt
    · rw [if_neg e] at hlt ⊢
      exact hlt
theorem lx_app (a : List Int) (u v : Int) (h : u < v) : lts (iD (a ++ [u])) (iD (a ++ [v])) = true := by
  induction a with
  | nil => rw [List.nil_append, List.nil_append, lx_cons, if_neg (by omega)]; simpa using h
  | cons x a ih => rw [List.cons_append, List.cons_append, lx_cons, if_pos rfl]; exact ih
theorem lev_pw (most : Nat) : ∀ k : Nat, LxP (levN most k)
  | 0 => List.pairwise_singleton _ _
  | k + 1 => by
    have ih := lev_pw most k
    have key : ∀ l : List (List Int), LxP l → (∀ x ∈ l, x.length = k) → LxP (l.flatMap fun line => (rgI 0 (((most : Int) + 1 - line.sum).toNat)).map fun v => line ++ [v]) := by
      intro l
      induction l with
      | nil => intro _ _; exact List.Pairwise.nil
      | cons a l ih2 =>
        intro hp hk
        unfold LxP at hp
        rw [List.pairwise_cons] at hp
        unfold LxP
        rw [List.flatMap_cons, List.pairwise_append]
        refine ⟨?_, ih2 hp.2 fun x hx => hk x (by simp [hx]), fun x hx y hy => ?_⟩
        · rw [List.pairwise_map]
          exact (rg_pw _ _).imp fun {u v} h => lx_app a u v h
        · obtain ⟨u, _, rfl⟩ := List.mem_map.mp hx
          obtain ⟨b, hb, hy⟩ := List.mem_flatMap.mp hy
          obtain ⟨v, _, rfl⟩ := List.mem_map.mp hy
          exact lx_snoc a b u v (by rw [hk a (by simp), hk b (by simp [hb])]) (hp.1 b hb)
    exact key _ ih fun x hx => ((lev_mem most k x).mp hx).1
theorem lev_few : ((List.range 9).all fun k => (List.range 6).all fun most => decide ((levN most k).length ≤ 1287)) = true := by decide +kernel
theorem lev_len {most k : Nat} (hm : most ≤ 5) (hk : k ≤ 8) : (levN most k).length ≤ 1287 := by
  have h1 := List.all_eq_true.mp lev_few k (List.mem_range.mpr (by omega))
  have h2 := List.all_eq_true.mp h1 most (List.mem_range.mpr (by omega))
  exact of_decide_eq_true h2
theorem sum_sD (x : List Int) (st : Store) : pBi .sum [sD x] st = .ok (.int x.sum) st := by
  show (match dInts (iD x) with
    | some is => Res.ok (Mn.D.int is.sum) st
    | none => .err) = _
  rw [dInts_iD]
theorem ext_o {st : Store} {j : Nat} {xs ys : List Mn.D} {d : Mn.D} (h : st[j]? = some (.lst xs)) (hd : asL st d = some ys) (hl : xs.length + ys.length ≤ maxLen) : pMe .extend (.ob j) [d] st = .ok .non (st.set j (.lst (xs ++ ys))) := by
  show mExtend (.ob j) [d] st = _
  simp only [mExtend, h, hd, hl, if_true]
theorem flat_take_succ {α β : Type} (f : α → List β) (l : List α) (i : Nat) (a : α) (h : l[i]? = some a) : ((l.take (i + 1)).flatMap f) = ((l.take i).flatMap f) ++ f a := by
  rw [List.take_succ, h, List.flatMap_append]
  simp
theorem flat_take_le {α β : Type} (f : α → List β) (l : List α) (i : Nat) : ((l.take i).flatMap f).length ≤ (l.flatMap f).length := by
  conv => rhs; rw [← List.take_append_drop i l, List.flatMap_append, List.length_append]
  exact Nat.le_add_right _ _
theorem lregs_c {j : Nat} (hj : 1 ≤ j) (st : Store) {m : Int} (h : 1 ≤ m ∧ m ≤ 3) : callN (tab L) j i__law_regions [.int m] st = .ok (.lst ((regs m).map sD)) st := by
  obtain ⟨i, rfl⟩ := Nat.exists_eq_add_of_le hj
  rw [Nat.add_comm]
  exact lregions_ok i st h
theorem still_oneX {st : Store} {j : Nat} {xs : List Mn.D} (h : st[j]? = some (.lst xs)) : still st [(j, xs)] = true := by
  simp only [still, obL, h, Bool.and_true]
  exact Mn.beqs_refl xs
/-- a list or an object that holds these items -/
def Holds (st : Store) (d : Mn.D) (xs : List Mn.D) : Prop := d = .lst xs ∨ ∃ n, d = .ob n ∧ st[n]? = some (.lst xs)
theorem Holds.wk {st : Store} {d : Mn.D} {xs : List Mn.D} (h : Holds st d xs) : ∃ src, wkOf st d = some ⟨xs, src⟩ ∧ ∀ st', (∀ i, i < st.length → st'[i]? = st[i]?) → still st' src = true := by
  rcases h with rfl | ⟨n, rfl, h⟩
  · exact ⟨[], rfl, fun _ _ => rfl⟩
  · refine ⟨[(n, xs)], by simp [wkOf, obL, h], fun st' hs => ?_⟩
    exact still_oneX (by rw [hs n (lt_len h)]; exact h)
theorem Holds.asL {st : Store} {d : Mn.D} {xs : List Mn.D} (h : Holds st d xs) : Mn.asL st d = some xs := by
  rcases h with rfl | ⟨n, rfl, h⟩
  · rfl
  · exact asL_ob h
theorem Holds.app {st : Store} {d : Mn.D} {xs : List Mn.D} (h : Holds st d xs) {st' : Store} (x : Ex st st') : Holds st' d xs := by
  rcases h with rfl | ⟨n, rfl, h⟩
  · exact .inl rfl
  · exact .inr ⟨n, rfl, x.get h⟩
theorem set_last (st : Store) (a b : Ob) : (st ++ [a]).set st.length b = st ++ [b] := by
  rw [List.set_append_right _ _ (Nat.le_refl _)]
  simp
theorem lev_sum {most k : Nat} {x : List Int} (h : x ∈ levN most k) : 0 ≤ x.sum ∧ x.sum ≤ most := by
  obtain ⟨_, h2, h3⟩ := (lev_mem most k x).mp h
  refine ⟨?_, h3⟩
  have : ∀ l : List Int, (∀ v ∈ l, 0 ≤ v) → 0 ≤ l.sum := by
    intro l
    induction l with
    | nil => intro _; simp
    | cons a l ih => intro h; have := h a (by simp); have := ih fun v hv => h v (by simp [hv]); simp; omega
  exact this x h2
def lwE (m most : Int) (R : Mn.D) (x3 x4 x5 : Option Mn.D) : En := [some (.int m), some (.int most), some R, x3, x4, x5, none]
end Pg

set_option Elab.async false
set_option linter.all false
set_option maxRecDepth 100000
set_option maxHeartbeats 8000000
/-! Sn: the law's common, fit, every. -/
namespace Pg
open Mn
local macro_rules | `(tactic| walk_at "go") => `(tactic| repeat (first | refine EsW.cons ?_ | refine EW.var rfl ?_ | refine EsW.nil ?_ | refine EW.con ?_ | refine EW.call ?_ | refine EW.bin ?_ | refine EW.idx ?_ | refine EW.cmp ?_ | refine EW.bi ?_ | refine Exists.intro _ (And.intro rfl ?_) | refine SW.cons ?_ | refine SW.asgT ?_ | refine SW.ite ?_ | refine RW.oB (eq_i _ _ _) ?_ | refine RW.oB (ne_i _ _ _) ?_ | refine RW.oB (lt_i _ _ _) ?_ | refine RW.oB (le_i _ _ _) ?_ | refine RW.oB (gt_i _ _ _) ?_ | refine RW.oB (ge_i _ _ _) ?_ | refine RW.prim rfl ?_ | refine SW.nil ?_ | refine SW.ret ?_ | refine SW.expr ?_ | refine EW.glo ?_ | refine EW.bi2 ?_ | refine EW.not ?_ | refine EW.isN ?_ | refine EW.notN ?_ | refine EW.tup ?_ | refine EW.lst ?_ | refine EW.lstM ?_ | refine EW.dic ?_ | refine EW.sl ?_ | refine EoW.nil ?_ | refine EoW.one ?_ | refine SW.setI ?_ | refine EW.lc ?_ | refine WkW.one ?_ | refine WkW.rng ?_ | refine WkW.rng2 ?_ | refine WkW.enu ?_ | refine WkW.zip ?_ | refine Exists.intro _ (Exists.intro _ (And.intro rfl (And.intro rfl ?_))) | refine EW.or ?_ | refine EW.and ?_ | refine EtW.nil ?_ | refine EtW.one ?_ | refine EW.neg ?_ | refine EW.isi ?_ | refine EW.ite ?_ | refine SW.for_ ?_ | refine SW.retN ?_ | refine SW.raise ?_ | refine SW.par (by simp) (by simp) ?_ | refine EW.fnv ?_ | refine EW.callV ?_ | ((refine And.intro ?_ ?_); (focus ((with_reducible (show List.contains _ _ = true)); rfl))) | refine EW.chain ?_ | refine EW.chn ?_ | refine SW.pass ?_ | refine SW.brk ?_ | refine SW.cont ?_ | refine And.intro (by simp [maxLen] : _ ≤ maxLen) ?_))
theorem zip_gr : ∀ (rg : List (List Int)) (x : List Int), zipD (rg.map sD) (iD x) = (rg.zip x).map fun q => .tup [sD q.1, .int q.2]
  | [], x => by cases x <;> rfl
  | r :: rg, [] => rfl
  | r :: rg, v :: x => by
    show Mn.D.tup [sD r, .int v] :: zipD (rg.map sD) (iD x) = _
    rw [zip_gr rg x]
    rfl
def comQ (s : List Int) (q : List (List Int × Int)) : Int := ((q.filter fun z => inB s z.1).map (·.2)).sum
theorem comQ_com (s : List Int) : ∀ (rg : List (List Int)) (x : List Int), comQ s (rg.zip x) = comZ s rg x
  | [], x => by cases x <;> rfl
  | r :: rg, [] => rfl
  | r :: rg, v :: x => by
    have ih := comQ_com s rg x
    unfold comQ at ih ⊢
    simp only [List.zip_cons_cons, List.filter_cons, comZ]
    cases h : inB s r <;> simp [ih]
theorem filt_nil2 (s r : List Int) : ((s.filter fun x => !decide (x ∈ r)) = []) ↔ inB s r = true := filt_nil s r
/-- _law_common, of a tuple or a list -/
theorem lcom_w {j : Nat} (hj : 2 ≤ j) (st : Store) {m : Int} (hm : 1 ≤ m ∧ m ≤ 3) {H : Mn.D} {x s : List Int} {src : List (Nat × List Mn.D)} (hw : wkOf st H = some ⟨iD x, src⟩) (hs : still st src = true) (hl : s.length ≤ 1000) : callN (tab L) j i__law_common [.int m, H, sD s] st = .ok (.int (comL m x s)) st := by
  obtain ⟨j, rfl⟩ : ∃ i, j = i + 1 := ⟨j - 1, by omega⟩
  have hr := lregs_c (j := j) (by omega) st hm
  have key : RW (callN (tab L) (j + 1) i__law_common [.int m, H, sD s] st) (fun d s' => d = .int (comL m x s) ∧ s' = st) NoX := by
    rw [c__law_common]
    generalize callN (tab L) j = C at *
    refine run_w rfl ?_
    show SW _ b__law_common [some (.int m), some H, some (sD s), none, none, none, none] st _
    walk_at "go"
    refine RW.of hr ?_
    walk_at "go"
    refine ⟨_, _, rfl, hw, ?_⟩
    show OW (forLoop ([] ++ src) _ (zipD ((regs m).map sD) (iD x)) _ st) _
    rw [zip_gr, List.nil_append]
    refine for_w (I := fun i e s' => s' = st ∧ ∃ x4 x5, e = [some (.int m), some H, some (sD s), some (.int (comQ s (((regs m).zip x).take i))), x4, x5, none]) (fun _ _ _ h => by rw [h.1]; exact hs) _ 0 _ _ ⟨rfl, none, none, rfl⟩ ?_ ?_
    · rintro i y e s' hy ⟨rfl, x4, x5, rfl⟩
      rw [Nat.zero_add] at *
      rw [List.getElem?_map] at hy
      cases hq : ((regs m).zip x)[i]? with
      | none => rw [hq] at hy; cases hy
      | some q =>
        rw [hq] at hy
        cases hy
        refine fb_of rfl ?_
        walk_at "go"
        refine lc_pure rfl Mn.D.int (fun v => if !decide (v ∈ q.1) then some (.int v) else none) s (fun v _ => ?_) ?_
        · have h1 := notin_ok s' v q.1
          generalize hS : sD s = S at *
          generalize hR : sD q.1 = R at *
          simp [lcBody, asgT, wipeE, h1]
          by_cases h : v ∈ q.1 <;> simp [h]
        · rw [fm_if]
          have hfl : (s.filter fun v => !decide (v ∈ q.1)).length ≤ 1000 := Nat.le_trans (List.length_filter_le _ _) hl
          refine RW.prim (ndL _ _ (by rw [List.length_map]; unfold maxLen; omega)) ?_
          walk_at "go"
          refine RW.oB (show pCmp .eq (.lst (iD (s.filter fun v => !decide (v ∈ q.1)))) (.lst []) s' = some (decide ((s.filter fun v => !decide (v ∈ q.1)) = [])) from eq_nil _ _) ?_
          have hstep : comQ s (((regs m).zip x).take (i + 1)) = comQ s (((regs m).zip x).take i) + (if inB s q.1 then q.2 else 0) := by
            unfold comQ
            rw [List.take_succ, hq, List.filter_append, List.map_append, List.sum_append]
            cases h : inB s q.1 <;> simp [h]
          walk_at "go"
          refine ⟨fun h => ?_, fun h => ?_⟩
          · rw [decide_eq_true_eq] at h
            rw [(filt_nil2 s q.1).mp h, if_pos rfl] at hstep
            walk_at "go"
            refine ⟨rfl, some (sD q.1), some (.int q.2), ?_⟩
            rw [hstep]
            rfl
          · rw [decide_eq_false_iff_not] at h
            have : inB s q.1 = false := by
              cases hb : inB s q.1 with
              | false => rfl
              | true => exact absurd ((filt_nil2 s q.1).mpr hb) h
            rw [this, if_neg (by decide), Int.add_zero] at hstep
            walk_at "go"
            refine ⟨rfl, some (sD q.1), some (.int q.2), ?_⟩
            rw [hstep]
            rfl
    · rintro e s' ⟨rfl, x4, x5, rfl⟩
      walk_at "go"
      refine ⟨?_, rfl⟩
      rw [Nat.zero_add, List.length_map, List.take_length, comQ_com]
      rfl
  obtain ⟨d, s', e, rfl, rfl⟩ := key.ex
  exact e
theorem lcomT_c {j : Nat} (hj : 2 ≤ j) (st : Store) {m : Int} (hm : 1 ≤ m ∧ m ≤ 3) (x s : List Int) (hl : s.length ≤ 1000) : callN (tab L) j i__law_common [.int m, sD x, sD s] st = .ok (.int (comL m x s)) st := lcom_w hj st hm (show wkOf st (sD x) = some ⟨iD x, []⟩ from rfl) rfl hl
theorem lcomO_c {j : Nat} (hj : 2 ≤ j) {st : Store} {m : Int} (hm : 1 ≤ m ∧ m ≤ 3) {n : Nat} {x s : List Int} (h : st[n]? = some (.lst (iD x))) (hl : s.length ≤ 1000) : callN (tab L) j i__law_common [.int m, .ob n, sD s] st = .ok (.int (comL m x s)) st := lcom_w hj st hm (show wkOf st (.ob n) = some ⟨iD x, [(n, iD x)]⟩ by simp [wkOf, obL, h]) (still_oneX h) hl
/-! ### _law_fit -/
def fitB (m : Int) (rs : List Rw) (x : List Int) : Bool := rs.all fun r => decide (comL m x r.1 = r.2)
theorem rows_P (rs : List Rw) : isPs (rs.map rowD) = true ∧ deps (rs.map rowD) ≤ 2 := isPs_map fun r _ => ⟨(rowD_P r).1, Nat.le_of_eq (rowD_P r).2⟩
theorem eq_nilR (rs : List Rw) (st : Store) : pCmp .eq (.lst (rs.map rowD)) (.lst []) st = some (decide (rs = [])) := by
  have h := (cmp_lst (a := rs.map rowD) (b := []) ⟨(rows_P rs).1, by have := (rows_P rs).2; omega⟩ ⟨rfl, by simp [deps]⟩ st).1
  rw [h]
  cases rs <;> rfl
theorem lfit_c {j : Nat} (hj : 3 ≤ j) (st : Store) {m : Int} {rs : List Rw} (t : Tel m rs) (x : List Int) : callN (tab L) j i__law_fit [telD m rs, sD x] st = .ok (.bl (fitB m rs x)) st := by
  obtain ⟨j, rfl⟩ : ∃ i, j = i + 1 := ⟨j - 1, by omega⟩
  have hc : ∀ r ∈ rs, callN (tab L) j i__law_common [.int m, sD x, sD r.1] st = .ok (.int (comL m x r.1)) st := fun r hr => lcomT_c (by omega) st t.hm x r.1 (by have := (setOk_len (t.hs r hr)).1; omega)
  have key : RW (callN (tab L) (j + 1) i__law_fit [telD m rs, sD x] st) (fun d s' => d = .bl (fitB m rs x) ∧ s' = st) NoX := by
    rw [c__law_fit]
    generalize callN (tab L) j = C at *
    refine run_w rfl ?_
    show SW _ b__law_fit [some (telD m rs), some (sD x), none] st _
    walk_at "go"
    show RW (lcLoop [] _ (rs.map rowD) [] st) _ _
    refine lc_pure rfl rowD (fun r => if !decide (comL m x r.1 = r.2) then some (rowD r) else none) rs (fun r hr => ?_) ?_
    · have h1 := hc r hr
      have hb : ∀ (S T X : Mn.D), S = sD r.1 → X = sD x → T = telD m rs → lcBody C [2] (.name 2) (.cons (.cmp .ne (.call i__law_common (.cons (.idx (.var 0) (.con (.int 0))) (.cons (.var 1) (.cons (.idx (.var 2) (.con (.int 0))) .nil)))) (.idx (.var 2) (.con (.int 1)))) .nil) (.var 2) [some T, some X, none] (.tup [S, .int r.2]) st = .ok (if !decide (comL m x r.1 = r.2) then some (.tup [S, .int r.2]) else none) st := by
        intro S T X e1 e2 e3
        have h0 : pIdx T (.int 0) st = .ok (.int m) st := by rw [e3]; rfl
        have ha : pIdx (.tup [S, .int r.2]) (.int 0) st = .ok S st := rfl
        have hb : pIdx (.tup [S, .int r.2]) (.int 1) st = .ok (.int r.2) st := rfl
        rw [← e1, ← e2] at h1
        simp [lcBody, asgT, wipeE, h0, ha, hb, h1, ne_i]
        by_cases h : comL m x r.1 = r.2 <;> simp [h]
      exact hb _ _ _ rfl rfl rfl
    · rw [fm_if]
      have hfl := List.length_filter_le (fun r : Rw => !decide (comL m x r.1 = r.2)) rs
      refine RW.prim (ndL _ _ (by rw [List.length_map]; unfold maxLen; have := t.hl; omega)) ?_
      walk_at "go"
      refine RW.oB (eq_nilR _ _) ?_
      refine ⟨?_, rfl⟩
      congr 1
      unfold fitB
      cases hb : rs.all fun r => decide (comL m x r.1 = r.2) with
      | true =>
        rw [decide_eq_true_eq, List.filter_eq_nil_iff]
        intro r hr
        have := List.all_eq_true.mp hb r hr
        simpa using this
      | false =>
        rw [decide_eq_false_iff_not]
        intro h
        rw [List.filter_eq_nil_iff] at h
        have : (rs.all fun r => decide (comL m x r.1 = r.2)) = true := List.all_eq_true.mpr fun r hr => by have := h r hr; simpa using this
        rw [this] at hb
        cases hb
  obtain ⟨d, s', e, rfl, rfl⟩ := key.ex
  exact e
/-! ### dict of rows -/
def kvR (r : Rw) : Mn.D × Mn.D := (sD r.1, .int r.2)
theorem sD_eqv (a b : List Int) : (sD a).eqv (sD b) = decide (a = b) := by
  by_cases h : a = b
  · subst h
    rw [decide_eq_true rfl]
    exact eqv_refl _ (sD_P a).1
  · rw [decide_eq_false h]
    cases he : (sD a).eqv (sD b) with
    | false => rfl
    | true => exact absurd (iD_inj he) h
theorem keyOk_sD (s : List Int) : keyOk (sD s) = true := by
  have h1 := hsh_ints s
  have h2 : deps (iD s) = 0 := deps_ints s
  simp [keyOk, sD, D.hsh, h1, D.dep, h2]
theorem pairs_rows : ∀ rs : List Rw, pairsOf (rs.map rowD) = some (rs.map kvR)
  | [] => rfl
  | r :: rs => by
    show (if keyOk (sD r.1) then (pairsOf (rs.map rowD)).map ((sD r.1, .int r.2) :: ·) else none) = _
    rw [if_pos (keyOk_sD r.1), pairs_rows rs]
    rfl
theorem put_new {k v : Mn.D} : ∀ {kvs : List (Mn.D × Mn.D)}, (∀ q ∈ kvs, q.1.eqv k = false) → kPut k v kvs = kvs ++ [(k, v)]
  | [], _ => rfl
  | (k', v') :: r, h => by
    have h1 := h (k', v') (by simp)
    unfold kPut
    rw [h1, put_new fun q hq => h q (by simp [hq])]
    rfl
theorem putAll_rows : ∀ (rs as : List Rw), ((as ++ rs).map (·.1)).Nodup → putAll (as.map kvR) (rs.map kvR) = (as ++ rs).map kvR
  | [], as, _ => by simp [putAll]
  | r :: rs, as, h => by
    show putAll (kPut (sD r.1) (.int r.2) (as.map kvR)) (rs.map kvR) = _
    have hn : ∀ q ∈ as.map kvR, q.1.eqv (sD r.1) = false := by
      intro q hq
      obtain ⟨a, ha, rfl⟩ := List.mem_map.mp hq
      show (sD a.1).eqv (sD r.1) = false
      rw [sD_eqv]
      simp only [decide_eq_false_iff_not]
      intro e
      rw [List.map_append, List.nodup_append] at h
      exact h.2.2 a.1 (List.mem_map.mpr ⟨a, ha, rfl⟩) r.1 (by simp) e
    rw [put_new hn]
    have e1 : as.map kvR ++ [(sD r.1, Mn.D.int r.2)] = (as ++ [r]).map kvR := by rw [List.map_append]; rfl
    rw [e1, putAll_rows rs (as ++ [r]) (by rw [List.append_assoc]; exact h), List.append_assoc]
    rfl
theorem dict_rows {rs : List Rw} (hn : (rs.map (·.1)).Nodup) (hl : rs.length ≤ 1000) (st : Store) : pBi .dict [.tup (rs.map rowD)] st = .ok (.ob st.length) (st ++ [.dct (rs.map kvR)]) := by
  show bDict [.tup (rs.map rowD)] st = _
  simp only [bDict, asQ, pairs_rows]
  rw [if_pos (by rw [List.length_map]; unfold maxLen; omega)]
  have := putAll_rows rs [] (by simpa using hn)
  rw [List.nil_append] at this
  rw [show putAll [] (rs.map kvR) = rs.map kvR from this]
theorem look_rows (s : List Int) : ∀ rs : List Rw, kLook (sD s) (rs.map kvR) = (rs.find? fun r => decide (r.1 = s)).map fun r => .int r.2
  | [] => rfl
  | r :: rs => by
    show (if (sD r.1).eqv (sD s) then some (Mn.D.int r.2) else kLook (sD s) (rs.map kvR)) = _
    rw [sD_eqv, look_rows s rs, List.find?_cons]
    cases h : decide (r.1 = s) <;> simp
/-! ### every -/
theorem totL_sum {c : List Int} : ∀ (x : List Int) (p : Int), (∀ q, p ≤ q → q < p + x.length → q ∈ c) → totL x c p = x.sum
  | [], _, _ => rfl
  | v :: x, p, h => by
    have ih := totL_sum (c := c) x (p + 1) fun q h1 h2 => h q (by omega) (by simp; omega)
    unfold totL
    rw [ih, if_pos (h p (by omega) (by simp; omega)), List.sum_cons]
theorem every_eq {m : Int} {rs : List Rw} (t : Tel m rs) {n0 : Nat} (h0 : (([], (n0 : Int)) : Rw) ∈ rs) : (levN n0 (regs m).length).filter (fitB m rs) = solsL m rs := by
  refine lx_same ((lev_pw n0 _).sublist List.filter_sublist) (sols_pw m rs) fun x => ?_
  rw [List.mem_filter, lev_mem, mem_sols]
  have hsum : x.length = (regs m).length → totL x (cols m []) 0 = x.sum := fun hl => totL_sum x 0 fun q h1 h2 => by rw [colE t.hm, mem_rg]; omega
  constructor
  · rintro ⟨⟨h1, h2, h3⟩, h4⟩
    refine ⟨h1, h2, fun r hr => ?_, fun k v hk hno => ?_⟩
    · have := List.all_eq_true.mp h4 r hr
      rw [decide_eq_true_eq, com_totL h1] at this
      exact this
    · have := hno _ h0
      have hkl : k < x.length := (List.getElem?_eq_some_iff.mp hk).1
      rw [colE t.hm, mem_rg] at this
      omega
  · intro h
    refine ⟨⟨h.len, h.nn, ?_⟩, List.all_eq_true.mpr fun r hr => ?_⟩
    · have := h.fl _ h0
      rw [hsum h.len] at this
      simp at this
      omega
    · rw [decide_eq_true_eq, com_totL h.len]
      exact h.fl r hr
end Pg

set_option Elab.async false
set_option linter.all false
set_option maxRecDepth 100000
set_option maxHeartbeats 8000000
/-! So: _law_small. -/
namespace Pg
open Mn
local macro_rules | `(tactic| walk_at "go") => `(tactic| repeat (first | refine EsW.cons ?_ | refine EW.var rfl ?_ | refine EsW.nil ?_ | refine EW.con ?_ | refine EW.call ?_ | refine EW.bin ?_ | refine EW.idx ?_ | refine EW.cmp ?_ | refine EW.bi ?_ | refine Exists.intro _ (And.intro rfl ?_) | refine SW.cons ?_ | refine SW.asgT ?_ | refine SW.ite ?_ | refine RW.oB (eq_i _ _ _) ?_ | refine RW.oB (ne_i _ _ _) ?_ | refine RW.oB (lt_i _ _ _) ?_ | refine RW.oB (le_i _ _ _) ?_ | refine RW.oB (gt_i _ _ _) ?_ | refine RW.oB (ge_i _ _ _) ?_ | refine RW.prim rfl ?_ | refine SW.nil ?_ | refine SW.ret ?_ | refine SW.expr ?_ | refine EW.glo ?_ | refine EW.bi2 ?_ | refine EW.not ?_ | refine EW.isN ?_ | refine EW.notN ?_ | refine EW.tup ?_ | refine EW.lst ?_ | refine EW.lstM ?_ | refine EW.dic ?_ | refine EW.sl ?_ | refine EoW.nil ?_ | refine EoW.one ?_ | refine SW.setI ?_ | refine EW.lc ?_ | refine WkW.one ?_ | refine WkW.rng ?_ | refine WkW.rng2 ?_ | refine WkW.enu ?_ | refine WkW.zip ?_ | refine Exists.intro _ (Exists.intro _ (And.intro rfl (And.intro rfl ?_))) | refine EW.or ?_ | refine EW.and ?_ | refine EtW.nil ?_ | refine EtW.one ?_ | refine EW.neg ?_ | refine EW.isi ?_ | refine EW.ite ?_ | refine SW.for_ ?_ | refine SW.retN ?_ | refine SW.raise ?_ | refine SW.par (by simp) (by simp) ?_ | refine EW.fnv ?_ | refine EW.callV ?_ | ((refine And.intro ?_ ?_); (focus ((with_reducible (show List.contains _ _ = true)); rfl))) | refine EW.chain ?_ | refine EW.chn ?_ | refine SW.pass ?_ | refine SW.brk ?_ | refine SW.cont ?_ | refine And.intro (by simp [maxLen] : _ ≤ maxLen) ?_))
/-- what a small telling is -/
structure SmOut (m : Int) (rs : List Rw) (x : List Int) (spoilt : Int) : Prop where
  hm : 1 ≤ m ∧ m ≤ 3
  sub : (rs.map (·.1)).Sublist (regs m)
  fst : ∃ (c : Nat) (q : List Rw), rs = ([], (c : Int)) :: q ∧ c ≤ 5
  hn : ∀ r ∈ rs, 0 ≤ r.2 ∧ r.2 ≤ 5
  fit : spoilt = 0 → FitL m rs x
theorem SmOut.tel {m : Int} {rs : List Rw} {x : List Int} {sp : Int} (h : SmOut m rs x sp) : Tel m rs := tel_sub h.hm h.sub fun r hr => by have := h.hn r hr; omega
theorem regs_nd {m : Int} (h : 1 ≤ m ∧ m ≤ 3) : (regs m).Nodup := by
  have : m = 1 ∨ m = 2 ∨ m = 3 := by omega
  rcases this with rfl | rfl | rfl <;> decide
theorem SmOut.nd {m : Int} {rs : List Rw} {x : List Int} {sp : Int} (h : SmOut m rs x sp) : (rs.map (·.1)).Nodup := (regs_nd h.hm).sublist h.sub
theorem SmOut.row {m : Int} {rs : List Rw} {x : List Int} {sp : Int} (h : SmOut m rs x sp) : ∃ r ∈ rs, r.1 = [] := by
  obtain ⟨c, q, rfl, _⟩ := h.fst
  exact ⟨([], (c : Int)), by simp, rfl⟩
def smE (ns : List Int) (sp m left : Int) (jh : Nat) (x6 x7 x8 x9 x10 : Option Mn.D) : En := [some (.scr ns), some (.ob 0), some (.int sp), some (.int m), some (.int left), some (.ob jh), x6, x7, x8, x9, x10]
theorem lim_at {m : Int} (hm : 1 ≤ m ∧ m ≤ 3) (st : Store) : ∃ lim : Int, (4 ≤ lim ∧ lim ≤ 6) ∧ pIdx (.lst [.int 0, .int 6, .int 5, .int 4]) (.int m) st = .ok (.int lim) st := by
  have : m = 1 ∨ m = 2 ∨ m = 3 := by omega
  rcases this with rfl | rfl | rfl
  · exact ⟨6, by omega, rfl⟩
  · exact ⟨5, by omega, rfl⟩
  · exact ⟨4, by omega, rfl⟩
theorem iD_setA (x : List Int) (i : Nat) (v : Int) : (iD x).set i (.int v) = iD (x.set i v) := by unfold iD; rw [List.map_set]
theorem sum_setA : ∀ (x : List Int) (i : Nat) (v : Int), x[i]? = some v → (x.set i (v + 1)).sum = x.sum + 1
  | [], i, v, h => by simp at h
  | a :: x, 0, v, h => by simp at h; subst h; simp; omega
  | a :: x, i + 1, v, h => by
    have := sum_setA x i v (by simpa using h)
    simp only [List.set_cons_succ, List.sum_cons, this]
    omega
theorem rep_flat (n : Nat) : (List.replicate n [Mn.D.int 0]).flatten = iD (List.replicate n 0) := by
  induction n with
  | zero => rfl
  | succ n ih => rw [List.replicate_succ, List.flatten_cons, ih]; rfl
theorem rep_sum (n : Nat) : (List.replicate n (0 : Int)).sum = 0 := by
  induction n with
  | zero => rfl
  | succ n ih => rw [List.replicate_succ, List.sum_cons, ih]; rfl
theorem at_nn {x : List Int} {v : Int} (h : 0 ≤ v ∧ v < x.length) : ∃ w, x[v.toNat]? = some w ∧ atD (iD x) v = some (.int w) := by
  have hl : v.toNat < x.length := by omega
  refine ⟨x[v.toNat], List.getElem?_eq_getElem hl, ?_⟩
  have := iD_at (List.getElem?_eq_getElem hl)
  rw [Int.toNat_of_nonneg h.1] at this
  exact this
/-- all but the town and the object j are as they were -/
structure Fw (st s : Store) (j n : Nat) : Prop where
  t : Town s n
  len : s.length = st.length
  fr : ∀ i, 0 < i → i ≠ j → s[i]? = st[i]?
theorem Fw.refl {st : Store} {j n : Nat} (h : Town st n) : Fw st st j n := ⟨h, rfl, fun _ _ _ => rfl⟩
theorem Fw.draw {st s s' : Store} {j n n' : Nat} (h : Fw st s j n) (w : Tw s s' n') (l : s'.length = s.length) : Fw st s' j n' := ⟨w.t, by rw [l, h.len], fun i h0 h1 => by
  by_cases hi : i < s.length
  · rw [w.fr i h0 hi, h.fr i h0 h1]
  · rw [List.getElem?_eq_none (by omega), List.getElem?_eq_none (by rw [← h.len]; omega)]⟩
theorem Fw.set {st s : Store} {j n : Nat} (h : Fw st s j n) (hj : 0 < j) (o : Ob) : Fw st (s.set j o) j n := ⟨Tw.set h.t hj, by rw [List.length_set, h.len], fun i h0 h1 => by rw [List.getElem?_set_ne (by omega), h.fr i h0 h1]⟩
end Pg

set_option Elab.async false
set_option linter.all false
set_option maxRecDepth 100000
set_option maxHeartbeats 8000000
/-! Me: mean_of; where how_many refuses. -/
namespace Pg
open Mn
local macro_rules | `(tactic| walk_at "go") => `(tactic| repeat (first | refine EsW.cons ?_ | refine EW.var rfl ?_ | refine EsW.nil ?_ | refine EW.con ?_ | refine EW.call ?_ | refine EW.bin ?_ | refine EW.idx ?_ | refine EW.cmp ?_ | refine EW.bi ?_ | refine Exists.intro _ (And.intro rfl ?_) | refine SW.cons ?_ | refine SW.asgT ?_ | refine SW.ite ?_ | refine RW.oB (eq_i _ _ _) ?_ | refine RW.oB (ne_i _ _ _) ?_ | refine RW.oB (lt_i _ _ _) ?_ | refine RW.oB (le_i _ _ _) ?_ | refine RW.oB (gt_i _ _ _) ?_ | refine RW.oB (ge_i _ _ _) ?_ | refine RW.prim rfl ?_ | refine SW.nil ?_ | refine SW.ret ?_ | refine SW.expr ?_ | refine EW.glo ?_ | refine EW.bi2 ?_ | refine EW.not ?_ | refine EW.isN ?_ | refine EW.notN ?_ | refine EW.tup ?_ | refine EW.lst ?_ | refine EW.lstM ?_ | refine EW.dic ?_ | refine EW.sl ?_ | refine EoW.nil ?_ | refine EoW.one ?_ | refine SW.setI ?_ | refine EW.lc ?_ | refine WkW.one ?_ | refine WkW.rng ?_ | refine WkW.rng2 ?_ | refine WkW.enu ?_ | refine WkW.zip ?_ | refine Exists.intro _ (Exists.intro _ (And.intro rfl (And.intro rfl ?_))) | refine EW.or ?_ | refine EW.and ?_ | refine EtW.nil ?_ | refine EtW.one ?_ | refine EW.neg ?_ | refine EW.isi ?_ | refine EW.ite ?_ | refine SW.for_ ?_ | refine SW.retN ?_ | refine SW.raise ?_ | refine SW.par (by simp) (by simp) ?_ | refine EW.fnv ?_ | refine EW.callV ?_ | ((refine And.intro ?_ ?_); (focus ((with_reducible (show List.contains _ _ = true)); rfl))) | refine EW.chain ?_ | refine EW.chn ?_ | refine SW.pass ?_ | refine SW.brk ?_ | refine SW.cont ?_ | refine And.intro (by simp [maxLen] : _ ≤ maxLen) ?_))
/-- so many in common by all lots -/
def upL (m : Int) (rs : List Rw) (s : List Int) : Int := ((solsL m rs).map fun x => comL m x s).sum
structure MeanOk (up whole a b : Int) : Prop where
  eq : a * whole = up * b
  pos : 1 ≤ b
  le : b ≤ whole
  cop : ∀ k : Int, 2 ≤ k → k ∣ a → k ∣ b → False
theorem needS_c {j : Nat} (hj : 3 ≤ j) (st : Store) {m : Int} {s : List Int} (rest : Mn.D) (hs : SetOk m s) : callN (tab L) j i_need_sets [.tup [.int m, rest], sD s] st = .ok .non st := by
  obtain ⟨i, rfl⟩ := Nat.exists_eq_add_of_le hj
  rw [Nat.add_comm]
  exact needS_ok i st rest hs
theorem mean_end {up whole g : Nat} (hw : 0 < whole) (hg : g = Nat.gcd whole up) : MeanOk (up : Int) (whole : Int) ((up : Int) / (g : Int)) ((whole : Int) / (g : Int)) := by
  have hgp : 0 < g := by rw [hg]; exact Nat.gcd_pos_of_pos_left _ hw
  have h1 : g ∣ up := by rw [hg]; exact Nat.gcd_dvd_right _ _
  have h2 : g ∣ whole := by rw [hg]; exact Nat.gcd_dvd_left _ _
  have e1 : ((up : Int) / (g : Int)) = ((up / g : Nat) : Int) := by simp
  have e2 : ((whole : Int) / (g : Int)) = ((whole / g : Nat) : Int) := by simp
  rw [e1, e2]
  obtain ⟨u, hu⟩ := h1
  obtain ⟨w, hv⟩ := h2
  have eu : up / g = u := by rw [hu]; exact Nat.mul_div_cancel_left u hgp
  have ew : whole / g = w := by rw [hv]; exact Nat.mul_div_cancel_left w hgp
  rw [eu, ew]
  refine ⟨?_, ?_, ?_, fun k hk d1 d2 => ?_⟩
  · have : u * whole = up * w := by
      rw [hu, hv]
      rw [Nat.mul_comm g w, ← Nat.mul_assoc, Nat.mul_comm g u, Nat.mul_assoc u g w, Nat.mul_comm g w, ← Nat.mul_assoc]
    exact_mod_cast this
  · have : 0 < w := by
      rcases Nat.eq_zero_or_pos w with z | z
      · rw [z, Nat.mul_zero] at hv; omega
      · exact z
    omega
  · have : w ≤ whole := by rw [hv]; exact Nat.le_mul_of_pos_left w hgp
    omega
  · obtain ⟨k', rfl⟩ : ∃ k' : Nat, k = (k' : Int) := ⟨k.toNat, by omega⟩
    have d1 : k' ∣ u := by exact_mod_cast d1
    have d2 : k' ∣ w := by exact_mod_cast d2
    have : g * k' ∣ Nat.gcd whole up := Nat.dvd_gcd (by rw [hv]; exact Nat.mul_dvd_mul_left g d2) (by rw [hu]; exact Nat.mul_dvd_mul_left g d1)
    rw [← hg] at this
    have := Nat.le_of_dvd hgp this
    have h2 : g * 2 ≤ g * k' := Nat.mul_le_mul_left g (by omega)
    omega
theorem up_pos {m : Int} {rs : List Rw} {s : List Int} : 0 ≤ upL m rs s := by
  unfold upL
  have : ∀ l : List (List Int), (∀ x ∈ l, ∀ v ∈ x, (0 : Int) ≤ v) → 0 ≤ (l.map fun x => comL m x s).sum := by
    intro l
    induction l with
    | nil => intro _; simp
    | cons x l ih =>
      intro h
      have h1 := ih fun y hy => h y (by simp [hy])
      have h2 : 0 ≤ comL m x s := comZ_pos _ _ (h x (by simp))
      simp; omega
  exact this _ fun x hx => (mem_sols.mp hx).nn
/-! ### where how_many refuses -/
end Pg

set_option Elab.async false
set_option linter.all false
set_option maxRecDepth 100000
set_option maxHeartbeats 8000000
/-! Bc: bounds; sols as solutions. -/
namespace Pg
open Mn
theorem bounds_c {j : Nat} (hj : 14 ≤ j) {m : Int} {rs : List Rw} (t : Tel m rs) (hl : rs.length ≤ 100) {s : List Int} (hs : SetOk m s) (hsat : Sat m rs) (st : Store) : ∃ lo hi st', callN (tab L) j i_bounds [telD m rs, sD s] st = .ok (.tup [.int lo, intO hi]) st' ∧ Ex st st' ∧ BdsSem m rs s lo hi := by
  obtain ⟨lo, hi, b, sem⟩ := bds_any t hl hs hsat
  obtain ⟨i, rfl⟩ := Nat.exists_eq_add_of_le hj
  obtain ⟨r, e⟩ := bounds_ok i st t (cost9 t.hm t.hn) ((llL_sat _ _).mpr hsat) hs b
  rw [Nat.add_comm] at e
  exact ⟨lo, hi, _, e, ⟨r, rfl⟩, sem⟩
theorem fit_sol {m : Int} {rs : List Rw} {x : List Int} (h : FitL m rs x) : Sol m rs (fx x) := ⟨fx_pos h.nn, fun r hr => by
  rw [cnt_totL h.len]
  exact h.fl r hr⟩
theorem cnt_com {m : Int} {x s : List Int} (h : x.length = (regs m).length) : cnt m s (fx x) = comL m x s := by rw [cnt_totL h, com_totL h]
theorem SmOut.few {m : Int} {rs : List Rw} {x : List Int} {sp : Int} (h : SmOut m rs x sp) : rs.length ≤ 8 := by
  have h1 := h.sub.length_le
  have h2 := regs_len h.hm
  rw [List.length_map] at h1
  omega
theorem eqS_nil (l : List (List Int)) (st : Store) : pCmp .eq (.lst (l.map sD)) (.lst []) st = some (decide (l = [])) ∧ pCmp .ne (.lst (l.map sD)) (.lst []) st = some (!decide (l = [])) := by
  have h := cmp_lst (a := l.map sD) (b := []) ⟨(sols_P l).1, by have := (sols_P l).2; omega⟩ ⟨rfl, by simp [deps]⟩ st
  rw [h.1, h.2]
  cases l <;> exact ⟨rfl, rfl⟩
theorem in_rows {rs : List Rw} {st : Store} {n : Nat} (h : st[n]? = some (.dct (rs.map kvR))) (s : List Int) : pCmp .isin (sD s) (.ob n) st = some (rs.find? fun r => decide (r.1 = s)).isSome := by
  show pIn (sD s) (.ob n) st = _
  have hk := keyOk_sD s
  unfold sD at hk ⊢
  simp only [pIn, h, hk, if_true]
  have := look_rows s rs
  unfold sD at this
  rw [this]
  cases rs.find? fun r => decide (r.1 = s) <;> rfl
end Pg

set_option Elab.async false
set_option linter.all false
set_option maxRecDepth 100000
set_option maxHeartbeats 8000000
/-! Fi: filled_from, region_bounds. -/
namespace Pg
open Mn
local macro_rules | `(tactic| walk_at "go") => `(tactic| repeat (first | refine EsW.cons ?_ | refine EW.var rfl ?_ | refine EsW.nil ?_ | refine EW.con ?_ | refine EW.call ?_ | refine EW.bin ?_ | refine EW.idx ?_ | refine EW.cmp ?_ | refine EW.bi ?_ | refine Exists.intro _ (And.intro rfl ?_) | refine SW.cons ?_ | refine SW.asgT ?_ | refine SW.ite ?_ | refine RW.oB (eq_i _ _ _) ?_ | refine RW.oB (ne_i _ _ _) ?_ | refine RW.oB (lt_i _ _ _) ?_ | refine RW.oB (le_i _ _ _) ?_ | refine RW.oB (gt_i _ _ _) ?_ | refine RW.oB (ge_i _ _ _) ?_ | refine RW.prim rfl ?_ | refine SW.nil ?_ | refine SW.ret ?_ | refine SW.expr ?_ | refine EW.glo ?_ | refine EW.bi2 ?_ | refine EW.not ?_ | refine EW.isN ?_ | refine EW.notN ?_ | refine EW.tup ?_ | refine EW.lst ?_ | refine EW.lstM ?_ | refine EW.dic ?_ | refine EW.sl ?_ | refine EoW.nil ?_ | refine EoW.one ?_ | refine SW.setI ?_ | refine EW.lc ?_ | refine WkW.one ?_ | refine WkW.rng ?_ | refine WkW.rng2 ?_ | refine WkW.enu ?_ | refine WkW.zip ?_ | refine Exists.intro _ (Exists.intro _ (And.intro rfl (And.intro rfl ?_))) | refine EW.or ?_ | refine EW.and ?_ | refine EtW.nil ?_ | refine EtW.one ?_ | refine EW.neg ?_ | refine EW.isi ?_ | refine EW.ite ?_ | refine SW.for_ ?_ | refine SW.retN ?_ | refine SW.raise ?_ | refine SW.par (by simp) (by simp) ?_ | refine EW.fnv ?_ | refine EW.callV ?_ | ((refine And.intro ?_ ?_); (focus ((with_reducible (show List.contains _ _ = true)); rfl))) | refine EW.chain ?_ | refine EW.chn ?_ | refine SW.pass ?_ | refine SW.brk ?_ | refine SW.cont ?_ | refine And.intro (by simp [maxLen] : _ ≤ maxLen) ?_))
def valP (here : Int) : Int → List Int → Int
  | _, [] => 0
  | p, v :: y => v * (if p = here then 1 else 0) + valP here (p + 1) y
theorem valP_at (here : Int) : ∀ (x : List Int) (p : Int) (k : Nat) (v : Int), x[k]? = some v → here = p + k → valP here p x = v
  | [], _, _, _, h, _ => by simp at h
  | a :: x, p, 0, v, h, e => by
    have ha : a = v := by simpa using h
    subst ha
    have : ∀ (y : List Int) (q : Int), here < q → valP here q y = 0 := by
      intro y
      induction y with
      | nil => intro _ _; rfl
      | cons b y ih => intro q hq; unfold valP; rw [ih _ (by omega), if_neg (by omega)]; omega
    unfold valP
    rw [this _ _ (by omega), if_pos (by omega)]
    omega
  | a :: x, p, k + 1, v, h, e => by
    unfold valP
    rw [valP_at here x (p + 1) k v (by simpa using h) (by omega), if_neg (by omega)]
    omega
/-- the least and the most of numbers -/
def MM (vs : List Int) (d : Mn.D) : Prop := (vs = [] ∧ d = .non) ∨ ∃ lo hi, d = .tup [.int lo, .int hi] ∧ lo ∈ vs ∧ hi ∈ vs ∧ ∀ w ∈ vs, lo ≤ w ∧ w ≤ hi
theorem MM.uni {vs : List Int} {d d' : Mn.D} (h : MM vs d) (h' : MM vs d') : d = d' := by
  rcases h with ⟨e, rfl⟩ | ⟨lo, hi, rfl, a, b, c⟩
  · rcases h' with ⟨_, rfl⟩ | ⟨lo, hi, rfl, a, b, c⟩
    · rfl
    · rw [e] at a; cases a
  · rcases h' with ⟨e, rfl⟩ | ⟨lo', hi', rfl, a', b', c'⟩
    · rw [e] at a; cases a
    · have h1 := c lo' a'
      have h2 := c' lo a
      have h3 := c hi' b'
      have h4 := c' hi b
      rw [show lo = lo' by omega, show hi = hi' by omega]
theorem maxI_ge : ∀ (l : List Int) (a : Int), (maxI a l = a ∨ maxI a l ∈ l) ∧ a ≤ maxI a l ∧ ∀ w ∈ l, w ≤ maxI a l
  | [], a => ⟨.inl rfl, Int.le_refl _, fun _ h => by cases h⟩
  | b :: l, a => by
    have ih := maxI_ge l (if b > a then b else a)
    unfold maxI
    refine ⟨?_, ?_, fun w hw => ?_⟩
    · rcases ih.1 with h | h
      · rw [h]; split
        · exact .inr (by simp)
        · exact .inl rfl
      · exact .inr (by simp [h])
    · have := ih.2.1
      split at this <;> omega
    · rcases List.mem_cons.mp hw with rfl | hw
      · have := ih.2.1
        split at this <;> omega
      · exact ih.2.2 w hw
theorem minI_lo : ∀ (l : List Int) (a : Int), (minI a l = a ∨ minI a l ∈ l) ∧ minI a l ≤ a ∧ ∀ w ∈ l, minI a l ≤ w
  | [], a => ⟨.inl rfl, Int.le_refl _, fun _ h => by cases h⟩
  | b :: l, a => by
    have ih := minI_lo l (if b < a then b else a)
    unfold minI
    refine ⟨?_, ?_, fun w hw => ?_⟩
    · rcases ih.1 with h | h
      · rw [h]; split
        · exact .inr (by simp)
        · exact .inl rfl
      · exact .inr (by simp [h])
    · have := ih.2.1
      split at this <;> omega
    · rcases List.mem_cons.mp hw with rfl | hw
      · have := ih.2.1
        split at this <;> omega
      · exact ih.2.2 w hw
theorem min_i (a : Int) (l : List Int) (st : Store) : pBi .min [.lst (iD (a :: l))] st = .ok (.int (minI a l)) st := by
  have hd := dInts_iD (a :: l)
  show bMin [.lst (iD (a :: l))] st = _
  simp [bMin, asL, hd]
theorem max_i (a : Int) (l : List Int) (st : Store) : pBi .max [.lst (iD (a :: l))] st = .ok (.int (maxI a l)) st := by
  have hd := dInts_iD (a :: l)
  show bMax [.lst (iD (a :: l))] st = _
  simp [bMax, asL, hd]
/-- what was found, piece by piece -/
structure Fnd (fs : List (Int × Int)) (vs : List Int) : Prop where
  mem : ∀ q ∈ fs, q.1 ∈ vs ∧ q.2 ∈ vs
  cov : ∀ w ∈ vs, ∃ q ∈ fs, q.1 ≤ w ∧ w ≤ q.2
theorem Fnd.nil : Fnd [] [] := ⟨fun _ h => (by cases h), fun _ h => (by cases h)⟩
theorem Fnd.skip {fs : List (Int × Int)} {vs : List Int} (h : Fnd fs vs) : Fnd fs (vs ++ []) := by simpa using h
theorem Fnd.snoc {fs : List (Int × Int)} {vs ws : List Int} (h : Fnd fs vs) {lo hi : Int} (h1 : lo ∈ ws) (h2 : hi ∈ ws) (h3 : ∀ w ∈ ws, lo ≤ w ∧ w ≤ hi) : Fnd (fs ++ [(lo, hi)]) (vs ++ ws) := by
  refine ⟨fun q hq => ?_, fun w hw => ?_⟩
  · rcases List.mem_append.mp hq with g | g
    · have := h.mem q g
      exact ⟨List.mem_append_left _ this.1, List.mem_append_left _ this.2⟩
    · rw [List.mem_singleton] at g
      subst g
      exact ⟨List.mem_append_right _ h1, List.mem_append_right _ h2⟩
  · rcases List.mem_append.mp hw with g | g
    · obtain ⟨q, hq, g⟩ := h.cov w g
      exact ⟨q, List.mem_append_left _ hq, g⟩
    · exact ⟨(lo, hi), by simp, h3 w g⟩
theorem Fnd.mm {a : Int × Int} {fs : List (Int × Int)} {vs : List Int} (h : Fnd (a :: fs) vs) : MM vs (.tup [.int (minI a.1 (fs.map (·.1))), .int (maxI a.2 (fs.map (·.2)))]) := by
  refine .inr ⟨_, _, rfl, ?_, ?_, fun w hw => ?_⟩
  · rcases (minI_lo (fs.map (·.1)) a.1).1 with e | e
    · rw [e]; exact (h.mem a (by simp)).1
    · obtain ⟨q, hq, e⟩ := List.mem_map.mp e
      rw [← e]; exact (h.mem q (by simp [hq])).1
  · rcases (maxI_ge (fs.map (·.2)) a.2).1 with e | e
    · rw [e]; exact (h.mem a (by simp)).2
    · obtain ⟨q, hq, e⟩ := List.mem_map.mp e
      rw [← e]; exact (h.mem q (by simp [hq])).2
  · obtain ⟨q, hq, g1, g2⟩ := h.cov w hw
    have h1 := minI_lo (fs.map (·.1)) a.1
    have h2 := maxI_ge (fs.map (·.2)) a.2
    rcases List.mem_cons.mp hq with rfl | hq
    · exact ⟨Int.le_trans h1.2.1 g1, Int.le_trans g2 h2.2.1⟩
    · exact ⟨Int.le_trans (h1.2.2 _ (List.mem_map.mpr ⟨q, hq, rfl⟩)) g1, Int.le_trans g2 (h2.2.2 _ (List.mem_map.mpr ⟨q, hq, rfl⟩))⟩
/-! ### any memo of keys (place, left) -/
def MemI (R : Int → List Int → Mn.D → Prop) (kvs : List (Mn.D × Mn.D)) : Prop := ∀ q ∈ kvs, ∃ (p : Int) (left : List Int), q.1 = keyD p left ∧ R p left q.2
theorem look_mem {R : Int → List Int → Mn.D → Prop} {p : Int} {left : List Int} : ∀ {kvs : List (Mn.D × Mn.D)} {d : Mn.D}, MemI R kvs → kLook (keyD p left) kvs = some d → R p left d
  | [], _, _, h => by cases h
  | (k', v) :: kvs, d, hd, h => by
    unfold kLook at h
    split at h
    · rename_i he
      obtain ⟨p', l', e1, e3⟩ := hd _ List.mem_cons_self
      have e1 : k' = keyD p' l' := e1
      rw [e1] at he
      obtain ⟨z1, z2⟩ := key_eq he
      subst z1; subst z2
      cases h
      exact e3
    · exact look_mem (fun q hq => hd q (List.mem_cons_of_mem _ hq)) h
theorem put_mem {R : Int → List Int → Mn.D → Prop} {p : Int} {left : List Int} {d : Mn.D} (hR : R p left d) : ∀ {kvs : List (Mn.D × Mn.D)}, MemI R kvs → MemI R (kPut (keyD p left) d kvs)
  | [], hd => fun q hq => by
    have : q = (keyD p left, d) := by simpa [kPut] using hq
    rw [this]
    exact ⟨p, left, rfl, hR⟩
  | (k', v') :: r, hd => by
    unfold kPut
    split
    · rename_i he
      intro q hq
      rcases List.mem_cons.mp hq with rfl | hq
      · obtain ⟨p', l', e1, e3⟩ := hd (k', v') List.mem_cons_self
        have e1 : k' = keyD p' l' := e1
        rw [e1] at he
        obtain ⟨z1, z2⟩ := key_eq he
        subst z1; subst z2
        exact ⟨_, _, e1, hR⟩
      · exact hd q (List.mem_cons_of_mem _ hq)
    · intro q hq
      rcases List.mem_cons.mp hq with rfl | hq
      · exact hd _ List.mem_cons_self
      · exact put_mem hR (fun q hq => hd q (List.mem_cons_of_mem _ hq)) q hq
/-! ### the walk -/
theorem some_lc {C : Calls} (rs : List Rw) (left : List Int) (p : Int) (y0 y3 y4 y5 y6 y7 y8 y9 y10 y11 y12 : Option Mn.D) (st : Store) (hl : left.length = rs.length) : lcLoop [] (lcBody C [13, 14] (.tup (.cons (.name 13) (.cons (.name 14) .nil))) (.cons (.cmp .isin (.var 2) (.idx (.var 14) (.con (.int 0)))) .nil) (.idx (.var 1) (.var 13)) [y0, some (.lst (iD left)), some (.int p), y3, y4, y5, y6, y7, y8, y9, y10, y11, y12, none, none, none, none, none]) (enuD 0 (rs.map rD)) [] st = .ok (iD (mostL (csOf rs) left p)) st := by
  have hlc : ∀ acc, lcLoop [] (lcBody C [13, 14] (.tup (.cons (.name 13) (.cons (.name 14) .nil))) (.cons (.cmp .isin (.var 2) (.idx (.var 14) (.con (.int 0)))) .nil) (.idx (.var 1) (.var 13)) [y0, some (.lst (iD left)), some (.int p), y3, y4, y5, y6, y7, y8, y9, y10, y11, y12, none, none, none, none, none]) (enuD 0 (rs.map rD)) acc st
      = .ok (acc.reverse ++ iD (mostL (rs.map (·.1)) left p)) st := by
    intro acc
    rw [← filterMap_most]
    refine lc_ix (still_nil st) _ _ acc ?_ fun i x y h1 h2 => ?_
    · rw [enuD_len, List.length_map]
      simp [hl]
    · have hi : i < rs.length := by
        rcases Nat.lt_or_ge i rs.length with z | z
        · exact z
        · rw [enuD_get, List.getElem?_map, List.getElem?_eq_none z] at h1; cases h1
      have hz : ((rs.map (·.1)).zip left)[i]? = some (rs[i].1, left[i]) := by
        rw [List.getElem?_eq_getElem (by simp; omega)]
        simp
      rw [enuD_get, List.getElem?_map, List.getElem?_eq_getElem hi] at h1
      rw [List.getElem?_map, hz] at h2
      simp only [Option.map, Option.some.injEq, Nat.zero_add] at h1 h2
      subst h1; subst h2
      have e0 : atD [Mn.D.lst (iD rs[i].1), .int rs[i].2] 0 = some (.lst (iD rs[i].1)) := rfl
      have e1 : atD (iD left) (i : Int) = some (.int left[i]) := by
        have h0 : (0 : Int) ≤ i := by omega
        have h1 : (i : Int) < ((iD left).length : Int) := by rw [iD_len]; omega
        simp only [atD, ixOf, h0, h1, if_true, Option.bind, Int.toNat_natCast, iD_get]
        rw [List.getElem?_eq_getElem (by omega)]
        rfl
      by_cases hp : p ∈ rs[i].1
      · simp [lcBody, asgT, asgTs, wipeE, pCmp, in_cols, pIdx, rD, optR, hp, e0, e1]
      · simp [lcBody, asgT, asgTs, wipeE, pCmp, in_cols, pIdx, rD, optR, hp, e0, e1]
  exact hlc []
theorem later_lc {C : Calls} (rs : List Rw) (left : List Int) (p v : Int) (y0 y1 y3 y4 y5 y6 y7 y8 y10 y11 y12 : Option Mn.D) (st : Store) (hl : left.length = rs.length) (hv : 0 ≤ v ∧ v < 1000) : lcLoop [] (lcBody C [14, 15] (.tup (.cons (.name 15) (.cons (.name 14) .nil))) .nil (.bin .sub (.var 15) (.bin (.mul false) (.var 9) (.bi .int (.cons (.cmp .isin (.var 2) (.idx (.var 14) (.con (.int 0)))) .nil)))) [y0, y1, some (.int p), y3, y4, y5, y6, y7, y8, some (.int v), y10, y11, y12, none, none, none, none, none]) (zipD (iD left) (rs.map rD)) [] st = .ok (iD (goL (csOf rs) left p v)) st := by
  have hlc : ∀ acc, lcLoop [] (lcBody C [14, 15] (.tup (.cons (.name 15) (.cons (.name 14) .nil))) .nil (.bin .sub (.var 15) (.bin (.mul false) (.var 9) (.bi .int (.cons (.cmp .isin (.var 2) (.idx (.var 14) (.con (.int 0)))) .nil)))) [y0, y1, some (.int p), y3, y4, y5, y6, y7, y8, some (.int v), y10, y11, y12, none, none, none, none, none]) (zipD (iD left) (rs.map rD)) acc st
      = .ok (acc.reverse ++ iD (goL (rs.map (·.1)) left p v)) st := by
    intro acc
    rw [← iD_some (goL (rs.map (·.1)) left p v)]
    refine lc_ix (still_nil st) _ _ acc ?_ fun i x y h1 h2 => ?_
    · rw [zipD_eq]
      simp [iD_len, goL, hl]
    · obtain ⟨g1, g2, rfl⟩ := zip_items left rs i x h1 hl
      have hy : y = some (.int (left[i] - v * (if p ∈ rs[i].1 then 1 else 0))) := by
        rw [List.getElem?_map] at h2
        unfold goL at h2
        rw [List.getElem?_map, List.getElem?_eq_getElem (by simp; omega)] at h2
        simp only [Option.map, Option.some.injEq] at h2
        rw [← h2]
        simp
      subst hy
      have e0 : atD [Mn.D.lst (iD rs[i].1), .int rs[i].2] 0 = some (.lst (iD rs[i].1)) := rfl
      have hv1 : -18446744073709551616 < v ∧ v < 18446744073709551616 := by omega
      by_cases hp : p ∈ rs[i].1
      · simp [lcBody, asgT, asgTs, wipeE, pCmp, in_cols, pIdx, rD, optR, hp, e0, pBi, bInt, pBin, hv1]
      · simp [lcBody, asgT, asgTs, wipeE, pCmp, in_cols, pIdx, rD, optR, hp, e0, pBi, bInt, pBin, hv1]
  exact hlc []
theorem most_len {cs : List (List Int)} {left : List Int} {p : Int} (h : left.length ≤ 1000) : (mostL cs left p).length ≤ 1000 := by
  have : (mostL cs left p).length ≤ (cs.zip left).length := by
    unfold mostL
    rw [List.length_map]
    exact List.length_filter_le _ _
  rw [List.length_zip] at this
  omega
theorem add_L {a b : List Int} (h : a.length + b.length ≤ 10000) (st : Store) : pBin .add (.lst (iD a)) (.lst (iD b)) st = .ok (.lst (iD (a ++ b))) st := by
  show newL false (iD a ++ iD b) st = _
  have : iD a ++ iD b = iD (a ++ b) := by unfold iD; rw [List.map_append]
  rw [this]
  exact ndL _ _ (by rw [iD_len, List.length_append]; unfold maxLen; omega)
def pD (q : Int × Int) : Mn.D := .tup [.int q.1, .int q.2]
def FilR (cs : List (List Int)) (here many : Int) (p : Int) (left : List Int) (d : Mn.D) : Prop := ∀ n : Nat, p + n = many → MM ((waysL cs n p left).map (valP here p)) d
structure FlK (rs : List Rw) (here many : Int) (j n : Nat) (p : Int) (left : List Int) (kvs : List (Mn.D × Mn.D)) (st : Store) (d : Mn.D) (s : Store) : Prop where
  mm : MM ((waysL (csOf rs) n p left).map (valP here p)) d
  le : st.length ≤ s.length
  fr : ∀ i, i < st.length → i ≠ j → s[i]? = st[i]?
  mem : ∃ kvs', s[j]? = some (.dct kvs') ∧ MemI (FilR (csOf rs) here many) kvs' ∧ kvs'.length ≤ kvs.length + costW (csOf rs) n p left
theorem max0 {left : List Int} (h : ∀ l ∈ left, 0 ≤ l) : (maxI 0 left = 0) ↔ left.all (fun l => decide (l = 0)) = true := by
  have h1 := maxI_ge left 0
  rw [List.all_eq_true]
  constructor
  · intro e l hl
    have := h1.2.2 l hl
    have := h l hl
    rw [decide_eq_true_eq]
    omega
  · intro g
    rcases h1.1 with e | e
    · exact e
    · have := g _ e
      rwa [decide_eq_true_eq] at this
theorem min_top {cs : List (List Int)} {left : List Int} {p : Int} (h : ∀ l ∈ left, 0 ≤ l ∧ l < 99) (st : Store) : pBi .min [.lst (iD (mostL cs left p ++ [99 * if (!decide (mostL cs left p = [])) = true then 1 else 0]))] st = .ok (.int (topI cs left p)) st := by
  have ht := topI_le (cs := cs) (p := p) h (by omega)
  unfold topI at *
  cases hm : mostL cs left p with
  | nil => exact min_i _ _ st
  | cons a l =>
    rw [hm] at ht
    have : (99 * if (!decide (a :: l = [])) = true then (1 : Int) else 0) = 99 := by simp
    rw [this, List.cons_append, min_i]
    have h1 := minI_lo l a
    have h2 := minI_lo (l ++ [99]) a
    have ht : 0 ≤ minI a l ∧ minI a l < 99 := ht
    have e : minI a (l ++ [99]) = minI a l := by
      have g1 : minI a l ≤ minI a (l ++ [99]) := by
        rcases h2.1 with e | e
        · rw [e]; exact h1.2.1
        · rcases List.mem_append.mp e with e | e
          · exact h1.2.2 _ e
          · rw [List.mem_singleton] at e; omega
      have g2 : minI a (l ++ [99]) ≤ minI a l := by
        rcases h1.1 with e | e
        · rw [e]; exact h2.2.1
        · exact h2.2.2 _ (List.mem_append_left _ e)
      omega
    rw [e]
theorem pair_P (fs : List (Int × Int)) : isPs (fs.map pD) = true ∧ deps (fs.map pD) ≤ 1 := isPs_map fun q _ => ⟨rfl, by simp [pD, D.dep, deps]⟩
theorem ne_fs {s : Store} {f : Nat} {fs : List (Int × Int)} (h : s[f]? = some (.lst (fs.map pD))) : pCmp .ne (.ob f) (.lst []) s = some (!decide (fs = [])) := by
  have hv : vw s (.ob f) = .lst (fs.map pD) := by simp [vw, obL, h]
  have hP : (Mn.D.lst (fs.map pD)).okp = true := lst_ok (pair_P fs).1 (by have := (pair_P fs).2; omega)
  show (if (vw s (.ob f)).okp && (vw s (.lst [])).okp then some (!(vw s (.ob f)).eqv (vw s (.lst []))) else none) = _
  rw [hv, show vw s (.lst []) = .lst [] from rfl, hP]
  cases fs <;> rfl
theorem mul_s {i j : Int} (h : 0 ≤ i ∧ i < 1000) (st : Store) : pBin (.mul false) (.int i) (.int j) st = .ok (.int (i * j)) st := by
  show (if (-(2 ^ 64) < i ∧ i < 2 ^ 64) ∨ (-(2 ^ 64) < j ∧ j < 2 ^ 64) then Res.ok (Mn.D.int (i * j)) st else .err) = _
  rw [if_pos (.inl (by omega))]
theorem low_lc {C : Calls} (fs : List (Int × Int)) {env : En} (b : Bool) (he : env.length = 18) {s : Store} {f : Nat} (h : s[f]? = some (.lst (fs.map pD))) : lcLoop [(f, fs.map pD)] (lcBody C [16, 17] (.tup (.cons (.name 16) (.cons (.name 17) .nil))) .nil (.var (if b then 16 else 17)) env) (fs.map pD) [] s = .ok (iD (fs.map fun q => if b then q.1 else q.2)) s := by
  have : RW (lcLoop [(f, fs.map pD)] (lcBody C [16, 17] (.tup (.cons (.name 16) (.cons (.name 17) .nil))) .nil (.var (if b then 16 else 17)) env) (fs.map pD) [] s) (fun a t => a = iD (fs.map fun q => if b then q.1 else q.2) ∧ t = s) NoX := by
    refine lc_pure (still_oneX h) pD (fun q => some (.int (if b then q.1 else q.2))) fs (fun q _ => ?_) ⟨?_, rfl⟩
    · cases b <;> simp [lcBody, asgT, asgTs, wipeE, pD, he]
    · rw [fm_map]; unfold iD; rw [List.map_map]; rfl
  obtain ⟨a, t, e, rfl, rfl⟩ := this.ex
  exact e
theorem fil_w {rs : List Rw} {here many : Int} (ok : RowsOk rs many) (j : Nat) : ∀ (n k : Nat) (p : Int) (left : List Int) (kvs : List (Mn.D × Mn.D)) (st : Store), n + 1 ≤ k → n < 1000 → p + n = many → 0 ≤ p → left.length = rs.length → (∀ l ∈ left, 0 ≤ l ∧ l < 99) → st[j]? = some (.dct kvs) → MemI (FilR (csOf rs) here many) kvs → kvs.length + costW (csOf rs) n p left ≤ maxLen →
    RW (callN (tab L) k i_filled_from [.lst (rs.map rD), .lst (iD left), .int p, .int here, .int many, .ob j] st) (FlK rs here many j n p left kvs st) NoX := by
  intro n
  induction n with
  | zero =>
    intro k p left kvs st hk hn hpn hp0 hl hpos hj hw hcost
    obtain ⟨k, rfl⟩ : ∃ i, k = i + 1 := ⟨k - 1, by omega⟩
    rw [c_filled_from]
    refine run_w rfl ?_
    show SW _ b_filled_from [some (.lst (rs.map rD)), some (.lst (iD left)), some (.int p), some (.int here), some (.int many), some (.ob j), none, none, none, none, none, none, none, none, none, none, none, none] st _
    have hf := ok.few
    walk_at "go"
    refine ⟨fun _ => ?_, fun h => absurd (show p = many by omega) (of_decide_eq_false h)⟩
    walk_at "go"
    refine RW.prim (add_L (a := [0]) (b := left) (by simp; omega) st) ?_
    walk_at "go"
    refine RW.prim (max_i 0 left st) ?_
    walk_at "go"
    have hm := max0 fun l h => (hpos l h).1
    refine ⟨fun h => ?_, fun h => ?_⟩
    · have h := hm.mp (of_decide_eq_true h)
      walk_at "go"
      refine ⟨.inr ⟨0, 0, rfl, ?_⟩, Nat.le_refl _, fun _ _ _ => rfl, kvs, hj, hw, Nat.le_add_right _ _⟩
      unfold waysL
      rw [if_pos h]
      simp [valP]
    · have h : ¬ left.all (fun l => decide (l = 0)) = true := fun g => of_decide_eq_false h (hm.mpr g)
      walk_at "go"
      refine ⟨.inl ⟨?_, rfl⟩, Nat.le_refl _, fun _ _ _ => rfl, kvs, hj, hw, Nat.le_add_right _ _⟩
      unfold waysL
      rw [if_neg h]
      rfl
  | succ n ih =>
    intro k p left kvs st hk hn hpn hp0 hl hpos hj hw hcost
    obtain ⟨k, rfl⟩ : ∃ i, k = i + 1 := ⟨k - 1, by omega⟩
    rw [c_filled_from]
    refine run_w rfl ?_
    show SW _ b_filled_from [some (.lst (rs.map rD)), some (.lst (iD left)), some (.int p), some (.int here), some (.int many), some (.ob j), none, none, none, none, none, none, none, none, none, none, none, none] st _
    have hf := ok.few
    walk_at "go"
    refine ⟨fun h => absurd (of_decide_eq_true h) (show ¬ p = many by omega), fun _ => ?_⟩
    walk_at "go"
    refine RW.prim (ndT _ _ (by rw [iD_len]; unfold maxLen; omega)) ?_
    walk_at "go"
    refine RW.oB (notin_dct p left hj) ?_
    walk_at "go"
    refine ⟨fun hno => ?_, fun hno => ?_⟩
    · walk_at "go"
      refine RW.of (some_lc rs left p _ _ _ _ _ _ _ _ _ _ _ st hl) ?_
      have hml := most_len (cs := csOf rs) (p := p) (show left.length ≤ 1000 by omega)
      refine RW.prim (ndL _ _ (by rw [iD_len]; unfold maxLen; omega)) ?_
      walk_at "go"
      refine RW.oB (ne_nilI _ _) ?_
      walk_at "go"
      refine RW.prim (add_L (a := mostL (csOf rs) left p) (b := [99 * if (!decide (mostL (csOf rs) left p = [])) = true then 1 else 0]) (by simp; omega) _) ?_
      walk_at "go"
      refine RW.prim (min_top hpos _) ?_
      walk_at "go"
      have ht := topI_le (cs := csOf rs) (p := p) hpos (by omega)
      refine ⟨by unfold small; simp; omega, ?_⟩
      have hjl := lt_len hj
      refine for_w (I := fun i e s => ∃ kvs' fs x9 x10 x11 x12, e = [some (.lst (rs.map rD)), some (.lst (iD left)), some (.int p), some (.int here), some (.int many), some (.ob j), some (keyD p left), some (.lst (iD (mostL (csOf rs) left p))), some (.ob st.length), x9, x10, x11, x12, none, none, none, none, none] ∧ st.length + 1 ≤ s.length ∧ (∀ i, i < st.length → i ≠ j → s[i]? = st[i]?) ∧ s[j]? = some (.dct kvs') ∧ s[st.length]? = some (.lst (fs.map pD)) ∧ MemI (FilR (csOf rs) here many) kvs' ∧ kvs'.length ≤ kvs.length + sumF (fun v => costW (csOf rs) n (p + 1) (goL (csOf rs) left p v)) i 0 ∧ Fnd fs (((rgI 0 i).flatMap fun v => (waysL (csOf rs) n (p + 1) (goL (csOf rs) left p v)).map (v :: ·)).map (valP here p)) ∧ fs.length ≤ i) (fun _ _ _ _ => rfl) _ 0 _ _ ⟨kvs, [], none, none, none, none, rfl, by simp, fun i h1 h2 => List.getElem?_append_left h1, by rw [List.getElem?_append_left hjl]; exact hj, get_new _ _, hw, by simp [sumF], Fnd.nil, Nat.le_refl _⟩ ?_ ?_
      · rintro i x e s hx ⟨kvs', fs, x9, x10, x11, x12, rfl, hsl, hfr, hsj, hsf, hw', hle, hF, hfl⟩
        rw [Nat.zero_add] at hle hF hfl ⊢
        rw [rangeD_get] at hx
        split at hx
        · rename_i hi
          cases hx
          rw [Int.zero_add]
          have hv : 0 ≤ (i : Int) ∧ (i : Int) ≤ topI (csOf rs) left p := by omega
          have hle2 : kvs'.length + costW (csOf rs) n (p + 1) (goL (csOf rs) left p (i : Int)) ≤ maxLen := by
            have h1 := sumF_snoc (fun v => costW (csOf rs) n (p + 1) (goL (csOf rs) left p v)) i 0
            rw [Int.zero_add] at h1
            have h2 : sumF (fun v => costW (csOf rs) n (p + 1) (goL (csOf rs) left p v)) (i + 1) 0 ≤ sumF (fun v => costW (csOf rs) n (p + 1) (goL (csOf rs) left p v)) (topI (csOf rs) left p + 1).toNat 0 := by
              rw [sumF_map, sumF_map]
              exact sum_take _ _ (by omega)
            simp only [costW] at hcost
            omega
          refine fb_of rfl ?_
          walk_at "go"
          refine RW.of (later_lc rs left p (i : Int) _ _ _ _ _ _ _ _ _ _ _ s hl (by omega)) ?_
          refine RW.prim (ndL _ _ (by rw [iD_len, goL_len p _ (by simpa using hl)]; simp; unfold maxLen; omega)) ?_
          walk_at "go"
          refine RW.mono (ih k (p + 1) (goL (csOf rs) left p (i : Int)) kvs' s (by omega) (by omega) (by omega) (by omega) (by rw [goL_len p _ (by simpa using hl)]; simp) (goL_pos hpos hv.1 hv.2) hsj hw' hle2) ?_ fun _ _ h => h.elim
          rintro d s2 ⟨hmm, hl2, hfr2, kvs2, hj2, hw2, hc2⟩
          have hsf2 : s2[st.length]? = some (.lst (fs.map pD)) := by rw [hfr2 _ (by omega) (by omega)]; exact hsf
          have hsum : kvs2.length ≤ kvs.length + sumF (fun v => costW (csOf rs) n (p + 1) (goL (csOf rs) left p v)) (i + 1) 0 := by
            rw [sumF_snoc, Int.zero_add]; omega
          have hsn : (((rgI 0 (i + 1)).flatMap fun v => (waysL (csOf rs) n (p + 1) (goL (csOf rs) left p v)).map (v :: ·)).map (valP here p)) = (((rgI 0 i).flatMap fun v => (waysL (csOf rs) n (p + 1) (goL (csOf rs) left p v)).map (v :: ·)).map (valP here p)) ++ ((waysL (csOf rs) n (p + 1) (goL (csOf rs) left p (i : Int))).map (valP here (p + 1))).map (fun w => (i : Int) * (if p = here then 1 else 0) + w) := by
            rw [rg_snoc, List.flatMap_append, List.map_append, Int.zero_add]
            simp [valP, Function.comp_def]
          walk_at "go"
          rcases hmm with ⟨e, rfl⟩ | ⟨lo, hi, rfl, h1, h2, h3⟩
          · refine ⟨fun h => (by cases h), fun _ => ?_⟩
            walk_at "go"
            refine ⟨kvs2, fs, _, _, _, _, rfl, by omega, fun i h1 h2 => by rw [hfr2 i (by omega) h2]; exact hfr i h1 h2, hj2, hsf2, hw2, hsum, ?_, by omega⟩
            rw [hsn, e]
            exact hF.skip
          · refine ⟨fun _ => ?_, fun h => (by cases h)⟩
            generalize hiv : (i : Int) = v at *
            walk_at "go"
            refine RW.prim (mul_s (by omega) _) ?_
            walk_at "go"
            refine EW.me ?_
            walk_at "go"
            refine ⟨asL_ob' hsf2, ?_⟩
            walk_at "go"
            refine RW.prim (app_o hsf2 (by rw [List.length_map]; unfold maxLen; omega)) ?_
            walk_at "go"
            refine ⟨kvs2, fs ++ [(lo + v * (if p = here then 1 else 0), hi + v * (if p = here then 1 else 0))], _, _, _, _, rfl, by rw [List.length_set]; omega, fun i h1 h2 => by rw [List.getElem?_set_ne (by omega), hfr2 i (by omega) h2]; exact hfr i h1 h2, by rw [List.getElem?_set_ne (by omega)]; exact hj2, ?_, hw2, hsum, ?_, by rw [List.length_append]; simp; omega⟩
            · rw [List.map_append, set_get hsf2]
              simp [pD]
            · rw [hsn]
              refine hF.snoc ?_ ?_ ?_
              · exact List.mem_map.mpr ⟨lo, h1, by omega⟩
              · exact List.mem_map.mpr ⟨hi, h2, by omega⟩
              · intro w hw
                obtain ⟨u, hu, rfl⟩ := List.mem_map.mp hw
                have := h3 u hu
                omega
        · cases hx
      · rintro e s ⟨kvs', fs, x9, x10, x11, x12, rfl, hsl, hfr, hsj, hsf, hw', hle, hF, hfl⟩
        rw [rangeD_len, Nat.zero_add] at hle hF hfl
        have hc2 : kvs'.length < maxLen := by simp only [costW] at hcost; omega
        walk_at "go"
        refine RW.oB (ne_fs hsf) ?_
        have hfsl : fs.length ≤ 1000 := by omega
        refine ⟨_, rfl, fun h => ?_, fun h => ?_⟩
        · cases hfs : fs with
          | nil => rw [hfs] at h; cases h
          | cons a fs' =>
            walk_at "go"
            refine ⟨_, show wkOf s (.ob st.length) = some ⟨fs.map pD, [(st.length, fs.map pD)]⟩ by simp [wkOf, obL, hsf], ?_⟩
            walk_at "go"
            refine RW.of (low_lc fs true rfl hsf) ?_
            refine RW.prim (ndL _ _ (by rw [iD_len, List.length_map]; unfold maxLen; omega)) ?_
            walk_at "go"
            refine RW.prim (show pBi .min [.lst (iD (fs.map fun q => if true then q.1 else q.2))] s = .ok (.int (minI a.1 (fs'.map (·.1)))) s by rw [hfs]; exact min_i _ _ s) ?_
            walk_at "go"
            refine ⟨_, show wkOf s (.ob st.length) = some ⟨fs.map pD, [(st.length, fs.map pD)]⟩ by simp [wkOf, obL, hsf], ?_⟩
            walk_at "go"
            refine RW.of (low_lc fs false rfl hsf) ?_
            refine RW.prim (ndL _ _ (by rw [iD_len, List.length_map]; unfold maxLen; omega)) ?_
            walk_at "go"
            refine RW.prim (show pBi .max [.lst (iD (fs.map fun q => if false then q.1 else q.2))] s = .ok (.int (maxI a.2 (fs'.map (·.2)))) s by rw [hfs]; exact max_i _ _ s) ?_
            walk_at "go"
            refine ⟨_, set_dct hsj (keyOk_key p left) hc2, ?_⟩
            walk_at "go"
            refine RW.prim (idx_dct (set_get hsj) (keyOk_key p left) (look_put _ _ (key_refl p left) _)) ?_
            rw [hfs] at hF
            have hmm := hF.mm
            refine ⟨hmm, by rw [List.length_set]; omega, fun i h1 h2 => by rw [List.getElem?_set_ne (by omega)]; exact hfr i h1 h2, _, set_get hsj, put_mem (fun n' hn' => ?_) hw', ?_⟩
            · have : n' = n + 1 := by omega
              subst this
              exact hmm
            · refine Nat.le_trans (put_len _ _ _) ?_
              simp only [costW]
              omega
        · have hfs : fs = [] := by
            cases fs with
            | nil => rfl
            | cons _ _ => cases h
          subst hfs
          walk_at "go"
          refine ⟨_, set_dct hsj (keyOk_key p left) hc2, ?_⟩
          walk_at "go"
          refine RW.prim (idx_dct (set_get hsj) (keyOk_key p left) (look_put _ _ (key_refl p left) _)) ?_
          have hmm : MM ((waysL (csOf rs) (n + 1) p left).map (valP here p)) .non := by
            refine .inl ⟨?_, rfl⟩
            rw [List.eq_nil_iff_forall_not_mem]
            intro w hw
            obtain ⟨q, hq, _⟩ := hF.cov w hw
            cases hq
          refine ⟨hmm, by rw [List.length_set]; omega, fun i h1 h2 => by rw [List.getElem?_set_ne (by omega)]; exact hfr i h1 h2, _, set_get hsj, put_mem (fun n' hn' => ?_) hw', ?_⟩
          · have : n' = n + 1 := by omega
            subst this
            exact hmm
          · refine Nat.le_trans (put_len _ _ _) ?_
            simp only [costW]
            omega
    · walk_at "go"
      cases hlk : kLook (keyD p left) kvs with
      | none => rw [hlk] at hno; cases hno
      | some d =>
        refine RW.prim (idx_dct hj (keyOk_key p left) hlk) ?_
        exact ⟨look_mem hw hlk _ hpn, Nat.le_refl _, fun _ _ _ => rfl, kvs, hj, hw, Nat.le_add_right _ _⟩
end Pg

set_option Elab.async false
set_option linter.all false
set_option maxRecDepth 100000
set_option maxHeartbeats 8000000
/-! Rn: the law's names, need_names, called, renamed. -/
namespace Pg
open Mn
def permsN : Int → List (List Int)
  | 1 => [[0]]
  | 2 => [[0, 1], [1, 0]]
  | 3 => [[0, 1, 2], [0, 2, 1], [1, 0, 2], [1, 2, 0], [2, 0, 1], [2, 1, 0]]
  | _ => []
theorem perm_in {m : Int} (h : 1 ≤ m ∧ m ≤ 3) {a : List Int} (p : a.Perm (rgI 0 m.toNat)) : a ∈ permsN m := by
  have hl := p.length_eq
  have hm : ∀ x ∈ a, x ∈ rgI 0 m.toNat := fun x hx => p.mem_iff.mp hx
  have hd : a.Nodup := p.nodup_iff.mpr (by
    have : m = 1 ∨ m = 2 ∨ m = 3 := by omega
    rcases this with rfl | rfl | rfl <;> decide)
  have : m = 1 ∨ m = 2 ∨ m = 3 := by omega
  rcases this with rfl | rfl | rfl
  · match a, hl with
    | [x], _ =>
      have := hm x (by simp)
      simp [rgI] at this
      subst this
      decide
  · match a, hl with
    | [x, y], _ =>
      have h1 := hm x (by simp)
      have h2 := hm y (by simp)
      simp [rgI] at h1 h2
      rcases h1 with rfl | rfl <;> rcases h2 with rfl | rfl <;> first | decide | (exact absurd hd (by decide))
  · match a, hl with
    | [x, y, z], _ =>
      have h1 := hm x (by simp)
      have h2 := hm y (by simp)
      have h3 := hm z (by simp)
      simp [rgI] at h1 h2 h3
      rcases h1 with rfl | rfl | rfl <;> rcases h2 with rfl | rfl | rfl <;> rcases h3 with rfl | rfl | rfl <;> first | decide | (exact absurd hd (by decide))
def nmC : E := .cmp .ne (.var 3) (.lst false .nil)
def nmB : S := .cons (.expr (.me .append (.var 4) (.cons (.me .popAt (.var 3) (.cons (.call i__law_draw (.cons (.var 0) (.cons (.var 1) (.cons (.bi .len (.cons (.var 3) .nil)) .nil)))) .nil)) .nil))) .nil
theorem ne_nilO (st : Store) (l : List Int) (j : Nat) (h : st[j]? = some (.lst (iD l))) : pCmp .ne (.ob j) (.lst []) st = some (!decide (l = [])) := by
  have h1 : isPs (iD l) = true := isPs_ints l
  have h2 : deps (iD l) = 0 := deps_ints l
  have hv : vw st (.ob j) = .lst (iD l) := by simp [vw, obL, h]
  cases l with
  | nil =>
    show (if (vw st (.ob j)).okp && (vw st (.lst [])).okp then some (!(vw st (.ob j)).eqv (vw st (.lst []))) else none) = _
    rw [hv]
    rfl
  | cons a l =>
    show (if (vw st (.ob j)).okp && (vw st (.lst [])).okp then some (!(vw st (.ob j)).eqv (vw st (.lst []))) else none) = _
    rw [hv]
    have h3 : eqvs (iD (a :: l)) [] = false := rfl
    generalize iD (a :: l) = X at *
    simp [vw, D.okp, D.isP, isPs, D.dep, deps, D.eqv, h1, h2, h3]
theorem iD_erase (l : List Int) (i : Nat) : (iD l).eraseIdx i = iD (l.eraseIdx i) := by
  induction l generalizing i with
  | nil => cases i <;> rfl
  | cons a l ih => cases i with
    | zero => rfl
    | succ i =>
      show (Mn.D.int a) :: ((iD l).eraseIdx i) = _
      rw [ih]
      rfl
theorem perm_erase : ∀ (l : List Int) (i : Nat) (x : Int), l[i]? = some x → (x :: l.eraseIdx i).Perm l
  | [], i, x, h => by simp at h
  | a :: l, 0, x, h => by simp at h; subst h; exact List.Perm.refl _
  | a :: l, i + 1, x, h => by
    have h : l[i]? = some x := by simpa using h
    have := perm_erase l i x h
    exact (List.Perm.swap a x _).trans (this.cons a)
theorem nm_loop {C : Calls} (D : DrawOk C) (ns : List Int) (m : Int) {j : Nat} (hj : 0 < j) : ∀ (n : Nat) (l a : List Int) (fuel : Nat) (st : Store) (t : Nat), l.length = n → n < fuel → Town st t → t + n < 500 → a.length + n ≤ 100 → st[j]? = some (.lst (iD l)) → st[j + 1]? = some (.lst (iD a)) →
    ∃ b st', whLoop (evB C nmC) (Mn.exec C nmB) fuel [some (.scr ns), some (.ob 0), some (.int m), some (.ob j), some (.ob (j + 1))] st = .next [some (.scr ns), some (.ob 0), some (.int m), some (.ob j), some (.ob (j + 1))] st' ∧ st'[j + 1]? = some (.lst (iD (a ++ b))) ∧ b.Perm l ∧ Town st' (t + n) ∧ st'.length = st.length ∧ ∀ i, 0 < i → i < j → st'[i]? = st[i]?
  | n, l, a, 0, st, t, _, hf, _, _, _, _, _ => by omega
  | 0, l, a, fuel + 1, st, t, hl, hf, T, ht, ha, h1, h2 => by
    have : l = [] := List.eq_nil_of_length_eq_zero hl
    subst this
    refine ⟨[], st, ?_, by simpa using h2, List.Perm.refl _, T, rfl, fun _ _ _ => rfl⟩
    have hc : evB C nmC [some (.scr ns), some (.ob 0), some (.int m), some (.ob j), some (.ob (j + 1))] st = .ok false st := by
      show boolR (oB (pCmp .ne (.ob j) (.lst []) st) st) = _
      rw [ne_nilO st [] j h1]
      rfl
    simp only [whLoop, hc]
  | n + 1, l, a, fuel + 1, st, t, hl, hf, T, ht, ha, h1, h2 => by
    have hc : evB C nmC [some (.scr ns), some (.ob 0), some (.int m), some (.ob j), some (.ob (j + 1))] st = .ok true st := by
      show boolR (oB (pCmp .ne (.ob j) (.lst []) st) st) = _
      rw [ne_nilO st l j h1, decide_eq_false (by intro e; subst e; simp at hl)]
      rfl
    obtain ⟨v, st1, hv, e1, w1, l1⟩ := D ns (many := (l.length : Int)) (by omega) T (by omega)
    have g1 : st1[j]? = some (.lst (iD l)) := w1.get hj h1
    have g2 : st1[j + 1]? = some (.lst (iD a)) := w1.get (by omega) h2
    obtain ⟨x, hx⟩ : ∃ x, l[v.toNat]? = some x := by
      have : v.toNat < l.length := by omega
      exact ⟨_, List.getElem?_eq_getElem this⟩
    have hxD : (iD l)[v.toNat]? = some (.int x) := by unfold iD; rw [List.getElem?_map, hx]; rfl
    have hjl : j < st1.length := (List.getElem?_eq_some_iff.mp g1).1
    have hjl2 : j + 1 < st1.length := (List.getElem?_eq_some_iff.mp g2).1
    have hb : Mn.exec C nmB [some (.scr ns), some (.ob 0), some (.int m), some (.ob j), some (.ob (j + 1))] st = .next [some (.scr ns), some (.ob 0), some (.int m), some (.ob j), some (.ob (j + 1))] ((st1.set j (.lst (iD (l.eraseIdx v.toNat)))).set (j + 1) (.lst (iD (a ++ [x])))) := by
      have hlen : bLen [.ob j] st = .ok (.int (l.length : Int)) st := by simp [bLen, asQ, asL, obL, h1, iD_len]
      have hd : ev C (.call i__law_draw (.cons (.var 0) (.cons (.var 1) (.cons (.bi .len (.cons (.var 3) .nil)) .nil)))) [some (.scr ns), some (.ob 0), some (.int m), some (.ob j), some (.ob (j + 1))] st = .ok (.int v) st1 := by
        simp [pBi, hlen, e1]
      have hp : mPopAt (.ob j) [.int v] st1 = .ok (.int x) (st1.set j (.lst (iD (l.eraseIdx v.toNat)))) := by
        have hlt : 0 ≤ v ∧ v < ((iD l).length : Int) := by rw [iD_len]; exact hv
        simp only [mPopAt, g1, hxD]
        rw [if_pos hlt, iD_erase]
      have hap : mAppend (.ob (j + 1)) [.int x] (st1.set j (.lst (iD (l.eraseIdx v.toNat)))) = .ok .non ((st1.set j (.lst (iD (l.eraseIdx v.toNat)))).set (j + 1) (.lst (iD (a ++ [x])))) := by
        have g3 : (st1.set j (.lst (iD (l.eraseIdx v.toNat))))[j + 1]? = some (.lst (iD a)) := by
          rw [List.getElem?_set_ne (by omega)]
          exact g2
        have hml : (iD a).length < maxLen := by rw [iD_len]; unfold maxLen; omega
        simp only [mAppend, g3]
        rw [if_pos hml]
        simp [iD]
      have a1 : (asL st (.ob j)).isSome = true := by simp [asL, obL, h1]
      have a2 : (asL st (.ob (j + 1))).isSome = true := by simp [asL, obL, h2]
      unfold nmB
      simp only [a1, a2, if_true, ex_cons, ex_expr, ev_me, ev_var, evs_cons, evs_nil, hd, List.getElem?_cons_succ, List.getElem?_cons_zero, bind_ok, pMe, hp, prim_ok, hap, ex_nil]
    have hel : (l.eraseIdx v.toNat).length = n := by
      have : v.toNat < l.length := by omega
      rw [List.length_eraseIdx, if_pos this]
      omega
    have T2 : Town ((st1.set j (.lst (iD (l.eraseIdx v.toNat)))).set (j + 1) (.lst (iD (a ++ [x])))) (t + 1) := Tw.set (Tw.set w1.t hj) (by omega)
    obtain ⟨b, st', e, q1, q2, q3, q4, q5⟩ := nm_loop D ns m hj n (l.eraseIdx v.toNat) (a ++ [x]) fuel _ (t + 1) hel (by omega) T2 (by omega) (by simp; omega) (by
      rw [List.getElem?_set_ne (by omega), List.getElem?_set_self hjl]) (by
      rw [List.getElem?_set_self (by rw [List.length_set]; exact hjl2)])
    refine ⟨x :: b, st', ?_, ?_, ?_, ?_, ?_, ?_⟩
    · simp only [whLoop, hc, hb, e]
    · simpa using q1
    · exact (q2.cons x).trans (perm_erase l _ x hx)
    · have : t + (n + 1) = t + 1 + n := by omega
      rw [this]; exact q3
    · rw [q4]; simp [l1]
    · intro i h0 hi
      rw [q5 i h0 hi, List.getElem?_set_ne (by omega), List.getElem?_set_ne (by omega)]
      exact w1.fr i h0 (by rw [← l1]; omega)
theorem names_ok {C : Calls} (D : DrawOk C) (ns : List Int) {m : Int} (hm : 1 ≤ m ∧ m ≤ 3) {st : Store} {n : Nat} (T : Town st n) (hn : n < 400) : ∃ a st', runDf C d__law_names [.scr ns, .ob 0, .int m] st = .ok (sD a) st' ∧ a ∈ permsN m ∧ Tw st st' (n + m.toNat) := by
  have hp := T.pos
  have hr : rangeD 0 m.toNat = iD (rgI 0 m.toNat) := rangeD_eq _ _
  have T2 : Town (st ++ [.lst (iD (rgI 0 m.toNat))] ++ [.lst (iD [])]) n := (T.app _).app _
  have g1 : (st ++ [Ob.lst (iD (rgI 0 m.toNat))] ++ [.lst (iD [])])[st.length]? = some (.lst (iD (rgI 0 m.toNat))) := by simp
  have g2 : (st ++ [Ob.lst (iD (rgI 0 m.toNat))] ++ [.lst (iD [])])[st.length + 1]? = some (.lst (iD [])) := by simp
  obtain ⟨b, st', e, q1, q2, q3, q4, q5⟩ := nm_loop D ns m hp m.toNat (rgI 0 m.toNat) [] whFuel _ n (rgI_len _ _) (by unfold whFuel; omega) T2 (by omega) (by simp; omega) g1 g2
  refine ⟨b, st', ?_, perm_in hm q2, ?_⟩
  · have e1 : Mn.exec C (.asg (.name 3) (.bi2 (.lrng true) (.var 2))) [some (.scr ns), some (.ob 0), some (.int m), none, none] st = .next [some (.scr ns), some (.ob 0), some (.int m), some (.ob st.length), none] (st ++ [.lst (iD (rgI 0 m.toNat))]) := by
      have hb : bRng (newL true) [.int m] st = .ok (.ob st.length) (st ++ [.lst (iD (rgI 0 m.toNat))]) := by
        simp only [bRng]
        rw [if_pos (by omega), hr]
        simp only [newL]
        rw [if_pos (by rw [iD_len, rgI_len]; unfold maxLen; omega), if_pos trivial]
      show (match ((prim (bRng (newL true) [.int m] st)) : Res Mn.D) with
        | .ok d st' => _
        | .exc c st' => _
        | .err => _) = _
      rw [hb]
      rfl
    show outR (Mn.exec C b__law_names [some (.scr ns), some (.ob 0), some (.int m), none, none] st) = _
    unfold b__law_names
    rw [exS e1, exS (env' := [some (.scr ns), some (.ob 0), some (.int m), some (.ob st.length), some (.ob (st.length + 1))]) (st' := st ++ [.lst (iD (rgI 0 m.toNat))] ++ [.lst (iD [])]) (by
      simp [iD, asgT]), ex_cons, ex_while]
    rw [show whLoop (evB C (.cmp .ne (.var 3) (.lst false .nil))) (Mn.exec C (.cons (.expr (.me .append (.var 4) (.cons (.me .popAt (.var 3) (.cons (.call i__law_draw (.cons (.var 0) (.cons (.var 1) (.cons (.bi .len (.cons (.var 3) .nil)) .nil)))) .nil)) .nil))) .nil)) whFuel _ _ = _ from e]
    have hml : (iD b).length ≤ maxLen := by
      rw [iD_len, q2.length_eq, rgI_len]
      unfold maxLen
      omega
    have q1 : st'[st.length + 1]? = some (.lst (iD b)) := by simpa using q1
    have ht : bTuple [.ob (st.length + 1)] st' = .ok (sD b) st' := by
      simp [bTuple, asL, obL, q1, newT, hml, sD]
    simp only [ex_cons, ex_ret, ev_bi, evs_cons, evs_nil, ev_var, List.getElem?_cons_succ, List.getElem?_cons_zero, bind_ok, pBi, ht, prim_ok]
    rfl
  · refine ⟨q3, ?_, fun i h0 hi => ?_⟩
    · rw [q4]; simp
    · rw [q5 i h0 hi, List.append_assoc, List.getElem?_append_left hi]
/-! ### called -/
def insI (x : Int) : List Int → List Int
  | [] => [x]
  | y :: ys => if y < x then y :: insI x ys else x :: y :: ys
def isortI : List Int → List Int
  | [] => []
  | x :: xs => insI x (isortI xs)
def callL (s a : List Int) : List Int := isortI (s.map fun o => a.getD o.toNat 0)
theorem called_ok (k : Nat) (st : Store) {m : Int} (hm : 1 ≤ m ∧ m ≤ 3) : ∀ a ∈ permsN m, ∀ s ∈ regs m, callN (tab L) (k + 1) i_called [sD s, sD a] st = .ok (sD (callL s a)) st := by
  have : m = 1 ∨ m = 2 ∨ m = 3 := by omega
  intro a ha s hs
  rcases this with rfl | rfl | rfl
  · simp only [permsN, regs, List.mem_cons, List.not_mem_nil, or_false] at ha hs
    rcases ha with rfl <;> rcases hs with rfl | rfl <;> kernel_rfl
  · simp only [permsN, regs, List.mem_cons, List.not_mem_nil, or_false] at ha hs
    rcases ha with rfl | rfl <;> rcases hs with rfl | rfl | rfl | rfl <;> kernel_rfl
  · simp only [permsN, regs, List.mem_cons, List.not_mem_nil, or_false] at ha hs
    rcases ha with rfl | rfl | rfl | rfl | rfl | rfl <;> rcases hs with rfl | rfl | rfl | rfl | rfl | rfl | rfl | rfl <;> kernel_rfl
theorem need_names_ok (k : Nat) (st : Store) {m : Int} (hm : 1 ≤ m ∧ m ≤ 3) : ∀ a ∈ permsN m, callN (tab L) (k + 2) i_need_names [.int m, sD a] st = .ok .non st := by
  have : m = 1 ∨ m = 2 ∨ m = 3 := by omega
  intro a ha
  rcases this with rfl | rfl | rfl
  · simp only [permsN, List.mem_cons, List.not_mem_nil, or_false] at ha
    rcases ha with rfl <;> kernel_rfl
  · simp only [permsN, List.mem_cons, List.not_mem_nil, or_false] at ha
    rcases ha with rfl | rfl <;> kernel_rfl
  · simp only [permsN, List.mem_cons, List.not_mem_nil, or_false] at ha
    rcases ha with rfl | rfl | rfl | rfl | rfl | rfl <;> kernel_rfl
def renL (a : List Int) (rs : List Rw) : List Rw := isortW (rs.map fun r => (callL r.1 a, r.2))
theorem renamed_ok {C : Calls} {m : Int} {rs : List Rw} {a : List Int} (t : Tel m rs) (st : Store) (hn : C i_need_telling [telD m rs] st = .ok .non st) (hnn : C i_need_names [.int m, sD a] st = .ok .non st) (hc : ∀ s ∈ regs m, C i_called [sD s, sD a] st = .ok (sD (callL s a)) st) : runDf C d_renamed [telD m rs, sD a] st = .ok (telD m (renL a rs)) st := by
  have hl := t.hl
  have e1 : Mn.exec C (.expr (.call i_need_telling (.cons (.var 0) .nil))) [some (telD m rs), some (sD a), none, none] st = .next [some (telD m rs), some (sD a), none, none] st := by
    rw [ex_expr, show ev C (.call i_need_telling (.cons (.var 0) .nil)) [some (telD m rs), some (sD a), none, none] st = .ok .non st from hn]
  have e2 : Mn.exec C (.expr (.call i_need_names (.cons (.idx (.var 0) (.con (.int 0))) (.cons (.var 1) .nil)))) [some (telD m rs), some (sD a), none, none] st = .next [some (telD m rs), some (sD a), none, none] st := by
    rw [ex_expr, show ev C (.call i_need_names (.cons (.idx (.var 0) (.con (.int 0))) (.cons (.var 1) .nil))) [some (telD m rs), some (sD a), none, none] st = .ok .non st from hnn]
  have hlc := lc_all (C := C) (own := [2, 3]) (t := .tup (.cons (.name 2) (.cons (.name 3) .nil))) (e := .tup (.cons (.call i_called (.cons (.var 2) (.cons (.var 1) .nil))) (.cons (.var 3) .nil))) (env := [some (telD m rs), some (sD a), none, none]) (st := st) rs rowD (fun r => rowD (callL r.1 a, r.2)) (fun r hr => by
    have h1 := hc r.1 (t.hs r hr)
    have m2 : 2 ≤ maxLen := by unfold maxLen; omega
    have hb : ∀ S : Mn.D, S = sD r.1 → lcBody C [2, 3] (.tup (.cons (.name 2) (.cons (.name 3) .nil))) .nil (.tup (.cons (.call i_called (.cons (.var 2) (.cons (.var 1) .nil))) (.cons (.var 3) .nil))) [some (telD m rs), some (sD a), none, none] (.tup [S, .int r.2]) st = .ok (some (.tup [sD (callL r.1 a), .int r.2])) st := by
      intro S hS
      rw [← hS] at h1
      generalize sD (callL r.1 a) = Q at *
      generalize sD a = A at *
      generalize telD m rs = T at *
      simp [lcBody, asgT, asgTs, wipeE, h1, m2]
    exact hb _ rfl)
  have em : (rs.map fun r => rowD (callL r.1 a, r.2)) = ((rs.map fun r => (callL r.1 a, r.2)).map rowD) := by rw [List.map_map]; rfl
  rw [em] at hlc
  have hml : ((rs.map fun r => ((callL r.1 a, r.2) : Rw)).map rowD).length ≤ maxLen := by simp; unfold maxLen; omega
  have hso := rows_sorted (rs.map fun r => (callL r.1 a, r.2)) st (by simp; omega)
  have hml2 : ((isortW (rs.map fun r => ((callL r.1 a, r.2) : Rw))).map rowD).length ≤ maxLen := by simp [isortW_len]; unfold maxLen; omega
  show outR (Mn.exec C b_renamed [some (telD m rs), some (sD a), none, none] st) = _
  unfold b_renamed
  rw [exS e1, exS e2]
  have hlc' : ev C (.lc false [2, 3] (.tup (.cons (.name 2) (.cons (.name 3) .nil))) (.cons (.idx (.var 0) (.con (.int 1))) .nil) .nil (.tup (.cons (.call i_called (.cons (.var 2) (.cons (.var 1) .nil))) (.cons (.var 3) .nil)))) [some (telD m rs), some (sD a), none, none] st = .ok (.lst ((rs.map fun r => ((callL r.1 a, r.2) : Rw)).map rowD)) st := by
    rw [ev_lc, show evw C (.cons (.idx (.var 0) (.con (.int 1))) .nil) [some (telD m rs), some (sD a), none, none] st = .ok ⟨rs.map rowD, []⟩ st from rfl, bind_ok]
    dsimp only
    rw [hlc, bind_ok, ndL _ _ hml]
    rfl
  have hs : ev C (.bi .tuple (.cons (.bi .sorted (.cons (.lc false [2, 3] (.tup (.cons (.name 2) (.cons (.name 3) .nil))) (.cons (.idx (.var 0) (.con (.int 1))) .nil) .nil (.tup (.cons (.call i_called (.cons (.var 2) (.cons (.var 1) .nil))) (.cons (.var 3) .nil)))) .nil)) .nil)) [some (telD m rs), some (sD a), none, none] st = .ok (.tup ((renL a rs).map rowD)) st := by
    rw [ev_bi, evs_cons, ev_bi, evs_cons, hlc', bind_ok, evs_nil, bind_ok, bind_ok]
    show (Res.bind (Res.bind (prim (pSorted ((rs.map fun r => ((callL r.1 a, r.2) : Rw)).map rowD) st)) _) _) = _
    rw [hso]
    show prim (newT ((isortW (rs.map fun r => ((callL r.1 a, r.2) : Rw))).map rowD) st) = _
    rw [ndT _ _ hml2]
    rfl
  rw [ex_cons, ex_ret, ev_tup, evs_cons, show ev C (.idx (.var 0) (.con (.int 0))) [some (telD m rs), some (sD a), none, none] st = .ok (.int m) st from rfl, bind_ok, evs_cons, hs]
  rfl
end Pg

set_option Elab.async false
set_option linter.all false
set_option maxRecDepth 100000
set_option maxHeartbeats 8000000
/-! Fr: how far, in plain terms. -/
namespace Pg
open Mn
def dst : List Rw → List Int → Int
  | r :: rs, n :: ns => absI (n - r.2) + dst rs ns
  | _, _ => 0
theorem absI_pos (i : Int) : 0 ≤ absI i := by unfold absI; split <;> omega
theorem dst_pos : ∀ (rs : List Rw) (ns : List Int), 0 ≤ dst rs ns
  | [], _ => by simp [dst]
  | _ :: _, [] => by simp [dst]
  | r :: rs, n :: ns => by
    have := dst_pos rs ns
    have := absI_pos (n - r.2)
    simp only [dst]
    omega
theorem findN_some {f : Int → Option (List Int)} {z : List Int} : ∀ (c : Nat) (v : Int), findN f c v = some z → ∃ w, v ≤ w ∧ w < v + c ∧ f w = some z
  | 0, _, h => by cases h
  | c + 1, v, h => by
    unfold findN at h
    cases hf : f v with
    | some r => rw [hf] at h; exact ⟨v, by omega, by omega, by rw [hf]; exact h⟩
    | none =>
      rw [hf] at h
      obtain ⟨w, h1, h2, h3⟩ := findN_some c (v + 1) h
      exact ⟨w, by omega, by omega, h3⟩
theorem findN_ex {f : Int → Option (List Int)} : ∀ (c : Nat) (v w : Int), v ≤ w → w < v + c → (f w).isSome = true → (findN f c v).isSome = true
  | 0, _, _, h1, h2, _ => by omega
  | c + 1, v, w, h1, h2, h => by
    unfold findN
    cases hf : f v with
    | some r => rfl
    | none =>
      refine findN_ex c (v + 1) w ?_ (by omega) h
      by_cases e : v = w
      · subst e; rw [hf] at h; cases h
      · omega
theorem near_some {m : Int} {rs : List Rw} {z : List Int} : ∀ (rest : List Rw) (left : Int) (ns : List Int), nearL m rs rest left ns = some z → ∃ l, z = ns ++ l ∧ l.length = rest.length ∧ (∀ n ∈ l, 0 ≤ n ∧ n ≤ 9) ∧ dst rest l = left ∧ Sat m (zipN rs z)
  | [], left, ns, h => by
    unfold nearL at h
    split at h
    · rename_i h0
      split at h
      · rename_i hs
        cases h
        exact ⟨[], by simp, rfl, by simp, by simp [dst, h0], (llL_sat _ _).mp hs⟩
      · cases h
    · cases h
  | r :: rest, left, ns, h => by
    unfold nearL at h
    obtain ⟨w, h1, h2, h3⟩ := findN_some _ _ h
    obtain ⟨l, g1, g2, g3, g4, g5⟩ := near_some rest _ _ h3
    have hw : 0 ≤ w ∧ w ≤ 9 := by
      have a1 : 0 ≤ loN r left := by unfold loN; split <;> omega
      have a2 : hiN r left ≤ 9 := by unfold hiN; split <;> omega
      omega
    refine ⟨w :: l, by rw [g1]; simp, by simp [g2], ?_, ?_, g5⟩
    · intro n hn
      rcases List.mem_cons.mp hn with rfl | hn
      · exact hw
      · exact g3 n hn
    · simp only [dst, g4]
      omega
theorem near_ex {m : Int} {rs : List Rw} : ∀ (rest : List Rw) (left : Int) (ns l : List Int), l.length = rest.length → (∀ r ∈ rest, 0 ≤ r.2 ∧ r.2 ≤ 9) → (∀ n ∈ l, 0 ≤ n ∧ n ≤ 9) → dst rest l = left → Sat m (zipN rs (ns ++ l)) → (nearL m rs rest left ns).isSome = true
  | [], left, ns, [], _, _, _, h3, h4 => by
    have : left = 0 := by simpa [dst] using h3.symm
    subst this
    rw [List.append_nil] at h4
    unfold nearL
    rw [if_pos rfl, if_pos ((llL_sat _ _).mpr h4)]
    rfl
  | [], _, _, _ :: _, h, _, _, _, _ => by simp at h
  | _ :: _, _, _, [], h, _, _, _, _ => by simp at h
  | r :: rest, left, ns, n :: l, h, hr, hn, h3, h4 => by
    have hr0 := hr r (by simp)
    have hn0 := hn n (by simp)
    have hp := dst_pos rest l
    simp only [dst] at h3
    unfold nearL
    have hlo : loN r left ≤ n := by
      unfold loN
      unfold absI at h3
      split <;> split at h3 <;> omega
    have hhi : n ≤ hiN r left := by
      unfold hiN
      unfold absI at h3
      split <;> split at h3 <;> omega
    refine findN_ex _ _ n hlo (by omega) ?_
    refine near_ex rest _ _ l (by simpa using h) (fun q hq => hr q (by simp [hq])) (fun q hq => hn q (by simp [hq])) (by omega) ?_
    rw [List.append_assoc]
    exact h4
/-! ### by lots -/
def dsum (m : Int) (x : Int → Int) : List Rw → Int
  | [] => 0
  | r :: rs => absI (cnt m r.1 x - r.2) + dsum m x rs
def Dist (m : Int) (rs : List Rw) (d : Int) : Prop := ∃ x : Int → Int, (∀ q, 0 ≤ x q) ∧ (∀ r ∈ rs, cnt m r.1 x ≤ 9) ∧ dsum m x rs = d
theorem zipN_map (m : Int) (x : Int → Int) : ∀ rs : List Rw, zipN rs (rs.map fun r => cnt m r.1 x) = rs.map fun r => (r.1, cnt m r.1 x)
  | [] => rfl
  | r :: rs => by
    have := zipN_map m x rs
    unfold zipN at this ⊢
    simp only [List.map_cons, List.zip_cons_cons, this]
theorem dst_map (m : Int) (x : Int → Int) : ∀ rs : List Rw, dst rs (rs.map fun r => cnt m r.1 x) = dsum m x rs
  | [] => rfl
  | r :: rs => by simp only [List.map_cons, dst, dsum, dst_map m x rs]
theorem zip_sol {m : Int} {x : Int → Int} : ∀ (rs : List Rw) (l : List Int), l.length = rs.length → (∀ r ∈ zipN rs l, cnt m r.1 x = r.2) → l = rs.map fun r => cnt m r.1 x
  | [], [], _, _ => rfl
  | [], _ :: _, h, _ => by simp at h
  | _ :: _, [], h, _ => by simp at h
  | r :: rs, n :: l, h, g => by
    have h1 := g (r.1, n) (by simp [zipN])
    have h2 := zip_sol rs l (by simpa using h) fun q hq => g q (by
      unfold zipN at hq ⊢
      simp only [List.zip_cons_cons, List.map_cons]
      exact List.mem_cons_of_mem _ hq)
    rw [List.map_cons, ← h2]
    simp at h1
    rw [h1]
theorem near_dist {m : Int} {rs : List Rw} {d : Int} (hn : ∀ r ∈ rs, 0 ≤ r.2 ∧ r.2 ≤ 9) : (nearL m rs rs d []).isSome = true ↔ Dist m rs d := by
  constructor
  · intro h
    obtain ⟨z, hz⟩ := Option.isSome_iff_exists.mp h
    obtain ⟨l, h1, h2, h3, h4, x, hx, hs⟩ := near_some rs d [] hz
    rw [List.nil_append] at h1
    subst h1
    have e := zip_sol (m := m) (x := x) rs z h2 hs
    refine ⟨x, hx, fun r hr => ?_, ?_⟩
    · refine (h3 (cnt m r.1 x) ?_).2
      rw [e]
      exact List.mem_map.mpr ⟨r, hr, rfl⟩
    · rw [← dst_map, ← e]
      exact h4
  · rintro ⟨x, hx, h9, hd⟩
    refine near_ex rs d [] (rs.map fun r => cnt m r.1 x) (by simp) hn ?_ ?_ ?_
    · intro n hn'
      obtain ⟨r, hr, rfl⟩ := List.mem_map.mp hn'
      exact ⟨cnt_pos hx, h9 r hr⟩
    · rw [dst_map]; exact hd
    · rw [List.nil_append, zipN_map]
      refine ⟨x, hx, fun r hr => ?_⟩
      obtain ⟨q, hq, rfl⟩ := List.mem_map.mp hr
      rfl
theorem dsum_perm {m : Int} {x : Int → Int} {a b : List Rw} (p : a.Perm b) : dsum m x a = dsum m x b := by
  induction p with
  | nil => rfl
  | cons r _ ih => simp only [dsum, ih]
  | swap r q l => simp only [dsum]; omega
  | trans _ _ h1 h2 => rw [h1, h2]
theorem dist_perm {m : Int} {a b : List Rw} {d : Int} (p : a.Perm b) (h : Dist m a d) : Dist m b d := by
  obtain ⟨x, h1, h2, h3⟩ := h
  exact ⟨x, h1, fun r hr => h2 r (p.mem_iff.mpr hr), by rw [← dsum_perm p]; exact h3⟩
/-! ### other names -/
def idxL (rg : List (List Int)) (s : List Int) : Int := match rg with
  | [] => 0
  | r :: rg => if r = s then 0 else 1 + idxL rg s
/-- the place of the region that is called as the region at this place -/
def backI (m : Int) (a : List Int) (i : Int) : Int := idxL ((regs m).map fun r => callL r a) ((regs m).getD i.toNat [])
theorem cnt_back {m : Int} (hm : 1 ≤ m ∧ m ≤ 3) (x : Int → Int) : ∀ a ∈ permsN m, ∀ s ∈ regs m, cnt m (callL s a) (fun i => x (backI m a i)) = cnt m s x := by
  have : m = 1 ∨ m = 2 ∨ m = 3 := by omega
  intro a ha s hs
  rcases this with rfl | rfl | rfl
  · simp only [permsN, regs, List.mem_cons, List.not_mem_nil, or_false] at ha hs
    rcases ha with rfl <;> rcases hs with rfl | rfl <;> (simp [cnt, tot, cols, colsOf, regs, callL, isortI, insI, backI, idxL]; try omega)
  · simp only [permsN, regs, List.mem_cons, List.not_mem_nil, or_false] at ha hs
    rcases ha with rfl | rfl <;> rcases hs with rfl | rfl | rfl | rfl <;> (simp [cnt, tot, cols, colsOf, regs, callL, isortI, insI, backI, idxL]; try omega)
  · simp only [permsN, regs, List.mem_cons, List.not_mem_nil, or_false] at ha hs
    rcases ha with rfl | rfl | rfl | rfl | rfl | rfl <;> rcases hs with rfl | rfl | rfl | rfl | rfl | rfl | rfl | rfl <;> (simp [cnt, tot, cols, colsOf, regs, callL, isortI, insI, backI, idxL]; try omega)
end Pg

set_option Elab.async false
set_option linter.all false
set_option maxRecDepth 100000
set_option maxHeartbeats 8000000
/-! Ft: renamed tellings are tellings, and as far. -/
namespace Pg
open Mn
theorem insW_perm (x : Rw) : ∀ l : List Rw, (insW x l).Perm (x :: l)
  | [] => List.Perm.refl _
  | y :: ys => by
    unfold insW
    split
    · exact ((insW_perm x ys).cons y).trans (List.Perm.swap x y ys)
    · exact List.Perm.refl _
theorem isortW_perm : ∀ l : List Rw, (isortW l).Perm l
  | [] => List.Perm.refl _
  | x :: xs => by
    unfold isortW
    exact (insW_perm x _).trans ((isortW_perm xs).cons x)
theorem lts_cons (a b : Int) (x y : List Int) : lts (iD (a :: x)) (iD (b :: y)) = if a = b then lts (iD x) (iD y) else decide (a < b) := by
  show (if decide (a = b) then lts (iD x) (iD y) else decide (a < b)) = _
  by_cases h : a = b <;> simp [h]
theorem lts_tot : ∀ a b : List Int, a ≠ b → lts (iD a) (iD b) = true ∨ lts (iD b) (iD a) = true
  | [], [], h => absurd rfl h
  | [], _ :: _, _ => .inl rfl
  | _ :: _, [], _ => .inr rfl
  | a :: x, b :: y, h => by
    rw [lts_cons, lts_cons]
    by_cases e : a = b
    · subst e
      simp only [if_true]
      exact lts_tot x y fun e => h (by rw [e])
    · rw [if_neg e, if_neg (fun z => e z.symm)]
      simp only [decide_eq_true_eq]
      omega
theorem lts_tr : ∀ a b c : List Int, lts (iD a) (iD b) = true → lts (iD b) (iD c) = true → lts (iD a) (iD c) = true
  | [], [], _, h, _ => by cases h
  | [], _ :: _, [], _, h => by cases h
  | [], _ :: _, _ :: _, _, _ => rfl
  | _ :: _, [], _, h, _ => by cases h
  | _ :: _, _ :: _, [], _, h => by cases h
  | a :: x, b :: y, c :: z, h1, h2 => by
    rw [lts_cons] at h1 h2 ⊢
    by_cases e1 : a = b
    · subst e1
      rw [if_pos rfl] at h1
      by_cases e2 : a = c
      · subst e2
        rw [if_pos rfl] at h2 ⊢
        exact lts_tr x y z h1 h2
      · rw [if_neg e2] at h2 ⊢
        exact h2
    · rw [if_neg e1, decide_eq_true_eq] at h1
      by_cases e2 : b = c
      · subst e2
        rw [if_neg e1, decide_eq_true_eq]
        exact h1
      · rw [if_neg e2, decide_eq_true_eq] at h2
        rw [if_neg (by omega), decide_eq_true_eq]
        omega
theorem lts_irr (a : List Int) : lts (iD a) (iD a) = false := by
  induction a with
  | nil => rfl
  | cons a x ih => rw [lts_cons, if_pos rfl, ih]
theorem ltW_ne {a b : Rw} (h : a.1 ≠ b.1) : ltW a b = lts (iD a.1) (iD b.1) := by
  show (if eqvs (iD a.1) (iD b.1) then lts [.int a.2] [.int b.2] else lts (iD a.1) (iD b.1)) = _
  cases hq : eqvs (iD a.1) (iD b.1) with
  | false => simp
  | true => exact absurd (iD_inj hq) h
def PwW (l : List Rw) : Prop := l.Pairwise fun a b => lts (iD a.1) (iD b.1) = true
theorem insW_pw (x : Rw) : ∀ l : List Rw, PwW l → (∀ y ∈ l, x.1 ≠ y.1) → PwW (insW x l)
  | [], _, _ => List.pairwise_singleton _ _
  | y :: ys, h, hx => by
    unfold PwW at h
    rw [List.pairwise_cons] at h
    have hxy := hx y (by simp)
    unfold insW
    rw [ltW_ne (fun e => hxy e.symm)]
    split
    · rename_i hlt
      refine List.pairwise_cons.mpr ⟨fun z hz => ?_, insW_pw x ys h.2 fun z hz => hx z (by simp [hz])⟩
      rcases (insW_mem x ys z).mp hz with rfl | hz
      · exact hlt
      · exact h.1 z hz
    · rename_i hlt
      have hl : lts (iD x.1) (iD y.1) = true := by
        rcases lts_tot x.1 y.1 hxy with z | z
        · exact z
        · exact absurd z hlt
      refine List.pairwise_cons.mpr ⟨fun z hz => ?_, List.pairwise_cons.mpr h⟩
      rcases List.mem_cons.mp hz with rfl | hz
      · exact hl
      · exact lts_tr _ _ _ hl (h.1 z hz)
theorem isortW_pw : ∀ l : List Rw, l.Pairwise (fun a b => a.1 ≠ b.1) → PwW (isortW l)
  | [], _ => List.Pairwise.nil
  | x :: xs, h => by
    rw [List.pairwise_cons] at h
    unfold isortW
    exact insW_pw x _ (isortW_pw xs h.2) fun y hy => h.1 y ((isortW_mem xs y).mp hy)
theorem pw_asc {rs : List Rw} (h : PwW rs) : Asc rs := by
  intro i a b ha hb
  obtain ⟨g1, e1⟩ := List.getElem?_eq_some_iff.mp ha
  obtain ⟨g2, e2⟩ := List.getElem?_eq_some_iff.mp hb
  have := List.pairwise_iff_getElem.mp h i (i + 1) g1 g2 (by omega)
  rw [e1, e2] at this
  exact this
def permsOk (m : Int) : Bool := (permsN m).all fun a => (regs m).all fun s => decide (callL s a ∈ regs m) && (regs m).all fun s' => decide (s = s') || decide (callL s a ≠ callL s' a)
theorem perms_ok {m : Int} (hm : 1 ≤ m ∧ m ≤ 3) : permsOk m = true := by
  have : m = 1 ∨ m = 2 ∨ m = 3 := by omega
  rcases this with rfl | rfl | rfl <;> decide +kernel
theorem callL_in {m : Int} (hm : 1 ≤ m ∧ m ≤ 3) {a s : List Int} (ha : a ∈ permsN m) (hs : s ∈ regs m) : callL s a ∈ regs m := by
  have := List.all_eq_true.mp (List.all_eq_true.mp (perms_ok hm) a ha) s hs
  rw [Bool.and_eq_true] at this
  exact of_decide_eq_true this.1
theorem callL_inj {m : Int} (hm : 1 ≤ m ∧ m ≤ 3) {a s s' : List Int} (ha : a ∈ permsN m) (hs : s ∈ regs m) (hs' : s' ∈ regs m) (h : s ≠ s') : callL s a ≠ callL s' a := by
  have := List.all_eq_true.mp (List.all_eq_true.mp (perms_ok hm) a ha) s hs
  rw [Bool.and_eq_true] at this
  have := List.all_eq_true.mp this.2 s' hs'
  rw [Bool.or_eq_true, decide_eq_true_eq, decide_eq_true_eq] at this
  rcases this with z | z
  · exact absurd z h
  · exact z
theorem ren_tel {m : Int} {rs : List Rw} {a : List Int} (t : Tel m rs) (hp : (rs.map (·.1)).Pairwise fun a b => lts (iD a) (iD b) = true) (ha : a ∈ permsN m) : Tel m (renL a rs) ∧ PwW (renL a rs) := by
  have hmem : ∀ r ∈ renL a rs, ∃ q ∈ rs, r = (callL q.1 a, q.2) := fun r hr => by
    have := (isortW_mem _ r).mp hr
    obtain ⟨q, hq, e⟩ := List.mem_map.mp this
    exact ⟨q, hq, e.symm⟩
  have hpw : PwW (renL a rs) := by
    refine isortW_pw _ ?_
    rw [List.pairwise_map] at hp ⊢
    refine hp.imp_of_mem fun {x y} hx hy h => ?_
    refine callL_inj t.hm ha (t.hs x hx) (t.hs y hy) fun e => ?_
    rw [e, lts_irr] at h
    cases h
  refine ⟨⟨t.hm, fun r hr => ?_, fun r hr => ?_, pw_asc hpw, ?_⟩, hpw⟩
  · obtain ⟨q, hq, rfl⟩ := hmem r hr
    exact callL_in t.hm ha (t.hs q hq)
  · obtain ⟨q, hq, rfl⟩ := hmem r hr
    exact t.hn q hq
  · unfold renL
    rw [isortW_len, List.length_map]
    exact t.hl
def fwdI (m : Int) (a : List Int) (i : Int) : Int := idxL (regs m) (callL ((regs m).getD i.toNat []) a)
theorem cnt_fwd {m : Int} (hm : 1 ≤ m ∧ m ≤ 3) (x : Int → Int) : ∀ a ∈ permsN m, ∀ s ∈ regs m, cnt m s (fun i => x (fwdI m a i)) = cnt m (callL s a) x := by
  have : m = 1 ∨ m = 2 ∨ m = 3 := by omega
  intro a ha s hs
  rcases this with rfl | rfl | rfl
  · simp only [permsN, regs, List.mem_cons, List.not_mem_nil, or_false] at ha hs
    rcases ha with rfl <;> rcases hs with rfl | rfl <;> (simp [cnt, tot, cols, colsOf, regs, callL, isortI, insI, fwdI, idxL]; try omega)
  · simp only [permsN, regs, List.mem_cons, List.not_mem_nil, or_false] at ha hs
    rcases ha with rfl | rfl <;> rcases hs with rfl | rfl | rfl | rfl <;> (simp [cnt, tot, cols, colsOf, regs, callL, isortI, insI, fwdI, idxL]; try omega)
  · simp only [permsN, regs, List.mem_cons, List.not_mem_nil, or_false] at ha hs
    rcases ha with rfl | rfl | rfl | rfl | rfl | rfl <;> rcases hs with rfl | rfl | rfl | rfl | rfl | rfl | rfl | rfl <;> (simp [cnt, tot, cols, colsOf, regs, callL, isortI, insI, fwdI, idxL]; try omega)
theorem dsum_ren {m : Int} {a : List Int} {x y : Int → Int} : ∀ rs : List Rw, (∀ r ∈ rs, cnt m (callL r.1 a) y = cnt m r.1 x) → dsum m y (rs.map fun r => (callL r.1 a, r.2)) = dsum m x rs
  | [], _ => rfl
  | r :: rs, h => by
    simp only [List.map_cons, dsum, h r (by simp), dsum_ren rs fun q hq => h q (by simp [hq])]
theorem dist_ren {m : Int} {rs : List Rw} {a : List Int} (hm : 1 ≤ m ∧ m ≤ 3) (hs : ∀ r ∈ rs, r.1 ∈ regs m) (ha : a ∈ permsN m) (d : Int) : Dist m (renL a rs) d ↔ Dist m rs d := by
  constructor
  · intro h
    obtain ⟨y, h1, h2, h3⟩ := dist_perm (isortW_perm _) h
    have e : ∀ r ∈ rs, cnt m (callL r.1 a) y = cnt m r.1 (fun i => y (fwdI m a i)) := fun r hr => (cnt_fwd hm y a ha r.1 (hs r hr)).symm
    refine ⟨fun i => y (fwdI m a i), fun q => h1 _, fun r hr => ?_, by rw [← dsum_ren rs e]; exact h3⟩
    rw [← e r hr]
    exact h2 _ (List.mem_map.mpr ⟨r, hr, rfl⟩)
  · rintro ⟨x, h1, h2, h3⟩
    have e : ∀ r ∈ rs, cnt m (callL r.1 a) (fun i => x (backI m a i)) = cnt m r.1 x := fun r hr => cnt_back hm x a ha r.1 (hs r hr)
    refine dist_perm (isortW_perm _).symm ⟨fun i => x (backI m a i), fun q => h1 _, fun r hr => ?_, by rw [dsum_ren rs e]; exact h3⟩
    obtain ⟨q, hq, rfl⟩ := List.mem_map.mp hr
    show cnt m (callL q.1 a) _ ≤ 9
    rw [e q hq]
    exact h2 q hq
end Pg

set_option Elab.async false
set_option linter.all false
set_option maxRecDepth 100000
set_option maxHeartbeats 8000000
/-! Rb: region_bounds of any telling. -/
namespace Pg
open Mn
local macro_rules | `(tactic| walk_at "go") => `(tactic| repeat (first | refine EsW.cons ?_ | refine EW.var rfl ?_ | refine EsW.nil ?_ | refine EW.con ?_ | refine EW.call ?_ | refine EW.bin ?_ | refine EW.idx ?_ | refine EW.cmp ?_ | refine EW.bi ?_ | refine Exists.intro _ (And.intro rfl ?_) | refine SW.cons ?_ | refine SW.asgT ?_ | refine SW.ite ?_ | refine RW.oB (eq_i _ _ _) ?_ | refine RW.oB (ne_i _ _ _) ?_ | refine RW.oB (lt_i _ _ _) ?_ | refine RW.oB (le_i _ _ _) ?_ | refine RW.oB (gt_i _ _ _) ?_ | refine RW.oB (ge_i _ _ _) ?_ | refine RW.prim rfl ?_ | refine SW.nil ?_ | refine SW.ret ?_ | refine SW.expr ?_ | refine EW.glo ?_ | refine EW.bi2 ?_ | refine EW.not ?_ | refine EW.isN ?_ | refine EW.notN ?_ | refine EW.tup ?_ | refine EW.lst ?_ | refine EW.lstM ?_ | refine EW.dic ?_ | refine EW.sl ?_ | refine EoW.nil ?_ | refine EoW.one ?_ | refine SW.setI ?_ | refine EW.lc ?_ | refine WkW.one ?_ | refine WkW.rng ?_ | refine WkW.rng2 ?_ | refine WkW.enu ?_ | refine WkW.zip ?_ | refine Exists.intro _ (Exists.intro _ (And.intro rfl (And.intro rfl ?_))) | refine EW.or ?_ | refine EW.and ?_ | refine EtW.nil ?_ | refine EtW.one ?_ | refine EW.neg ?_ | refine EW.isi ?_ | refine EW.ite ?_ | refine SW.for_ ?_ | refine SW.retN ?_ | refine SW.raise ?_ | refine SW.par (by simp) (by simp) ?_ | refine EW.fnv ?_ | refine EW.callV ?_ | ((refine And.intro ?_ ?_); (focus ((with_reducible (show List.contains _ _ = true)); rfl))) | refine EW.chain ?_ | refine EW.chn ?_ | refine SW.pass ?_ | refine SW.brk ?_ | refine SW.cont ?_ | refine And.intro (by simp [maxLen] : _ ≤ maxLen) ?_))
theorem idx_regs {m : Int} (hm : 1 ≤ m ∧ m ≤ 3) {i : Nat} {s : List Int} (h : (regs m)[i]? = some s) (st : Store) : pMe .index (.lst ((regs m).map sD)) [sD s] st = .ok (.int (i : Int)) st := by
  have : ∀ n : Nat, n < 8 → (regs m)[n]? = some s → pMe .index (.lst ((regs m).map sD)) [sD s] st = .ok (.int (n : Int)) st := by
    have hmm : m = 1 ∨ m = 2 ∨ m = 3 := by omega
    rcases hmm with rfl | rfl | rfl
    all_goals
      intro n hn h
      match n, hn, h with
      | 0, _, h => first | (cases h; done) | (cases h; rfl)
      | 1, _, h => first | (cases h; done) | (cases h; rfl)
      | 2, _, h => first | (cases h; done) | (cases h; rfl)
      | 3, _, h => first | (cases h; done) | (cases h; rfl)
      | 4, _, h => first | (cases h; done) | (cases h; rfl)
      | 5, _, h => first | (cases h; done) | (cases h; rfl)
      | 6, _, h => first | (cases h; done) | (cases h; rfl)
      | 7, _, h => first | (cases h; done) | (cases h; rfl)
  have hl := (List.getElem?_eq_some_iff.mp h).1
  have h8 := regs_len hm
  exact this i (by omega) h
theorem valS {m : Int} {rs : List Rw} {i : Nat} (hi : i < (regs m).length) {x : List Int} (hx : x ∈ solsL m rs) : ∃ v, x[i]? = some v ∧ valP (i : Int) 0 x = v := by
  have hl := (mem_sols.mp hx).len
  refine ⟨x[i]'(by omega), List.getElem?_eq_getElem (by omega), ?_⟩
  exact valP_at _ x 0 i _ (List.getElem?_eq_getElem (by omega)) (by omega)
theorem val_fx {m : Int} {rs : List Rw} {i : Nat} (hi : i < (regs m).length) {x : List Int} (hx : x ∈ solsL m rs) : valP (i : Int) 0 x = fx x (i : Int) := by
  obtain ⟨v, h1, h2⟩ := valS hi hx
  rw [h2]
  unfold fx
  rw [if_neg (by omega), Int.toNat_natCast, h1]
  rfl
/-! ### the place of a region -/
def plc (m : Int) (s : List Int) : Int := idxL (regs m) s
theorem plc_at {m : Int} (hm : 1 ≤ m ∧ m ≤ 3) {i : Nat} {s : List Int} (h : (regs m)[i]? = some s) : plc m s = (i : Int) := by
  have : ((List.range (regs m).length).all fun i => match (regs m)[i]? with
    | some s => decide (plc m s = (i : Int))
    | none => true) = true := by
    have hmm : m = 1 ∨ m = 2 ∨ m = 3 := by omega
    rcases hmm with rfl | rfl | rfl <;> decide
  have h1 := List.all_eq_true.mp this i (List.mem_range.mpr (List.getElem?_eq_some_iff.mp h).1)
  rw [h] at h1
  exact of_decide_eq_true h1
theorem plc_get {m : Int} (hm : 1 ≤ m ∧ m ≤ 3) {s : List Int} (hs : s ∈ regs m) : ∃ i : Nat, (regs m)[i]? = some s ∧ plc m s = (i : Int) ∧ i < (regs m).length := by
  obtain ⟨i, h⟩ := List.getElem?_of_mem hs
  exact ⟨i, h, plc_at hm h, (List.getElem?_eq_some_iff.mp h).1⟩
theorem plc_cols {m : Int} (hm : 1 ≤ m ∧ m ≤ 3) {s q : List Int} (hs : s ∈ regs m) (hq : q ∈ regs m) : (plc m s ∈ cols m q) ↔ inB q s = true := by
  have : ((regs m).all fun s => (regs m).all fun q => decide (plc m s ∈ cols m q) == inB q s) = true := by
    have hmm : m = 1 ∨ m = 2 ∨ m = 3 := by omega
    rcases hmm with rfl | rfl | rfl <;> decide +kernel
  have h1 := List.all_eq_true.mp (List.all_eq_true.mp this s hs) q hq
  rw [beq_iff_eq] at h1
  rw [← h1, decide_eq_true_eq]
theorem plc_back {m : Int} (hm : 1 ≤ m ∧ m ≤ 3) {a s : List Int} (ha : a ∈ permsN m) (hs : s ∈ regs m) : backI m a (plc m (callL s a)) = plc m s := by
  have : ((permsN m).all fun a => (regs m).all fun s => decide (backI m a (plc m (callL s a)) = plc m s)) = true := by
    have hmm : m = 1 ∨ m = 2 ∨ m = 3 := by omega
    rcases hmm with rfl | rfl | rfl <;> decide +kernel
  exact of_decide_eq_true (List.all_eq_true.mp (List.all_eq_true.mp this a ha) s hs)
theorem plc_fwd {m : Int} (hm : 1 ≤ m ∧ m ≤ 3) {a s : List Int} (ha : a ∈ permsN m) (hs : s ∈ regs m) : fwdI m a (plc m s) = plc m (callL s a) := by
  have : ((permsN m).all fun a => (regs m).all fun s => decide (fwdI m a (plc m s) = plc m (callL s a))) = true := by
    have hmm : m = 1 ∨ m = 2 ∨ m = 3 := by omega
    rcases hmm with rfl | rfl | rfl <;> decide +kernel
  exact of_decide_eq_true (List.all_eq_true.mp (List.all_eq_true.mp this a ha) s hs)
theorem in_call {m : Int} (hm : 1 ≤ m ∧ m ≤ 3) {a s q : List Int} (ha : a ∈ permsN m) (hs : s ∈ regs m) (hq : q ∈ regs m) : inB (callL q a) (callL s a) = inB q s := by
  have : ((permsN m).all fun a => (regs m).all fun s => (regs m).all fun q => inB (callL q a) (callL s a) == inB q s) = true := by
    have hmm : m = 1 ∨ m = 2 ∨ m = 3 := by omega
    rcases hmm with rfl | rfl | rfl <;> decide +kernel
  exact eq_of_beq (List.all_eq_true.mp (List.all_eq_true.mp (List.all_eq_true.mp this a ha) s hs) q hq)
/-! ### how much is kept -/
def node10 : Nat → Nat
  | 0 => 1
  | n + 1 => 1 + 10 * node10 n
theorem sum_const (l : List Nat) (f : Nat → Nat) (b : Nat) (h : ∀ x ∈ l, f x ≤ b) : (l.map f).sum ≤ l.length * b := by
  induction l with
  | nil => simp
  | cons a l ih =>
    have h1 := ih fun x hx => h x (by simp [hx])
    have h2 := h a (by simp)
    rw [List.map_cons, List.sum_cons, List.length_cons, Nat.succ_mul]
    omega
theorem cost10 {cs : List (List Int)} : ∀ (n : Nat) (p : Int) (left : List Int), left.length = cs.length → (∀ l ∈ left, 0 ≤ l ∧ l < 10) → costW cs n p left ≤ node10 n
  | 0, _, _, _, _ => Nat.le_refl _
  | n + 1, p, left, hl, h9 => by
    have ht := topI_le (cs := cs) (p := p) h9 (by omega)
    unfold costW node10
    rw [sumF_map]
    have h1 := sum_const (List.range (topI cs left p + 1).toNat) (fun v : Nat => costW cs n (p + 1) (goL cs left p (v : Int))) (node10 n) fun v hv => by
      rw [List.mem_range] at hv
      exact cost10 n (p + 1) _ (goL_len p _ hl) (goL_pos h9 (by omega) (by omega))
    rw [List.length_range] at h1
    have h2 : (topI cs left p + 1).toNat * node10 n ≤ 10 * node10 n := Nat.mul_le_mul_right _ (by omega)
    omega
theorem node10_le {n : Nat} (h : n ≤ 7) : node10 n ≤ 11111111 := by
  have : ∀ n, n < 8 → node10 n ≤ 11111111 := by decide
  exact this n (by omega)
theorem cost_any {m : Int} {rs : List Rw} (t : Tel m rs) : costW (csOf (rowsM m rs)) (regs m).length 0 (nums (rowsM m rs)) ≤ 11111112 := by
  have h8 := regs_len t.hm
  have hlen : (nums (rowsM m rs)).length = (csOf (rowsM m rs)).length := by simp [nums, csOf]
  by_cases hrow : ∃ r ∈ rs, r.1 = []
  · have := (row_all t hrow).cost h8 (by omega) (Int.le_refl 0) (nums_len _) (nums_lt t)
    omega
  · cases hn : (regs m).length with
    | zero => simp [costW]
    | succ n =>
      have h0 : mostL (csOf (rowsM m rs)) (nums (rowsM m rs)) 0 = [] := by
        unfold mostL
        rw [List.map_eq_nil_iff, List.filter_eq_nil_iff]
        intro q hq h1
        have h1 : (0 : Int) ∈ q.1 := of_decide_eq_true h1
        have hc := (List.of_mem_zip hq).1
        rw [cs_rowsM] at hc
        obtain ⟨r, hr, e⟩ := List.mem_map.mp hc
        have h2 := List.all_eq_true.mp (col0 t.hm) r.1 (t.hs r hr)
        have e : cols m r.1 = q.1 := e
        rw [e, decide_eq_true h1] at h2
        simp at h2
        exact hrow ⟨r, hr, h2⟩
      have ht : topI (csOf (rowsM m rs)) (nums (rowsM m rs)) 0 = 0 := by unfold topI; rw [h0]
      unfold costW
      rw [ht]
      show 1 + sumF _ 1 0 ≤ _
      have h10 := cost10 (cs := csOf (rowsM m rs)) n (0 + 1) (goL (csOf (rowsM m rs)) (nums (rowsM m rs)) 0 0) (goL_len 0 0 hlen) (goL_pos (nums_lt t) (Int.le_refl 0) (by rw [ht]; exact Int.le_refl 0))
      have := node10_le (n := n) (by omega)
      simp only [sumF]
      omega
/-! ### what it says -/
structure RbSem (m : Int) (rs : List Rw) (s : List Int) (lo : Int) (hi : Option Int) : Prop where
  lo1 : ∃ x, Sol m rs x ∧ x (plc m s) = lo
  lo2 : ∀ x, Sol m rs x → lo ≤ x (plc m s)
  hi0 : hi = none ↔ ∀ r ∈ rs, plc m s ∉ cols m r.1
  hi1 : ∀ h, hi = some h → ∃ x, Sol m rs x ∧ x (plc m s) = h
  hi2 : ∀ h, hi = some h → ∀ x, Sol m rs x → x (plc m s) ≤ h
theorem RbSem.uni {m : Int} {rs : List Rw} {s : List Int} {lo lo' : Int} {hi hi' : Option Int} (a : RbSem m rs s lo hi) (b : RbSem m rs s lo' hi') : lo = lo' ∧ hi = hi' := by
  have e1 : lo = lo' := by
    obtain ⟨x, hx, h1⟩ := a.lo1
    obtain ⟨y, hy, h2⟩ := b.lo1
    have := a.lo2 y hy
    have := b.lo2 x hx
    omega
  refine ⟨e1, ?_⟩
  cases hi with
  | none => exact (b.hi0.mpr (a.hi0.mp rfl)).symm
  | some h =>
    cases hi' with
    | none => exact a.hi0.mpr (b.hi0.mp rfl)
    | some h' =>
      obtain ⟨x, hx, h1⟩ := a.hi1 h rfl
      obtain ⟨y, hy, h2⟩ := b.hi1 h' rfl
      have := a.hi2 h rfl y hy
      have := b.hi2 h' rfl x hx
      rw [show h = h' by omega]
theorem rgI_get : ∀ (n : Nat) (lo : Int) (k : Nat), (rgI lo n)[k]? = if k < n then some (lo + k) else none
  | 0, lo, k => by simp [rgI]
  | n + 1, lo, 0 => by simp [rgI]
  | n + 1, lo, k + 1 => by
    rw [rgI, List.getElem?_cons_succ, rgI_get n (lo + 1) k]
    by_cases h : k < n
    · rw [if_pos h, if_pos (by omega)]
      congr 1
      omega
    · rw [if_neg h, if_neg (by omega)]
theorem fx_rg {n : Nat} {y : Int → Int} {i : Nat} (h : i < n) : fx ((rgI 0 n).map y) (i : Int) = y (i : Int) := by
  unfold fx
  rw [if_neg (by omega), Int.toNat_natCast, List.getElem?_map, rgI_get, if_pos h]
  simp
theorem sol_fit0 {m : Int} {rs : List Rw} {y : Int → Int} (h : Sol m rs y) : FitL m rs ((rgI 0 (regs m).length).map (trim m rs y)) := by
  have hs := trim_sol h
  have hl : ((rgI 0 (regs m).length).map (trim m rs y)).length = (regs m).length := by rw [List.length_map, rgI_len]
  have hg : ∀ (k : Nat) v, ((rgI 0 (regs m).length).map (trim m rs y))[k]? = some v → trim m rs y (0 + (k : Int)) = v := by
    intro k v hk
    rw [List.getElem?_map, rgI_get] at hk
    split at hk
    · simpa using hk
    · cases hk
  refine ⟨hl, fun v hv => ?_, fun r hr => ?_, fun k v hk hno => ?_⟩
  · obtain ⟨q, _, rfl⟩ := List.mem_map.mp hv
    exact hs.1 q
  · have := tot_totL (cols m r.1) _ (trim m rs y) 0 hg
    rw [← this, hl]
    exact hs.2 r hr
  · have := hg k v hk
    rw [← this, Int.zero_add]
    exact trim_zero hno
theorem rb_sem {m : Int} {rs : List Rw} {i : Nat} {s : List Int} {d : Mn.D} (hm : 1 ≤ m ∧ m ≤ 3) (hs : (regs m)[i]? = some s) (hne : solsL m rs ≠ []) (hf : ¬ ∀ r ∈ rs, plc m s ∉ cols m r.1) (h : MM ((solsL m rs).map (valP (i : Int) 0)) d) : ∃ lo hi, d = .tup [.int lo, .int hi] ∧ RbSem m rs s lo (some hi) := by
  have hp := plc_at hm hs
  have hil := (List.getElem?_eq_some_iff.mp hs).1
  rcases h with ⟨e, _⟩ | ⟨lo, hi, rfl, h1, h2, h3⟩
  · exact absurd (List.map_eq_nil_iff.mp e) hne
  · have back : ∀ v ∈ (solsL m rs).map (valP (i : Int) 0), ∃ x, Sol m rs x ∧ x (plc m s) = v := by
      intro v hv
      obtain ⟨x, hx, rfl⟩ := List.mem_map.mp hv
      exact ⟨fx x, fit_sol (mem_sols.mp hx), by rw [hp, val_fx hil hx]⟩
    have forth : ∀ x, Sol m rs x → x (plc m s) ∈ (solsL m rs).map (valP (i : Int) 0) := by
      intro x hx
      have hF := sol_fit0 hx
      have hz := mem_sols.mpr hF
      refine List.mem_map.mpr ⟨_, hz, ?_⟩
      rw [val_fx hil hz, fx_rg hil, hp]
      unfold trim
      rw [if_pos]
      rw [List.any_eq_true]
      apply Classical.byContradiction
      intro hc
      exact hf fun r hr hq => hc ⟨r, hr, by rw [hp] at hq; exact decide_eq_true hq⟩
    refine ⟨lo, hi, rfl, back lo h1, fun x hx => (h3 _ (forth x hx)).1, ⟨fun h => (by cases h), fun h => absurd h hf⟩, fun h e => ?_, fun h e x hx => ?_⟩
    · cases e; exact back hi h2
    · cases e; exact (h3 _ (forth x hx)).2
theorem rb_free {m : Int} {rs : List Rw} {i : Nat} {s : List Int} (hm : 1 ≤ m ∧ m ≤ 3) (hs : (regs m)[i]? = some s) (hne : solsL m rs ≠ []) (hf : ∀ r ∈ rs, plc m s ∉ cols m r.1) : RbSem m rs s 0 none := by
  refine ⟨?_, fun x hx => hx.1 _, ⟨fun _ => hf, fun _ => rfl⟩, fun h e => (by cases e), fun h e => (by cases e)⟩
  obtain ⟨x, hx⟩ := sols_sat.mpr hne
  exact ⟨trim m rs x, trim_sol hx, trim_zero hf⟩
theorem free_plc {m : Int} {rs : List Rw} {i : Nat} {s : List Int} (hm : 1 ≤ m ∧ m ≤ 3) (hs : (regs m)[i]? = some s) : ((i : Int) ∈ freeL m rs) ↔ ∀ r ∈ rs, plc m s ∉ cols m r.1 := by
  have hp := plc_at hm hs
  have hil := (List.getElem?_eq_some_iff.mp hs).1
  unfold freeL isFree
  rw [List.mem_filter, mem_rg, hp]
  constructor
  · rintro ⟨_, h⟩ r hr hq
    rw [Bool.not_eq_true', List.any_eq_false] at h
    exact h r hr (decide_eq_true hq)
  · intro h
    refine ⟨by omega, ?_⟩
    rw [Bool.not_eq_true', List.any_eq_false]
    intro r hr hq
    exact h r hr (of_decide_eq_true hq)
theorem rbA_w {j : Nat} (hj : 20 ≤ j) {m : Int} {rs : List Rw} (t : Tel m rs) (hne : solsL m rs ≠ []) {s : List Int} (hsm : s ∈ regs m) (st : Store) : RW (callN (tab L) j i_region_bounds [telD m rs, sD s] st) (fun v _ => ∃ lo hi, v = .tup [.int lo, intO hi] ∧ RbSem m rs s lo hi) NoX := by
  obtain ⟨j, rfl⟩ : ∃ i, j = i + 1 := ⟨j - 1, by omega⟩
  obtain ⟨i, hs, hp, hil⟩ := plc_get t.hm hsm
  rw [c_region_bounds]
  refine run_w rfl ?_
  show SW _ b_region_bounds [some (telD m rs), some (sD s), none, none, none, none, none] st _
  walk_at "go"
  refine RW.of (need_c (by omega) st t) ?_
  walk_at "go"
  refine RW.of (needS_c (by omega) st _ hsm) ?_
  walk_at "go"
  obtain ⟨st1, e1, x1⟩ := ll_c (j := j) (by omega) st t
  refine RW.of e1 ?_
  walk_at "go"
  rw [optD_non, sols_head]
  refine ⟨fun h => ?_, fun h => ?_⟩
  · exfalso
    cases hs : solsL m rs with
    | nil => exact hne hs
    | cons a l => rw [hs] at h; cases h
  walk_at "go"
  refine RW.of (reg_c (by omega) st1 t.hm) ?_
  walk_at "go"
  refine EW.me ?_
  walk_at "go"
  refine ⟨rfl, ?_⟩
  walk_at "go"
  refine RW.prim (idx_regs t.hm hs st1) ?_
  walk_at "go"
  refine RW.of (free_c (by omega) st1 t) ?_
  refine RW.oB (show pCmp .isin (.int (i : Int)) (.lst (iD (freeL m rs))) st1 = some (decide ((i : Int) ∈ freeL m rs)) from by simp only [pCmp, in_cols]) ?_
  refine ⟨_, rfl, fun hf => ?_, fun hf => ?_⟩
  · walk_at "go"
    have hf := (free_plc t.hm hs).mp (of_decide_eq_true hf)
    exact ⟨0, none, rfl, rb_free t.hm hs hne hf⟩
  have hf := fun z => of_decide_eq_false hf ((free_plc t.hm hs).mpr z)
  walk_at "go"
  refine RW.of (rowsM_c (by omega) st1 t) ?_
  walk_at "go"
  refine nums_lc (rowsM m rs) (fun r => by simp [lcBody, asgT, asgTs, wipeE, rD]) ?_
  have hrl : (rowsM m rs).length = rs.length := by simp [rowsM]
  have htl := t.hl
  refine RW.prim (ndL _ _ (by rw [iD_len, nums_len, hrl]; unfold maxLen; omega)) ?_
  walk_at "go"
  have h8 := regs_len t.hm
  have hlD : (((regs m).map sD).length : Int) = ((regs m).length : Nat) := by simp
  rw [hlD]
  have ok : RowsOk (rowsM m rs) ((regs m).length : Nat) := rowsOk_of t.hs t.hl
  refine RW.mono (fil_w (here := (i : Int)) ok st1.length (regs m).length j 0 (nums (rowsM m rs)) [] (st1 ++ [.dct []]) (by omega) (by omega) (by omega) (by omega) (nums_len _) (fun l hl => by have := nums_lt t l hl; omega) (get_new _ _) (fun q hq => by cases hq) (by
    have := cost_any t
    rw [List.length_nil, Nat.zero_add]
    unfold maxLen
    omega)) ?_ fun _ _ h => h.elim
  intro d s2 h
  have hmm := h.mm
  rw [sols_rowsM] at hmm
  obtain ⟨lo, hi, rfl, hR⟩ := rb_sem t.hm hs hne hf hmm
  exact ⟨lo, some hi, rfl, hR⟩
/-! ### other names -/
theorem sol_ren {m : Int} {rs : List Rw} {a : List Int} (hm : 1 ≤ m ∧ m ≤ 3) (hs : ∀ r ∈ rs, r.1 ∈ regs m) (ha : a ∈ permsN m) {x : Int → Int} (h : Sol m rs x) : Sol m (renL a rs) fun i => x (backI m a i) := by
  refine ⟨fun q => h.1 _, fun r hr => ?_⟩
  have hr := (isortW_perm _).mem_iff.mp hr
  obtain ⟨q, hq, rfl⟩ := List.mem_map.mp hr
  show cnt m (callL q.1 a) _ = q.2
  rw [cnt_back hm x a ha q.1 (hs q hq)]
  exact h.2 q hq
theorem ren_sol {m : Int} {rs : List Rw} {a : List Int} (hm : 1 ≤ m ∧ m ≤ 3) (hs : ∀ r ∈ rs, r.1 ∈ regs m) (ha : a ∈ permsN m) {y : Int → Int} (h : Sol m (renL a rs) y) : Sol m rs fun i => y (fwdI m a i) := by
  refine ⟨fun q => h.1 _, fun r hr => ?_⟩
  rw [cnt_fwd hm y a ha r.1 (hs r hr)]
  exact h.2 _ ((isortW_perm _).mem_iff.mpr (List.mem_map.mpr ⟨r, hr, rfl⟩))
theorem rb_ren {m : Int} {rs : List Rw} {a s : List Int} (hm : 1 ≤ m ∧ m ≤ 3) (hr : ∀ r ∈ rs, r.1 ∈ regs m) (ha : a ∈ permsN m) (hs : s ∈ regs m) {lo : Int} {hi : Option Int} (h : RbSem m rs s lo hi) : RbSem m (renL a rs) (callL s a) lo hi := by
  have to : ∀ v, (∃ x, Sol m rs x ∧ x (plc m s) = v) → ∃ x, Sol m (renL a rs) x ∧ x (plc m (callL s a)) = v := by
    rintro v ⟨x, hx, e⟩
    exact ⟨_, sol_ren hm hr ha hx, by show x (backI m a (plc m (callL s a))) = v; rw [plc_back hm ha hs]; exact e⟩
  refine ⟨to _ h.lo1, fun y hy => ?_, ?_, fun v e => to _ (h.hi1 v e), fun v e y hy => ?_⟩
  · have := h.lo2 _ (ren_sol hm hr ha hy)
    rwa [plc_fwd hm ha hs] at this
  · rw [h.hi0]
    constructor
    · intro g r hrr hq
      have hrr := (isortW_perm _).mem_iff.mp hrr
      obtain ⟨q, hq2, rfl⟩ := List.mem_map.mp hrr
      have hq : plc m (callL s a) ∈ cols m (callL q.1 a) := hq
      rw [plc_cols hm (callL_in hm ha hs) (callL_in hm ha (hr q hq2)), in_call hm ha hs (hr q hq2), ← plc_cols hm hs (hr q hq2)] at hq
      exact g q hq2 hq
    · intro g r hrr hq
      refine g (callL r.1 a, r.2) ((isortW_perm _).mem_iff.mpr (List.mem_map.mpr ⟨r, hrr, rfl⟩)) ?_
      show plc m (callL s a) ∈ cols m (callL r.1 a)
      rw [plc_cols hm (callL_in hm ha hs) (callL_in hm ha (hr r hrr)), in_call hm ha hs (hr r hrr), ← plc_cols hm hs (hr r hrr)]
      exact hq
  · have := h.hi2 v e _ (ren_sol hm hr ha hy)
    rwa [plc_fwd hm ha hs] at this
end Pg

set_option Elab.async false
set_option linter.all false
set_option maxRecDepth 100000
set_option maxHeartbeats 8000000
/-! Pure: the law of k18. -/
namespace Pg
open Mn
local macro_rules | `(tactic| walk_at "go") => `(tactic| repeat (first | refine EsW.cons ?_ | refine EW.var rfl ?_ | refine EsW.nil ?_ | refine EW.con ?_ | refine EW.call ?_ | refine EW.bin ?_ | refine EW.idx ?_ | refine EW.cmp ?_ | refine EW.bi ?_ | refine Exists.intro _ (And.intro rfl ?_) | refine SW.cons ?_ | refine SW.asgT ?_ | refine SW.ite ?_ | refine RW.oB (eq_i _ _ _) ?_ | refine RW.oB (ne_i _ _ _) ?_ | refine RW.oB (lt_i _ _ _) ?_ | refine RW.oB (le_i _ _ _) ?_ | refine RW.oB (gt_i _ _ _) ?_ | refine RW.oB (ge_i _ _ _) ?_ | refine RW.prim rfl ?_ | refine SW.nil ?_ | refine SW.ret ?_ | refine SW.expr ?_ | refine EW.glo ?_ | refine EW.bi2 ?_ | refine EW.not ?_ | refine EW.isN ?_ | refine EW.notN ?_ | refine EW.tup ?_ | refine EW.lst ?_ | refine EW.lstM ?_ | refine EW.dic ?_ | refine EW.sl ?_ | refine EoW.nil ?_ | refine EoW.one ?_ | refine SW.setI ?_ | refine EW.lc ?_ | refine WkW.one ?_ | refine WkW.rng ?_ | refine WkW.rng2 ?_ | refine WkW.enu ?_ | refine WkW.zip ?_ | refine Exists.intro _ (Exists.intro _ (And.intro rfl (And.intro rfl ?_))) | refine EW.or ?_ | refine EW.and ?_ | refine EtW.nil ?_ | refine EtW.one ?_ | refine EW.neg ?_ | refine EW.isi ?_ | refine EW.ite ?_ | refine SW.for_ ?_ | refine SW.retN ?_ | refine SW.raise ?_ | refine SW.par (by simp) (by simp) ?_ | refine EW.fnv ?_ | refine EW.callV ?_ | ((refine And.intro ?_ ?_); (focus ((with_reducible (show List.contains _ _ = true)); rfl))) | refine EW.chain ?_ | refine EW.chn ?_ | refine SW.pass ?_ | refine SW.brk ?_ | refine SW.cont ?_ | refine And.intro (by simp [maxLen] : _ ≤ maxLen) ?_))
theorem regs_len3 {m : Int} {s : List Int} (hs : s ∈ regs m) : s.length ≤ 1000 := by
  have := (setOk_len (m := m) hs).1
  omega
theorem tel_c (ns : List Int) {st : Store} {n : Nat} (T : Town st n) (hn : n < 300) : ∃ m rs heap st' n', callN (tab L) 39 i__law_telling [.scr ns, .ob 0, .int 2, .int 0] st = .ok (telD m rs) st' ∧ TelOut m rs heap 0 ∧ (∀ z ∈ heap, 0 ≤ z ∧ z < 2) ∧ Tw st st' n' ∧ n' ≤ n + 60 := by
  rw [c__law_telling 38]
  exact telling_okB (draw_c (by omega)) (by omega) (by omega) (fun m st h => lregs_c (by omega) st h) (fun m n st h T hn => by
    rw [c__law_lots 37]
    exact lots_ok (draw_c (by omega)) (by omega) T (by have := regs_len h; omega) (lregs_c (by omega) st h)) (fun m heap s st hs h => lcomT_c (by omega) st h heap s (regs_len3 hs)) T hn
theorem nam_c (ns : List Int) {m : Int} (hm : 1 ≤ m ∧ m ≤ 3) {st : Store} {n : Nat} (T : Town st n) (hn : n < 400) : ∃ a st', callN (tab L) 39 i__law_names [.scr ns, .ob 0, .int m] st = .ok (sD a) st' ∧ a ∈ permsN m ∧ Tw st st' (n + m.toNat) := by
  rw [c__law_names 38]
  exact names_ok (draw_c (by omega)) ns hm T hn
theorem ren_c {m : Int} {rs : List Rw} {a : List Int} (st : Store) (t : Tel m rs) (ha : a ∈ permsN m) : callN (tab L) 39 i_renamed [telD m rs, sD a] st = .ok (telD m (renL a rs)) st := by
  rw [c_renamed 38]
  exact renamed_ok t st (need_c (by omega) st t) (need_names_ok 36 st t.hm a ha) (called_ok 37 st t.hm a ha)
/-- few things: no count is above nine -/
theorem com_le8 {m : Int} (hm : 1 ≤ m ∧ m ≤ 3) {heap : List Int} (hl : heap.length = (regs m).length) (h : ∀ z ∈ heap, 0 ≤ z ∧ z < 2) (s : List Int) : 0 ≤ comL m heap s ∧ comL m heap s ≤ 8 := by
  rw [com_totL hl]
  have h8 := regs_len hm
  have : ∀ (x : List Int) (p : Int), (∀ z ∈ x, 0 ≤ z ∧ z < 2) → 0 ≤ totL x (cols m s) p ∧ totL x (cols m s) p ≤ x.length := by
    intro x
    induction x with
    | nil => intro p _; simp [totL]
    | cons z x ih =>
      intro p hz
      have h1 := hz z (by simp)
      have h2 := ih (p + 1) fun w hw => hz w (by simp [hw])
      unfold totL
      rw [List.length_cons]
      split <;> omega
  have := this heap 0 h
  omega
theorem tel_sat {m : Int} {rs : List Rw} {heap : List Int} (to : TelOut m rs heap 0) (h : ∀ z ∈ heap, 0 ≤ z ∧ z < 2) : Sol m rs (fx heap) := by
  refine ⟨fx_pos fun z hz => (h z hz).1, fun r hr => ?_⟩
  rw [cnt_com to.hl, to.com rfl r hr]
  have := com_le8 to.hm to.hl h r.1
  unfold min9
  split <;> omega
theorem ne_tup0 (s : List Int) (st : Store) : pCmp .ne (sD s) (.tup []) st = some (!decide (s = [])) := by
  have h := (cmp_tup (a := iD s) (b := []) ⟨isPs_ints s, by rw [show deps (iD s) = 0 from deps_ints s]; omega⟩ ⟨rfl, by simp [deps]⟩ st).2
  show pCmp .ne (.tup (iD s)) (.tup []) st = _
  rw [h]
  cases s <;> rfl
theorem eq_nilI (st : Store) (l : List Int) : pCmp .eq (.lst (iD l)) (.lst []) st = some (decide (l = [])) := by
  have h := (cmp_lst (a := iD l) (b := []) ⟨isPs_ints l, by rw [show deps (iD l) = 0 from deps_ints l]; omega⟩ ⟨rfl, by simp [deps]⟩ st).1
  rw [h]
  cases l <;> rfl
theorem nm_lc {C : Calls} {m : Int} (hm : 1 ≤ m ∧ m ≤ 3) (y0 y1 y2 y3 y4 y6 y7 y8 y9 y10 : Option Mn.D) (st : Store) : ∀ a ∈ permsN m, ∀ s ∈ regs m, lcLoop [] (lcBody C [15] (.name 15) .nil (.idx (.var 5) (.var 15)) [y0, y1, y2, y3, y4, some (sD a), y6, y7, y8, y9, y10, none, none, none, none, none]) (iD s) [] st = .ok (iD (s.map fun o => a.getD o.toNat 0)) st := by
  have : m = 1 ∨ m = 2 ∨ m = 3 := by omega
  intro a ha s hs
  rcases this with rfl | rfl | rfl
  · simp only [permsN, regs, List.mem_cons, List.not_mem_nil, or_false] at ha hs
    rcases ha with rfl <;> rcases hs with rfl | rfl <;> rfl
  · simp only [permsN, regs, List.mem_cons, List.not_mem_nil, or_false] at ha hs
    rcases ha with rfl | rfl <;> rcases hs with rfl | rfl | rfl | rfl <;> rfl
  · simp only [permsN, regs, List.mem_cons, List.not_mem_nil, or_false] at ha hs
    rcases ha with rfl | rfl | rfl | rfl | rfl | rfl <;> rcases hs with rfl | rfl | rfl | rfl | rfl | rfl | rfl | rfl <;> rfl
theorem nm_sort {m : Int} (hm : 1 ≤ m ∧ m ≤ 3) (st : Store) : ∀ a ∈ permsN m, ∀ s ∈ regs m, pBi .sorted [.lst (iD (s.map fun o => a.getD o.toNat 0))] st = .ok (.lst (iD (callL s a))) st := by
  have : m = 1 ∨ m = 2 ∨ m = 3 := by omega
  intro a ha s hs
  rcases this with rfl | rfl | rfl
  · simp only [permsN, regs, List.mem_cons, List.not_mem_nil, or_false] at ha hs
    rcases ha with rfl <;> rcases hs with rfl | rfl <;> kernel_rfl
  · simp only [permsN, regs, List.mem_cons, List.not_mem_nil, or_false] at ha hs
    rcases ha with rfl | rfl <;> rcases hs with rfl | rfl | rfl | rfl <;> kernel_rfl
  · simp only [permsN, regs, List.mem_cons, List.not_mem_nil, or_false] at ha hs
    rcases ha with rfl | rfl | rfl | rfl | rfl | rfl <;> rcases hs with rfl | rfl | rfl | rfl | rfl | rfl | rfl | rfl <;> kernel_rfl
theorem cnt_lc {C : Calls} (ks : List Rw) (sm : List Int) (y0 y1 y2 y3 y4 y5 y7 y8 y9 y10 : Option Mn.D) (st : Store) (r : Rw) (hr : r.1.length ≤ 1000) : lcBody C [13, 14] (.tup (.cons (.name 13) (.cons (.name 14) .nil))) (.cons (.cmp .eq (.lc false [15] (.name 15) (.cons (.var 13) .nil) (.cons (.cmp .notin (.var 15) (.var 6)) .nil) (.var 15)) (.lst false .nil)) .nil) (.var 14) [y0, y1, y2, y3, y4, y5, some (sD sm), y7, y8, y9, y10, none, none, none, none, none] (rowD r) st = .ok (if inB r.1 sm then some (.int r.2) else none) st := by
  have : RW (lcBody C [13, 14] (.tup (.cons (.name 13) (.cons (.name 14) .nil))) (.cons (.cmp .eq (.lc false [15] (.name 15) (.cons (.var 13) .nil) (.cons (.cmp .notin (.var 15) (.var 6)) .nil) (.var 15)) (.lst false .nil)) .nil) (.var 14) [y0, y1, y2, y3, y4, y5, some (sD sm), y7, y8, y9, y10, none, none, none, none, none] (rowD r) st) (fun o t => o = (if inB r.1 sm then some (.int r.2) else none) ∧ t = st) NoX := by
    refine lcB_of rfl ?_
    walk_at "go"
    refine lc_pure rfl Mn.D.int (fun z => if !decide (z ∈ sm) then some (.int z) else none) r.1 (fun z _ => ?_) ?_
    · have h1 := notin_ok st z sm
      generalize sD sm = S at *
      simp [lcBody, asgT, wipeE, h1]
      by_cases hz : z ∈ sm <;> simp [hz]
    rw [fm_if]
    have hl := List.length_filter_le (fun z => !decide (z ∈ sm)) r.1
    refine RW.prim (ndL _ _ (by rw [List.length_map]; unfold maxLen; omega)) ?_
    walk_at "go"
    refine RW.oB (show pCmp .eq (.lst ((r.1.filter fun z => !decide (z ∈ sm)).map Mn.D.int)) (.lst []) st = some (decide ((r.1.filter fun z => !decide (z ∈ sm)) = [])) from eq_nilI _ _) ?_
    refine ⟨_, rfl, fun h => ?_, fun h => ?_⟩
    · walk_at "go"
      rw [(filt_nil _ _).mp (of_decide_eq_true h)]
      exact ⟨rfl, rfl⟩
    · have : ¬ inB r.1 sm = true := fun g => of_decide_eq_false h ((filt_nil _ _).mpr g)
      rw [if_neg this]
      exact ⟨rfl, rfl⟩
  obtain ⟨a, t, e, rfl, rfl⟩ := this.ex
  exact e
theorem rb_none {m : Int} {ks : List Rw} {sm : List Int} {lo : Int} (hR : RbSem m ks sm lo none) : lo = 0 := by
  obtain ⟨x, hx, e⟩ := hR.lo1
  have h1 := hR.lo2 _ (trim_sol hx)
  rw [trim_zero (hR.hi0.mp rfl)] at h1
  have := hx.1 (plc m sm)
  omega
theorem rb_ord {m : Int} {ks : List Rw} {sm : List Int} {lo h : Int} (hR : RbSem m ks sm lo (some h)) : 0 ≤ lo ∧ lo ≤ h := by
  obtain ⟨x, hx, e⟩ := hR.lo1
  have h1 := hR.hi2 h rfl x hx
  have := hx.1 (plc m sm)
  omega
theorem rb_some {m : Int} {ks : List Rw} {sm : List Int} {lo h : Int} (t : Tel m ks) (hsm : sm ∈ regs m) (hR : RbSem m ks sm lo (some h)) {r : Rw} (hr : r ∈ ks) (hin : inB r.1 sm = true) : h ≤ r.2 := by
  obtain ⟨x, hx, e⟩ := hR.hi1 h rfl
  have hq := (plc_cols t.hm hsm (t.hs r hr)).mpr hin
  obtain ⟨i, _, hp, hil⟩ := plc_get t.hm hsm
  have := tot_ge hx.1 hq (regs m).length 0 (by omega) (by omega)
  have h2 := hx.2 r hr
  unfold cnt at h2
  omega
theorem cn_iff {m : Int} {ks : List Rw} {sm : List Int} {lo : Int} {hi : Option Int} (t : Tel m ks) (hsm : sm ∈ regs m) (hR : RbSem m ks sm lo hi) : ((ks.filter fun r => inB r.1 sm).map (·.2) = []) ↔ hi = none := by
  rw [hR.hi0, List.map_eq_nil_iff, List.filter_eq_nil_iff]
  constructor
  · intro h r hr hq
    exact h r hr ((plc_cols t.hm hsm (t.hs r hr)).mp hq)
  · intro h r hr hq
    exact h r hr ((plc_cols t.hm hsm (t.hs r hr)).mpr hq)
theorem whole_in {m : Int} (hm : 1 ≤ m ∧ m ≤ 3) : rgI 0 m.toNat ∈ regs m := by
  have : m = 1 ∨ m = 2 ∨ m = 3 := by omega
  rcases this with rfl | rfl | rfl <;> decide
theorem whole_cols {m : Int} (hm : 1 ≤ m ∧ m ≤ 3) : cols m (rgI 0 m.toNat) = [plc m (rgI 0 m.toNat)] := by
  have : m = 1 ∨ m = 2 ∨ m = 3 := by omega
  rcases this with rfl | rfl | rfl <;> decide
theorem tot_one {x : Int → Int} {q : Int} : ∀ (n : Nat) (p : Int), tot x [q] n p = if p ≤ q ∧ q < p + n then x q else 0
  | 0, p => by simp [tot]; omega
  | n + 1, p => by
    unfold tot
    rw [tot_one n (p + 1)]
    by_cases h : p = q
    · subst h
      rw [if_pos (by simp), if_neg (by omega), if_pos (by omega)]
      omega
    · rw [if_neg (by simpa using h)]
      by_cases h2 : p + 1 ≤ q ∧ q < p + 1 + n
      · rw [if_pos h2, if_pos (by omega)]; omega
      · rw [if_neg h2, if_neg (by omega)]; omega
theorem whole_cnt {m : Int} (hm : 1 ≤ m ∧ m ≤ 3) (x : Int → Int) : cnt m (rgI 0 m.toNat) x = x (plc m (rgI 0 m.toNat)) := by
  unfold cnt
  rw [whole_cols hm, tot_one]
  obtain ⟨i, _, hp, hil⟩ := plc_get hm (whole_in hm)
  rw [if_pos (by omega)]
theorem bds_rb {m : Int} {rs : List Rw} {lo : Int} {hi : Option Int} (hm : 1 ≤ m ∧ m ≤ 3) (b : BdsSem m rs (rgI 0 m.toNat) lo hi) : RbSem m rs (rgI 0 m.toNat) lo hi := by
  have e := whole_cnt hm
  refine ⟨?_, fun x hx => ?_, ?_, fun h g => ?_, fun h g x hx => ?_⟩
  · obtain ⟨x, hx, g⟩ := b.lo1
    exact ⟨x, hx, by have := e x; omega⟩
  · have := e x; have := b.lo2 x hx; omega
  · rw [b.hi0, whole_cols hm]
    simp
  · obtain ⟨x, hx, g⟩ := b.hi1 h g
    exact ⟨x, hx, by have := e x; omega⟩
  · have := e x; have := b.hi2 h g x hx; omega
theorem bd_same (lo : Int) (hi : Option Int) (st : Store) : pCmp .eq (.tup [.int lo, intO hi]) (.tup [.int lo, intO hi]) st = some true ∧ pCmp .ne (.tup [.int lo, intO hi]) (.tup [.int lo, intO hi]) st = some false := by
  refine eq_same (tup_ok ?_ ?_) (fun _ => ?_) (fun _ h => by cases h) st
  · cases hi <;> rfl
  · cases hi <;> simp [deps, Mn.D.dep, intO]
  · rfl
theorem law_run (ns : List Int) : RW (runDf (callN (tab L) 39) d_law [.scr ns] []) (fun d _ => d = .bl true) NoX := by
  refine run_w rfl ?_
  show SW _ b_law [some (.scr ns), none, none, none, none, none, none, none, none, none, none, none, none, none, none, none] [] _
  have D := draw_c (j := 39) (by omega)
  walk_at "go"
  have T0 : Town ([] ++ [Ob.lst []]) 0 := ⟨[], rfl, rfl⟩
  generalize ([] ++ [Ob.lst []] : Store) = st0 at *
  obtain ⟨m, rs, heap, st1, n1, e1, to, hheap, w1, hn1⟩ := tel_c ns T0 (by omega)
  refine RW.of e1 ?_
  walk_at "go"
  have t0 := to.tel
  have hrl : rs.length ≤ 8 := by
    have := to.sub.length_le
    have := regs_len to.hm
    rw [List.length_map] at *
    omega
  refine lc_w (I := fun i acc s => ∃ ks : List Rw, acc = ks.map rowD ∧ ks.Sublist (rs.take i) ∧ ∃ n', Tw st1 s n' ∧ n' ≤ n1 + i) (fun _ _ _ _ => rfl) _ 0 [] _ ⟨[], rfl, by simp, n1, Tw.refl w1.t, by omega⟩ ?_ ?_
  · rintro i x acc s hx ⟨ks, rfl, hk, n', w, hn'⟩
    rw [Nat.zero_add] at *
    have hx : (rs.map rowD)[i]? = some x := hx
    rw [List.getElem?_map] at hx
    cases hr : rs[i]? with
    | none => rw [hr] at hx; cases hx
    | some r =>
      rw [hr] at hx
      cases hx
      have hi := (List.getElem?_eq_some_iff.mp hr).1
      have htk : rs.take (i + 1) = rs.take i ++ [r] := by rw [List.take_add_one, hr]; rfl
      have hadd : (ks ++ [r]).Sublist (rs.take (i + 1)) := by rw [htk]; exact hk.append (List.Sublist.refl _)
      have hskip : ks.Sublist (rs.take (i + 1)) := by rw [htk]; exact hk.trans (List.sublist_append_left _ _)
      refine lcB_of rfl ?_
      walk_at "go"
      refine RW.oB (ne_tup0 r.1 s) ?_
      refine ⟨_, rfl, fun h => ?_, fun h => ?_⟩
      · refine ⟨_, rfl, fun _ => ?_, fun h => (by cases h)⟩
        walk_at "go"
        exact ⟨ks ++ [r], by rw [List.map_append]; rfl, hadd, n', w, by omega⟩
      · walk_at "go"
        obtain ⟨v, s2, hv, e2, w2, l2⟩ := D ns (many := 2) (by omega) w.t (by omega)
        refine RW.of e2 ?_
        walk_at "go"
        refine ⟨fun _ => ?_, fun _ => ?_⟩
        · walk_at "go"
          exact ⟨ks ++ [r], by rw [List.map_append]; rfl, hadd, n' + 1, w.trans w2, by omega⟩
        · exact ⟨ks, rfl, hskip, n' + 1, w.trans w2, by omega⟩
  · rintro acc s ⟨ks, rfl, hk, n', w, hn'⟩
    rw [Nat.zero_add, show (rs.map rowD).length = rs.length from List.length_map _, List.take_length] at hk
    rw [Nat.zero_add, show (rs.map rowD).length = rs.length from List.length_map _] at hn'
    have hkl : ks.length ≤ 8 := Nat.le_trans hk.length_le hrl
    have hks : (ks.map (·.1)).Sublist (regs m) := (hk.map _).trans to.sub
    have t : Tel m ks := tel_sub to.hm hks fun r hr => to.hn r (hk.subset hr)
    have hsol : Sol m ks (fx heap) := ⟨(tel_sat to hheap).1, fun r hr => (tel_sat to hheap).2 r (hk.subset hr)⟩
    have hsat : Sat m ks := ⟨_, hsol⟩
    have hne := sols_sat.mp hsat
    have hpw : (ks.map (·.1)).Pairwise fun a b => lts (iD a) (iD b) = true := (regs_pw to.hm).sublist hks
    refine RW.prim (ndL _ _ (by rw [List.length_map]; unfold maxLen; omega)) ?_
    walk_at "go"
    refine RW.prim (show pBi .tuple [.lst (ks.map rowD)] s = .ok (.tup (ks.map rowD)) s from by
      show newT (ks.map rowD) s = _
      exact ndT _ _ (by rw [List.length_map]; unfold maxLen; omega)) ?_
    walk_at "go"
    obtain ⟨st2, e2, x2⟩ := can_c (j := 39) (by omega) s t
    refine RW.of e2 ?_
    walk_at "go"
    refine ⟨fun h => ?_, fun _ => ?_⟩
    · rw [(llL_sat m ks).mpr hsat] at h; cases h
    walk_at "go"
    obtain ⟨a, st3, e3, ha, w3⟩ := nam_c ns to.hm (Tw.ex w.t x2).t (by omega)
    refine RW.of e3 ?_
    walk_at "go"
    refine RW.of (lregs_c (by omega) st3 to.hm) ?_
    walk_at "go"
    refine for_w (I := fun i e s => ∃ x6 x7 x8 x9 x10, e = [some (.scr ns), some (.ob 0), some (telD m ks), some (.int m), some (.tup (ks.map rowD)), some (sD a), x6, x7, x8, x9, x10, none, none, none, none, none]) (fun _ _ _ _ => rfl) _ 0 _ _ ⟨_, _, _, _, _, rfl⟩ ?_ ?_
    · rintro i y e s hy ⟨x6, x7, x8, x9, x10, rfl⟩
      have hy : ((regs m).map sD)[i]? = some y := hy
      rw [List.getElem?_map] at hy
      cases hq : (regs m)[i]? with
      | none => rw [hq] at hy; cases hy
      | some sm =>
        rw [hq] at hy
        cases hy
        have hsm : sm ∈ regs m := List.mem_of_getElem? hq
        refine fb_of rfl ?_
        walk_at "go"
        refine RW.mono (rbA_w (j := 39) (by omega) t hne hsm s) ?_ fun _ _ h => h.elim
        rintro v s1 ⟨lo, hi, rfl, hR⟩
        walk_at "go"
        refine lc_pure rfl rowD (fun r => if inB r.1 sm then some (.int r.2) else none) _ (fun r hr => ?_) ?_
        · exact cnt_lc ks sm _ _ _ _ _ _ _ _ _ _ s1 r (regs_len3 (t.hs r hr))
        rw [fm_if]
        have hcl : ((ks.filter fun r => inB r.1 sm).map fun r => Mn.D.int r.2) = iD ((ks.filter fun r => inB r.1 sm).map (·.2)) := by unfold iD; rw [List.map_map]; rfl
        have hfl := List.length_filter_le (fun r : Rw => inB r.1 sm) ks
        rw [hcl]
        refine RW.prim (ndL _ _ (by rw [iD_len, List.length_map]; unfold maxLen; omega)) ?_
        walk_at "go"
        have hcn := cn_iff t hsm hR
        have hmem : ∀ v ∈ (ks.filter fun r => inB r.1 sm).map (·.2), ∀ h, hi = some h → h ≤ v := by
          intro v hv h eh
          subst eh
          obtain ⟨r, hr, rfl⟩ := List.mem_map.mp hv
          have hr := List.mem_filter.mp hr
          exact rb_some t hsm hR hr.1 hr.2
        generalize (ks.filter fun r => inB r.1 sm).map (·.2) = cn at *
        have rest : ∀ (Q : Po) (s2 : Store), (∀ e s, (∃ x6 x7 x8 x9 x10, e = [some (.scr ns), some (.ob 0), some (telD m ks), some (.int m), some (.tup (ks.map rowD)), some (sD a), x6, x7, x8, x9, x10, none, none, none, none, none]) → Q.nx e s) → SW (callN (tab L) 39) (.cons (.asg (.name 10) (.call i_region_bounds (.cons (.call i_renamed (.cons (.var 2) (.cons (.var 5) .nil))) (.cons (.bi .tuple (.cons (.bi .sorted (.cons (.lc false [15] (.name 15) (.cons (.var 6) .nil) .nil (.idx (.var 5) (.var 15))) .nil)) .nil)) .nil))))
    (.cons (.ite (.cmp .ne (.var 10) (.tup (.cons (.var 7) (.cons (.var 8) .nil)))) (.cons (.ret (.con (.bl false)))
    .nil) .nil)
    .nil)) [some (.scr ns), some (.ob 0), some (telD m ks), some (.int m), some (.tup (ks.map rowD)), some (sD a), some (sD sm), some (.int lo), some (intO hi), some (.lst (iD cn)), x10, none, none, none, none, none] s2 Q := by
          intro Q s2 hQ
          walk_at "go"
          refine RW.of (ren_c s2 t ha) ?_
          walk_at "go"
          refine RW.of (nm_lc to.hm _ _ _ _ _ _ _ _ _ _ s2 a ha sm hsm) ?_
          refine RW.prim (ndL _ _ (by rw [iD_len, List.length_map]; unfold maxLen; have := regs_len3 hsm; omega)) ?_
          walk_at "go"
          refine RW.prim (nm_sort to.hm s2 a ha sm hsm) ?_
          walk_at "go"
          have hcin := callL_in to.hm ha hsm
          refine RW.prim (show pBi .tuple [.lst (iD (callL sm a))] s2 = .ok (sD (callL sm a)) s2 from ndT _ _ (by rw [iD_len]; unfold maxLen; have := regs_len3 hcin; omega)) ?_
          walk_at "go"
          have hren := rb_ren to.hm t.hs ha hsm hR
          have tr := (ren_tel t hpw ha).1
          have hner : solsL m (renL a ks) ≠ [] := sols_sat.mp ⟨_, sol_ren to.hm t.hs ha hsol⟩
          refine RW.mono (rbA_w (j := 39) (by omega) tr hner hcin s2) ?_ fun _ _ h => h.elim
          rintro v s3 ⟨lo2, hi2, rfl, hR2⟩
          obtain ⟨e1, e2⟩ := hR2.uni hren
          subst e1
          subst e2
          walk_at "go"
          refine RW.oB (bd_same lo2 hi2 s3).2 ?_
          refine ⟨_, rfl, fun h => (by cases h), fun _ => ?_⟩
          walk_at "go"
          exact hQ _ _ ⟨_, _, _, _, _, rfl⟩
        refine RW.oB (eq_nilI _ _) ?_
        cases hi with
        | none =>
          have hc0 := hcn.mpr rfl
          have hl0 := rb_none hR
          subst hc0
          subst hl0
          walk_at "go"
          refine ⟨fun h => (Bool.false_ne_true h).elim, fun _ => ?_⟩
          walk_at "go"
          refine ⟨fun _ => ?_, fun h => (Bool.false_ne_true h.symm).elim⟩
          walk_at "go"
          refine ⟨fun h => (Bool.false_ne_true h).elim, fun _ => ?_⟩
          walk_at "go"
          refine ⟨fun h => (Bool.false_ne_true h).elim, fun _ => ?_⟩
          refine ⟨_, rfl, fun h => (Bool.false_ne_true h).elim, fun _ => ?_⟩
          refine SW.nil ?_
          exact rest _ s1 fun e s h => h
        | some h =>
          have hc0 : ¬ cn = [] := fun e => by have := hcn.mp e; cases this
          rw [decide_eq_false hc0]
          walk_at "go"
          refine ⟨fun h => (Bool.false_ne_true h).elim, fun _ => ?_⟩
          walk_at "go"
          refine ⟨fun h => (Bool.false_ne_true h).elim, fun _ => ?_⟩
          walk_at "go"
          refine ⟨fun h => (Bool.false_ne_true h).elim, fun _ => ?_⟩
          walk_at "go"
          refine ⟨fun _ => ?_, fun h => (Bool.false_ne_true h.symm).elim⟩
          walk_at "go"
          have ho := rb_ord hR
          refine ⟨fun _ => ?_, fun hh => absurd ho.1 (of_decide_eq_false hh)⟩
          walk_at "go"
          refine ⟨fun _ => ?_, fun hh => absurd ho.2 (of_decide_eq_false hh)⟩
          walk_at "go"
          obtain ⟨c, cs, rfl⟩ : ∃ c cs, cn = c :: cs := by
            cases cn with
            | nil => exact absurd rfl hc0
            | cons c cs => exact ⟨c, cs, rfl⟩
          have hmin : h ≤ minI c cs := by
            rcases (minI_lo cs c).1 with e | e
            · rw [e]; exact hmem c (by simp) h rfl
            · exact hmem _ (by simp [e]) h rfl
          refine RW.prim (min_i c cs s1) ?_
          walk_at "go"
          refine ⟨fun hh => absurd hmin (by simpa using hh), fun _ => ?_⟩
          refine SW.nil ?_
          exact rest _ s1 fun e s h => h
    · rintro e s ⟨x6, x7, x8, x9, x10, rfl⟩
      walk_at "go"
      refine RW.prim (show pBi .trng [.int m] s = .ok (sD (rgI 0 m.toNat)) s from by
        have : m = 1 ∨ m = 2 ∨ m = 3 := by have := to.hm; omega
        rcases this with rfl | rfl | rfl <;> rfl) ?_
      walk_at "go"
      refine RW.mono (rbA_w (j := 39) (by omega) t hne (whole_in to.hm) s) ?_ fun _ _ h => h.elim
      rintro v s1 ⟨lo, hi, rfl, hR⟩
      walk_at "go"
      obtain ⟨lo2, hi2, s2, e2, _, hB⟩ := bounds_c (j := 39) (by omega) t (by omega) (whole_in to.hm) hsat s1
      refine RW.of e2 ?_
      obtain ⟨g1, g2⟩ := hR.uni (bds_rb to.hm hB)
      subst g1
      subst g2
      walk_at "go"
      exact RW.oB (bd_same lo hi s2).1 rfl
theorem law_true : ∀ ns : List Int, ns.length ≤ 63 → ∃ st, callN (tab L) 40 i_law [.scr ns] [] = .ok (.bl true) st := by
  intro ns _
  rw [c_law 39]
  obtain ⟨d, st, e, rfl⟩ := (law_run ns).ex
  exact ⟨st, e⟩
end Pg

set_option Elab.async false
set_option linter.all false
set_option maxRecDepth 100000
set_option maxHeartbeats 0
/-! Law: the head, and the law. -/
namespace Pg
open PySem PySem.Spec PyProof.Rows L2 Mn
theorem bd_is_whole : BdOk f_is_whole := fun _ _ _ _ _ _ us hl => match us, hl with | [_, _, _], _ => rfl
theorem bd_are_sets : BdOk f_are_sets := fun _ _ _ _ _ _ us hl => match us, hl with | [_, _], _ => rfl
theorem bd_is_row : BdOk f_is_row := fun _ _ _ _ _ _ us hl => match us, hl with | [_, _], _ => rfl
theorem bd_is_telling : BdOk f_is_telling := fun _ _ _ _ _ _ us hl => match us, hl with | [_], _ => rfl
theorem bd_need_telling : BdOk f_need_telling := fun _ _ _ _ _ _ us hl => match us, hl with | [_], _ => rfl
theorem bd_need_sets : BdOk f_need_sets := fun _ _ _ _ _ _ us hl => match us, hl with | [_, _], _ => rfl
theorem bd_regions : BdOk f_regions := fun _ _ _ _ _ _ us hl => match us, hl with | [_], _ => rfl
theorem bd_is_within : BdOk f_is_within := fun _ _ _ _ _ _ us hl => match us, hl with | [_, _], _ => rfl
theorem bd_columns : BdOk f_columns := fun _ _ _ _ _ _ us hl => match us, hl with | [_, _], _ => rfl
theorem bd_rows_of : BdOk f_rows_of := fun _ _ _ _ _ _ us hl => match us, hl with | [_], _ => rfl
theorem bd_free_places : BdOk f_free_places := fun _ _ _ _ _ _ us hl => match us, hl with | [_], _ => rfl
theorem bd_most_at : BdOk f_most_at := fun _ _ _ _ _ _ us hl => match us, hl with | [_, _, _], _ => rfl
theorem bd_go_on : BdOk f_go_on := fun _ _ _ _ _ _ us hl => match us, hl with | [_, _, _, _], _ => rfl
theorem bd_is_dead : BdOk f_is_dead := fun _ _ _ _ _ _ us hl => match us, hl with | [_, _, _], _ => rfl
theorem bd_first_from : BdOk f_first_from := fun _ _ _ _ _ _ us hl => match us, hl with | [_, _, _, _, _], _ => rfl
theorem bd_least_lots : BdOk f_least_lots := fun _ _ _ _ _ _ us hl => match us, hl with | [_], _ => rfl
theorem bd_can : BdOk f_can := fun _ _ _ _ _ _ us hl => match us, hl with | [_], _ => rfl
theorem bd_with_row : BdOk f_with_row := fun _ _ _ _ _ _ us hl => match us, hl with | [_, _, _], _ => rfl
theorem bd_both_rows : BdOk f_both_rows := fun _ _ _ _ _ _ us hl => match us, hl with | [_, _, _], _ => rfl
theorem bd_top_of : BdOk f_top_of := fun _ _ _ _ _ _ us hl => match us, hl with | [_, _], _ => rfl
theorem bd_bounds : BdOk f_bounds := fun _ _ _ _ _ _ us hl => match us, hl with | [_, _], _ => rfl
theorem bd_filled_from : BdOk f_filled_from := fun _ _ _ _ _ _ us hl => match us, hl with | [_, _, _, _, _, _], _ => rfl
theorem bd_region_bounds : BdOk f_region_bounds := fun _ _ _ _ _ _ us hl => match us, hl with | [_, _], _ => rfl
theorem bd_need_names : BdOk f_need_names := fun _ _ _ _ _ _ us hl => match us, hl with | [_, _], _ => rfl
theorem bd_called : BdOk f_called := fun _ _ _ _ _ _ us hl => match us, hl with | [_, _], _ => rfl
theorem bd_renamed : BdOk f_renamed := fun _ _ _ _ _ _ us hl => match us, hl with | [_, _], _ => rfl
theorem bd__law_regions : BdOk f__law_regions := fun _ _ _ _ _ _ us hl => match us, hl with | [_], _ => rfl
theorem bd__law_common : BdOk f__law_common := fun _ _ _ _ _ _ us hl => match us, hl with | [_, _, _], _ => rfl
theorem bd__law_fit : BdOk f__law_fit := fun _ _ _ _ _ _ us hl => match us, hl with | [_, _], _ => rfl
theorem bd__law_cell_at : BdOk f__law_cell_at := fun _ _ _ _ _ _ us hl => match us, hl with | [_, _], _ => rfl
theorem bd__law_mixed : BdOk f__law_mixed := fun _ _ _ _ _ _ us hl => match us, hl with | [_, _, _], _ => rfl
theorem bd__law_draw : BdOk f__law_draw := fun _ _ _ _ _ _ us hl => match us, hl with | [_, _, _], _ => rfl
theorem bd__law_pick : BdOk f__law_pick := fun _ _ _ _ _ _ us hl => match us, hl with | [_, _, _], _ => rfl
theorem bd__law_lots : BdOk f__law_lots := fun _ _ _ _ _ _ us hl => match us, hl with | [_, _, _, _], _ => rfl
theorem bd__law_telling : BdOk f__law_telling := fun _ _ _ _ _ _ us hl => match us, hl with | [_, _, _, _], _ => rfl
theorem bd__law_names : BdOk f__law_names := fun _ _ _ _ _ _ us hl => match us, hl with | [_, _, _], _ => rfl
theorem bd_law : BdOk f_law := fun _ _ _ _ _ _ us hl => match us, hl with | [_], _ => rfl
theorem bd : ∀ f ∈ L, BdOk f := List.forall_mem_cons.mpr ⟨bd_is_whole, List.forall_mem_cons.mpr ⟨bd_are_sets, List.forall_mem_cons.mpr ⟨bd_is_row, List.forall_mem_cons.mpr ⟨bd_is_telling, List.forall_mem_cons.mpr ⟨bd_need_telling, List.forall_mem_cons.mpr ⟨bd_need_sets, List.forall_mem_cons.mpr ⟨bd_regions, List.forall_mem_cons.mpr ⟨bd_is_within, List.forall_mem_cons.mpr ⟨bd_columns, List.forall_mem_cons.mpr ⟨bd_rows_of, List.forall_mem_cons.mpr ⟨bd_free_places, List.forall_mem_cons.mpr ⟨bd_most_at, List.forall_mem_cons.mpr ⟨bd_go_on, List.forall_mem_cons.mpr ⟨bd_is_dead, List.forall_mem_cons.mpr ⟨bd_first_from, List.forall_mem_cons.mpr ⟨bd_least_lots, List.forall_mem_cons.mpr ⟨bd_can, List.forall_mem_cons.mpr ⟨bd_with_row, List.forall_mem_cons.mpr ⟨bd_both_rows, List.forall_mem_cons.mpr ⟨bd_top_of, List.forall_mem_cons.mpr ⟨bd_bounds, List.forall_mem_cons.mpr ⟨bd_filled_from, List.forall_mem_cons.mpr ⟨bd_region_bounds, List.forall_mem_cons.mpr ⟨bd_need_names, List.forall_mem_cons.mpr ⟨bd_called, List.forall_mem_cons.mpr ⟨bd_renamed, List.forall_mem_cons.mpr ⟨bd__law_regions, List.forall_mem_cons.mpr ⟨bd__law_common, List.forall_mem_cons.mpr ⟨bd__law_fit, List.forall_mem_cons.mpr ⟨bd__law_cell_at, List.forall_mem_cons.mpr ⟨bd__law_mixed, List.forall_mem_cons.mpr ⟨bd__law_draw, List.forall_mem_cons.mpr ⟨bd__law_pick, List.forall_mem_cons.mpr ⟨bd__law_lots, List.forall_mem_cons.mpr ⟨bd__law_telling, List.forall_mem_cons.mpr ⟨bd__law_names, List.forall_mem_cons.mpr ⟨bd_law, fun _ h => (nomatch h)⟩⟩⟩⟩⟩⟩⟩⟩⟩⟩⟩⟩⟩⟩⟩⟩⟩⟩⟩⟩⟩⟩⟩⟩⟩⟩⟩⟩⟩⟩⟩⟩⟩⟩⟩⟩⟩
theorem oks : (L.all fun f => chkF G f) = true := by decide +kernel
theorem okz : (G.hots.all fun i => match L[i]? with
      | some f => chkSs G { f.c with hot := true } f.df.body (defBody f.st)
      | none => false) = true := by decide +kernel
abbrev R : PySem.W.OpenRow := PySem.W.OpenLaw.row PySem.Challenge.rw_commonlots_k18_whole_regions_and_counts
def loose : List PySem.Str := (["LotError", "NoTelling", "NoSets", "Never", "NoNames", "SETS", "MOST", "is_whole", "are_sets", "is_row", "is_telling", "need_telling", "need_sets", "regions", "is_within", "columns", "rows_of", "free_places", "most_at", "go_on", "is_dead", "first_from", "least_lots", "can", "with_row", "both_rows", "top_of", "bounds", "filled_from", "region_bounds"] : List PySem.Str) ++ (["need_names", "called", "renamed", "_law_regions", "_law_common", "_law_fit", "_law_cell_at", "_law_mixed", "_law_draw", "_law_pick", "_law_lots", "_law_telling", "_law_names"] : List PySem.Str)
abbrev hk : PySem.W.Hook := hookX 4 (faOf L G) (dfOf L) (excB G)
def ob (s : PySem.W.SharedT) : Bool × He.AlD := obsX 4 (faOf L G) (dfOf L) (excB G) (HandSHeadRun.getT s)
theorem ob_eq (s : PySem.W.SharedT) : ob s = hk.obs s.abs := obsX_eq (HandSHeadRun.getT_eq s)
theorem run (w : World) : HandSHeadRun.RunEq R (PySem.W.view R.prog [49]) hk ob 40000 loose w := by
  intro os
  kernel_rfl
end Pg
open PySem PySem.W PySem.Calls PyProof.Rows
theorem PySem.Challenge.cw_commonlots_k18_whole_regions_and_counts_holds : PySem.Challenge.rw_commonlots_k18_whole_regions_and_counts.Holds := by
  w_on; o_law
  refine HandSHeadRun.head_any (r := OpenLaw.row PySem.Challenge.rw_commonlots_k18_whole_regions_and_counts) (q := view (OpenLaw.row PySem.Challenge.rw_commonlots_k18_whole_regions_and_counts).prog [49]) (H := Pg.hk) (ob := Pg.ob) (M := 40000) (loose := Pg.loose) (d := HandSHeadRun.topDef (OpenLaw.row PySem.Challenge.rw_commonlots_k18_whole_regions_and_counts).prog 49) (kwd := []) Pg.ob_eq
    (by kernel_rfl) (fun s => by kernel_rfl) Pg.run (by kernel_rfl) (by kernel_rfl) (by kernel_rfl) (by rfl) (by first | assumption | decide +kernel) (by decide +kernel) ⟨rfl, rfl, rfl, rfl, rfl, by decide +kernel⟩ ?hw ?hc
  case hw => w_witness2
  case hc =>
    refine L2.walk_ofE (l := PySem.Challenge.rw_commonlots_k18_whole_regions_and_counts) (n := 63) (k := 40) (x := "script") (CX := Mn.CXw (PySem.Challenge.rw_commonlots_k18_whole_regions_and_counts).prog) rfl (by decide) (by kernel_rfl) ⟨rfl, by decide, by decide⟩ ?F (fun H s e s' => Mn.CXw.no H s e s')
    intro w mg fa h Y N hmg0
    obtain ⟨K, KX, c, cx⟩ := Y
    have hmg : mg ("law" : PySem.Str) = some (.ref fa) := by
      have e : (HandSHeadRun.topDef (OpenLaw.row PySem.Challenge.rw_commonlots_k18_whole_regions_and_counts).prog 49).name = ("law" : PySem.Str) := by kernel_rfl
      rw [← e]
      exact hmg0
    exact Mn.law_facts (k := 40) (i := 36) (f := Pg.f_law) KX N c rfl Pg.bd (by decide +kernel) (by decide +kernel) (fun f hf => List.all_eq_true.mp Pg.oks f hf) Pg.okz cx PySem.F.excBase_ValueError rfl rfl hmg Pg.law_true
