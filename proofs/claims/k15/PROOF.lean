import PyProof.Rows.All
import Wide.All
import OpenK.AllK
import Wide.FinOn
import HandS.ForMost
import HandS.Exc
import HandS.WordsExc
import HandS.Wide
import HandS.Flow
import HandS.Deep
import HandS.DictTup
import HandS.DictComp
import HandS.TryMany
import HandS.TupAny
import HandS.FStr
import HandS.StrMore
import HandS.Property
import HandS.OwnEq
import HandS.Conv
import HandS.IsInst
import HandS.Style
import HandS.RaiseMore
import HandS.CallSlots
import HandS.TryOnly
import KE.SortData
import KE.KDictPairs
import HandS.Star
import HandS.Small
import HandS.Head0
import HandS.Head1
import HandS.Head2
import HandS.HeadHook1
import HandS.HeadHook2
import HandS.HeadNt
import HandS.Ends
import HandS.HeadEnd
import KE.KStateDown
import PySem.Challenge.RW_meetrings_k15_texts_there_and_back
set_option Elab.async false
set_option linter.all false
set_option maxRecDepth 100000
set_option maxHeartbeats 0
/-! Data, the small language, its meaning: plain Lean. -/
namespace Mr

/-- a text by its code points -/
abbrev Tx := List Nat
/-- a key of a dict -/
abbrev Ky := Sum Int Tx

inductive D where
  | non
  | bl (b : Bool)
  | int (i : Int)
  | str (x : Tx)
  | tup (l : List D)
  | lst (l : List D)
  | dk (ks : List Ky) (vs : List D)
  | dt (ks : List (List Ky)) (vs : List D)
  | obj (c : Nat) (fs : List Nat) (vs : List D)
  deriving Repr, Inhabited

/-- what a slot holds: nothing known, a datum that stays, or a thing of our own that may be changed -/
inductive Sl where
  | no
  | val (d : D)
  | own (d : D)
  deriving Repr, Inhabited
abbrev Rho := List Sl

def Sl.dat : Sl → Option D
  | .no => none
  | .val d => some d
  | .own d => some d

inductive R (α : Type) where
  | ok (a : α)
  | exc (c : Nat) (fs : List Nat) (vs : List D)
  | stk
  deriving Repr
def R.bind {α β : Type} (r : R α) (f : α → R β) : R β := match r with
  | .ok a => f a
  | .exc c fs vs => .exc c fs vs
  | .stk => .stk
def R.of {α : Type} : Option α → R α
  | some a => .ok a
  | none => .stk

/-! ### equality and order of data -/
mutual
def eqD : D → D → Bool
  | .non, .non => true
  | .bl a, .bl b => a == b
  | .bl a, .int j => (if a then 1 else 0) == j
  | .int i, .bl b => i == (if b then 1 else 0)
  | .int i, .int j => i == j
  | .str x, .str y => x == y
  | .lst xs, .lst ys => eqDs xs ys
  | .tup xs, .tup ys => eqDs xs ys
  | _, _ => false
def eqDs : List D → List D → Bool
  | [], [] => true
  | x :: xs, y :: ys => eqD x y && eqDs xs ys
  | _, _ => false
end
/-! scalars, lists, tuples: nested at most n deep -/
mutual
def okD : Nat → D → Bool
  | _, .non => true
  | _, .bl _ => true
  | _, .int _ => true
  | _, .str _ => true
  | n + 1, .tup l => okDs n l
  | n + 1, .lst l => okDs n l
  | _, _ => false
def okDs : Nat → List D → Bool
  | _, [] => true
  | n, x :: xs => okD n x && okDs n xs
end

/-! ### the operations -/
inductive Pr where
  | add | sub | mul | fdiv | mod | pow | neg
  | eq | ne | lt | le | gt | ge | inn | nin | isN | ntN
  | idx | sl00 | sl01 | sl10 | sl11 | rev
  | len | sum | sorted | tuple | list | dict | dictT | int | str | abs | min | max | all
  | split | join | strip | fmt
  deriving Repr, DecidableEq

def ixN (n : Nat) (i : Int) : Option Nat := if 0 ≤ i then (if i < n then some i.toNat else none) else if -(n : Int) ≤ i then some (i + n).toNat else none
def atI {α : Type} (xs : List α) (i : Int) : Option α := (ixN xs.length i).bind fun j => xs[j]?
def sIx (n d : Nat) : Option Int → Nat
  | none => d
  | some v => if v < 0 then (v + n).toNat else min v.toNat n
def cut {α : Type} (xs : List α) (lo hi : Option Int) : List α := (xs.drop (sIx xs.length 0 lo)).take (sIx xs.length xs.length hi - sIx xs.length 0 lo)

/-- a key as a datum -/
def kyD : Ky → D
  | .inl i => .int i
  | .inr x => .str x
def dKy : D → Option Ky
  | .int i => some (.inl i)
  | .str x => some (.inr x)
  | _ => none
def dKys : List D → Option (List Ky)
  | [] => some []
  | d :: r => match dKy d, dKys r with
    | some k, some ks => some (k :: ks)
    | _, _ => none

section
variable {κ : Type} [DecidableEq κ]
def look : List κ → List D → κ → Option D
  | k :: ks, v :: vs, q => if k = q then some v else look ks vs q
  | _, _, _ => none
/-- a field is given a datum -/
def putO : List κ → List D → κ → D → List κ × List D
  | k :: ks, v :: vs, q, d => if k = q then (k :: ks, d :: vs) else let r := putO ks vs q d; (k :: r.1, v :: r.2)
  | _, _, q, d => ([q], [d])
/-- a key is given a datum -/
def put (ks : List κ) (vs : List D) (q : κ) (d : D) : List κ × List D := if q ∈ ks then (ks, List.zipWith (fun k v => if k = q then d else v) ks vs) else (ks ++ [q], vs ++ [d])
end

def big : Nat := 16777216
def truth : D → Option Bool
  | .non => some false
  | .bl b => some b
  | .int i => some (i != 0)
  | .str x => if x.length ≤ big then some (!x.isEmpty) else none
  | .tup l => some (!l.isEmpty)
  | .lst l => some (!l.isEmpty)
  | _ => none

def tok (d : D) : Sl := .val d
def ifB (b : Bool) (s : Sl) : Sl := if b then s else .no

def isScal : D → Bool
  | .non => true
  | .bl _ => true
  | .int _ => true
  | .str _ => true
  | _ => false

def lenD : D → Option Nat
  | .str x => some x.length
  | .tup l => some l.length
  | .lst l => some l.length
  | .dk ks _ => some ks.length
  | _ => none

/-- text before text -/
def ltT : Tx → Tx → Bool
  | [], [] => false
  | [], _ :: _ => true
  | _ :: _, [] => false
  | a :: r, b :: t => if a < b then true else if b < a then false else ltT r t

/-- one sign of a text found -/
def subT (p : Tx) : Tx → Bool
  | [] => p.isEmpty
  | a :: r => p.isPrefixOf (a :: r) || subT p r

def digits (n : Nat) : Tx := (Nat.toDigits 10 n).map Char.toNat
def intTx (i : Int) : Tx := if i < 0 then 45 :: digits i.natAbs else digits i.natAbs

def splitT (c : Nat) : Tx → Tx → List Tx
  | acc, [] => [acc.reverse]
  | acc, a :: r => if a = c then acc.reverse :: splitT c [] r else splitT c (a :: acc) r
def joinT (s : Tx) : List Tx → Tx
  | [] => []
  | [x] => x
  | x :: r => x ++ s ++ joinT s r
def boolsD : List D → Option (List Bool)
  | [] => some []
  | .bl x :: r => (boolsD r).map (x :: ·)
  | _ :: _ => none
def txs : List D → Option (List Tx)
  | [] => some []
  | .str x :: r => (txs r).map (x :: ·)
  | _ :: _ => none
def intsD : List D → Option (List Int)
  | [] => some []
  | .int x :: r => (intsD r).map (x :: ·)
  | _ :: _ => none

/-! the order of data of one shape -/
mutual
def cmpD : D → D → Option Ordering
  | .int i, .int j => some (if i < j then .lt else if j < i then .gt else .eq)
  | .str x, .str y => some (if ltT x y then .lt else if ltT y x then .gt else .eq)
  | .tup xs, .tup ys => cmpDs xs ys
  | _, _ => none
def cmpDs : List D → List D → Option Ordering
  | [], [] => some .eq
  | x :: xs, y :: ys => match cmpD x y with
    | some .eq => cmpDs xs ys
    | r => r
  | _, _ => none
end
/-! of one shape: ints, texts, tuples of these -/
mutual
def alk : D → D → Bool
  | .int _, .int _ => true
  | .str _, .str _ => true
  | .tup xs, .tup ys => alks xs ys
  | _, _ => false
def alks : List D → List D → Bool
  | [], [] => true
  | x :: xs, y :: ys => alk x y && alks xs ys
  | _, _ => false
end
def leD (x y : D) : Bool := match cmpD x y with
  | some .gt => false
  | _ => true
def notNil : D → Bool
  | .tup [] => false
  | _ => true
def allAlk (l : List D) : Bool := l.all fun x => l.all fun y => alk x y
def sortD (l : List D) : List D := l.mergeSort leD

def keyOf : D → Option (Sum Ky (List Ky))
  | .int i => some (.inl (.inl i))
  | .str x => some (.inl (.inr x))
  | .tup l => (dKys l).map .inr
  | _ => none
/-- pairs (key, value) -/
def pairsK : List D → Option (List Ky × List D)
  | [] => some ([], [])
  | .tup [k, v] :: r => match dKy k, pairsK r with
    | some k, some (ks, vs) => some (k :: ks, v :: vs)
    | _, _ => none
  | _ => none
def pairsT : List D → Option (List (List Ky) × List D)
  | [] => some ([], [])
  | .tup [.tup (k0 :: k), v] :: r => match dKys (k0 :: k), pairsT r with
    | some k, some (ks, vs) => some (k :: ks, v :: vs)
    | _, _ => none
  | _ => none
def merge {κ : Type} [DecidableEq κ] : List κ → List D → List κ → List D → List κ × List D
  | k :: ks, v :: vs, as, bs => let r := put as bs k v; merge ks vs r.1 r.2
  | _, _, as, bs => (as, bs)

def stripT (c x : Tx) : Tx :=
  let lo := (x.takeWhile c.contains).length
  (x.drop lo).take (x.length - ((x.drop lo).reverse.takeWhile c.contains).length - lo)
def isDig (n : Nat) : Bool := 48 ≤ n && n ≤ 57
def natOf (cs : Tx) : Nat := cs.foldl (fun acc c => acc * 10 + (c - 48)) 0
/-- int of a text of figures alone, perhaps with a minus -/
def intOf : Tx → Option Int
  | [] => none
  | 45 :: a :: r => if (a :: r).all isDig then some (-((natOf (a :: r) : Nat) : Int)) else none
  | a :: r => if (a :: r).all isDig then some ((natOf (a :: r) : Nat) : Int) else none

def addD : D → D → Sl
  | .int i, .int j => .val (.int (i + j))
  | .str x, .str y => ifB (x.length + y.length ≤ big) (.val (.str (x ++ y)))
  | .lst x, .lst y => ifB (x.length + y.length ≤ big) (.own (.lst (x ++ y)))
  | .tup x, .tup y => ifB (x.length + y.length ≤ big) (.val (.tup (x ++ y)))
  | _, _ => .no
def mulOk (i j : Int) : Bool := i.natAbs < 2 ^ 64 || j.natAbs < 2 ^ 64
def idxD : D → D → Option D
  | .lst l, .int i => atI l i
  | .tup l, .int i => atI l i
  | .str x, .int i => ifBo (x.length ≤ big) ((atI x i).map fun c => .str [c])
  | .dk ks vs, k => (dKy k).bind (look ks vs)
  | .dt ks vs, .tup (k :: r) => (dKys (k :: r)).bind (look ks vs)
  | _, _ => none
where ifBo (b : Bool) (o : Option D) : Option D := if b then o else none
def inD : D → D → Option Bool
  | d, .lst l => if okD 60 d && okDs 60 l then some (l.any fun y => eqD y d) else none
  | d, .tup l => if isScal d && l.all isScal then some (l.any fun y => eqD y d) else none
  | .str [p], .str x => some (x.contains p)
  | k, .dk ks vs => (dKy k).map fun k => (look ks vs k).isSome
  | .tup (k :: r), .dt ks vs => (dKys (k :: r)).map fun k => (look ks vs k).isSome
  | _, _ => none
def cutD (x : D) (lo hi : Option Int) : Sl := match x with
  | .lst l => .own (.lst (cut l lo hi))
  | .tup l => .val (.tup (cut l lo hi))
  | .str l => ifB (l.length ≤ big) (.val (.str (cut l lo hi)))
  | _ => .no
def oB : Option Bool → Sl
  | some b => .val (.bl b)
  | none => .no
def oV : Option D → Sl
  | some d => .val d
  | none => .no
def ordB (f : Int → Int → Bool) (h : Tx → Tx → Bool) : D → D → Sl
  | .int i, .int j => .val (.bl (f i j))
  | .str x, .str y => .val (.bl (h x y))
  | _, _ => .no
def minD (a b : D) : Sl := if alk a b && okD 60 a then (match cmpD a b with | some .gt => .val b | some _ => .val a | none => .no) else .no
def maxD (a b : D) : Sl := if alk a b && okD 60 a then (match cmpD a b with | some .lt => .val b | some _ => .val a | none => .no) else .no
def strD : D → Sl
  | .int i => ifB (i.natAbs < 2 ^ 1900) (.val (.str (intTx i)))
  | .str x => .val (.str x)
  | _ => .no

def pr : Pr → List D → Sl
  | .add, [a, b] => addD a b
  | .sub, [.int i, .int j] => .val (.int (i - j))
  | .mul, [.int i, .int j] => ifB (mulOk i j) (.val (.int (i * j)))
  | .fdiv, [.int i, .int j] => ifB (0 < j && j.natAbs < 2 ^ 9000) (.val (.int (i / j)))
  | .mod, [.int i, .int j] => ifB (0 < j) (.val (.int (i % j)))
  | .pow, [.int i, .int j] => ifB (0 ≤ j && j ≤ 1000000 && i.natAbs < 2 ^ 64) (.val (.int (i ^ j.toNat)))
  | .neg, [.int i] => .val (.int (-i))
  | .eq, [a, b] => ifB (okD 60 a && okD 60 b) (.val (.bl (eqD a b)))
  | .ne, [a, b] => ifB (okD 60 a && okD 60 b) (.val (.bl (!eqD a b)))
  | .lt, [a, b] => ordB (fun i j => decide (i < j)) (fun x y => ltT x y) a b
  | .le, [a, b] => ordB (fun i j => decide (i ≤ j)) (fun x y => !ltT y x) a b
  | .gt, [a, b] => ordB (fun i j => decide (j < i)) (fun x y => ltT y x) a b
  | .ge, [a, b] => ordB (fun i j => decide (j ≤ i)) (fun x y => !ltT x y) a b
  | .inn, [a, b] => oB (inD a b)
  | .nin, [a, b] => oB ((inD a b).map (!·))
  | .isN, [a] => .val (.bl (match a with | .non => true | _ => false))
  | .ntN, [a] => .val (.bl (match a with | .non => false | _ => true))
  | .idx, [a, b] => oV (idxD a b)
  | .sl00, [a] => cutD a none none
  | .sl01, [a, .int j] => cutD a none (some j)
  | .sl10, [a, .int i] => cutD a (some i) none
  | .sl11, [a, .int i, .int j] => cutD a (some i) (some j)
  | .rev, [.lst l] => .own (.lst l.reverse)
  | .len, [a] => match lenD a with | some n => ifB (n ≤ big) (.val (.int n)) | none => .no
  | .sum, [.lst l] => match intsD l with | some ns => .val (.int ns.sum) | none => .no
  | .sorted, [.lst l] => ifB (allAlk l && okDs 60 l && l.length ≤ big && l.all notNil) (.own (.lst (sortD l)))
  | .tuple, [.lst l] => .val (.tup l)
  | .tuple, [.tup l] => .val (.tup l)
  | .list, [.lst l] => .own (.lst l)
  | .list, [.tup l] => .own (.lst l)
  | .dict, [.lst l] => match pairsK l with
    | some (ks, vs) => let r := merge ks vs [] []; .own (.dk r.1 r.2)
    | none => .no
  | .dictT, [.lst l] => match pairsT l with
    | some (ks, vs) => let r := merge ks vs [] []; .own (.dt r.1 r.2)
    | none => .no
  | .int, [.int i] => .val (.int i)
  | .int, [.bl b] => .val (.int (if b then 1 else 0))
  | .int, [.str x] => ifB (x.length ≤ 640) (match intOf x with | some i => .val (.int i) | none => .no)
  | .str, [a] => strD a
  | .abs, [.int i] => .val (.int (if i < 0 then -i else i))
  | .min, [a, b] => minD a b
  | .max, [a, b] => maxD a b
  | .all, [.lst l] => match boolsD l with | some bs => .val (.bl (bs.all id)) | none => .no
  | .split, [.str x, .str [c]] => ifB (x.length + 2 ≤ big && c < 256) (.own (.lst ((splitT c [] x).map .str)))
  | .join, [.str s, .lst l] => match txs l with | some xs => ifB ((xs.map List.length).sum + xs.length * s.length ≤ big) (.val (.str (joinT s xs))) | none => .no
  | .strip, [.str x, .str c] => ifB (x.length ≤ big) (.val (.str (stripT c x)))
  | .fmt, l => match l.mapM (fun d => match strD d with | .val (.str x) => some x | _ => none) with | some xs => ifB (xs.flatten.length ≤ big) (.val (.str xs.flatten)) | none => .no
  | _, _ => .no
end Mr

namespace Mr

/-- what a loop or comprehension walks -/
inductive IK where
  | seq | rng1 | rng2 | enum | zip | keys | items
  deriving Repr, DecidableEq
/-- a target: one name, or several -/
inductive Tg where
  | one (i : Nat)
  | tup (is : List Nat)
  deriving Repr, DecidableEq

inductive E where
  | var (i : Nat)
  | cst (d : D)
  | gl (n : Nat) (d : D)
  | prim (p : Pr) (es : List E)
  | tup (es : List E)
  | lst (es : List E)
  | lstS (a : E) (es : List E)
  | newK | newT
  | bool (isAnd : Bool) (es : List E)
  | not (e : E)
  | ifx (c a b : E)
  | chain (p q : Pr) (a b c : E)
  | call (f : Nat) (ms : List (Option Nat)) (es : List E)
  | meth (m : Nat) (ms : List (Option Nat)) (o : E) (es : List E)
  | make (c : Nat) (es : List E)
  | attr (f : Nat) (e : E)
  | attrV (f : Nat) (i : Nat)
  | idxV (i : Nat) (b : E)
  | isi (c : Nat) (e : E)
  | eqO (ne : Bool) (a b : E)
  | lc (tg : Tg) (ik : IK) (ia : List E) (cs : List E) (elt : E) (w : List Nat)
  | dc (tk : Bool) (tg : Tg) (ik : IK) (ia : List E) (cs : List E) (k v : E) (w : List Nat)
  | bor (e : E)
  | borT (e : E)
  | tm (p : Pr) (a b : E)
  | fst (es : List E)
  deriving Repr, Inhabited

structure Tb where
  call : Nat → List Sl → R (Sl × List Sl)
  meth : Nat → Nat → Option Nat
  prop : Nat → Nat → Option Nat
  init : Nat → Option Nat
  eqm : Nat → Option Nat
  xf : Nat → Option (List Nat)
  fld : Nat → Nat → Bool

def Sl.fz : Sl → Sl
  | .own d => .val d
  | s => s
def fzAll (ρ : Rho) : Rho := ρ.map Sl.fz
/-- the slots named, forgotten -/
def forget (ρ : Rho) : List Nat → Rho
  | [] => ρ
  | i :: r => (forget ρ r).set i .no

def bindN : List Nat → List D → Rho → Option Rho
  | [], [], ρ => some ρ
  | i :: is, d :: ds, ρ => bindN is ds (ρ.set i (.val d))
  | _, _, _ => none
def bindT : Tg → D → Rho → Option Rho
  | .one i, d, ρ => some (ρ.set i (.val d))
  | .tup is, .tup ds, ρ => bindN is ds ρ
  | .tup is, .lst ds, ρ => bindN is ds ρ
  | _, _, _ => none

def enumD : Int → List D → List D
  | _, [] => []
  | k, d :: r => .tup [.int k, d] :: enumD (k + 1) r
def zipD : List D → List D → List D
  | a :: r, b :: t => .tup [a, b] :: zipD r t
  | _, _ => []
def rngD (lo : Int) : Nat → List D
  | 0 => []
  | n + 1 => .int lo :: rngD (lo + 1) n
def seqOf : D → Option (List D)
  | .lst l => some l
  | .tup l => some l
  | .str x => some (x.map fun c => .str [c])
  | _ => none
def iterD : IK → List D → Option (List D)
  | .seq, [d] => seqOf d
  | .rng1, [.int n] => if -(2 ^ 62) ≤ n ∧ n < 2 ^ 62 then some (rngD 0 n.toNat) else none
  | .rng2, [.int a, .int b] => if -(2 ^ 62) ≤ a ∧ a < 2 ^ 62 ∧ -(2 ^ 62) ≤ b ∧ b < 2 ^ 62 then some (rngD a (b - a).toNat) else none
  | .enum, [.lst l] => some (enumD 0 l)
  | .zip, [.lst a, .lst b] => some (zipD a b)
  | .keys, [.dk ks _] => some (ks.map kyD)
  | .items, [.dk ks vs] => some (zipD (ks.map kyD) vs)
  | .keys, [.dt ks _] => some (ks.map fun k => .tup (k.map kyD))
  | .items, [.dt ks vs] => some (zipD (ks.map fun k => .tup (k.map kyD)) vs)
  | _, _ => none

/-- the parameters' slots: a lent one, or the next datum -/
def argSl : List (Option Nat) → List D → Rho → Option (List Sl)
  | [], [], _ => some []
  | none :: ms, d :: ds, ρ => (argSl ms ds ρ).map (.val d :: ·)
  | some j :: ms, ds, ρ => match ρ[j]? with
    | some (.own d) => (argSl ms ds ρ).map (.own d :: ·)
    | _ => none
  | _, _, _ => none
/-- what is lent comes back -/
def backSl : List (Option Nat) → List Sl → Rho → Rho
  | some j :: ms, s :: ss, ρ => backSl ms ss (ρ.set j s)
  | none :: ms, _ :: ss, ρ => backSl ms ss ρ
  | _, _, ρ => ρ
def lentOk (ms : List (Option Nat)) : Bool := (ms.filterMap id).Nodup
def lookF : List Nat → List D → Nat → Option D := look
def clsOf : Sl → Option Nat
  | .val (.obj c _ _) => some c
  | .own (.obj c _ _) => some c
  | _ => none

/-- the result of a list comprehension's turns -/
def lcGo (step : D → Rho → R (Option D × Rho)) : List D → Rho → R (List D × Rho)
  | [], ρ => .ok ([], ρ)
  | d :: r, ρ => match step d ρ with
    | .ok (o, ρ1) => (lcGo step r ρ1).bind fun (l, ρ2) => .ok (match o with | some x => x :: l | none => l, ρ2)
    | _ => .stk
/-- back to the names outside the block -/
def unblk (ρ0 ρ : Rho) (w : List Nat) : Rho := ρ0.mapIdx fun i s => if w.contains i then s else (ρ[i]?).getD .no

def known (ρ : Rho) (i : Nat) : Bool := match ρ[i]? with
  | some (.val _) => true
  | some (.own _) => true
  | _ => false
def ownL (ρ : Rho) (i : Nat) : Bool := match ρ[i]? with
  | some (.own (.lst _)) => true
  | _ => false
def toD : R (Sl × Rho) → R (D × Rho)
  | .ok (.val d, ρ) => .ok (d, ρ)
  | .ok (.own d, ρ) => .ok (d, ρ)
  | .ok (.no, _) => .stk
  | .exc c fs vs => .exc c fs vs
  | .stk => .stk
def toT (r : R (Sl × Rho)) : R (Bool × Rho) := (toD r).bind fun (d, ρ) => match truth d with
  | some b => .ok (b, ρ)
  | none => .stk
def slR (s : Sl) (ρ : Rho) : R (Sl × Rho) := match s with
  | .no => .stk
  | s => .ok (s, ρ)
/-- an attribute: a field, or a property -/
def attrS (T : Tb) (f : Nat) (x : D) : Sl := match x with
  | .obj c fs vs => match lookF fs vs f with
    | some d => if T.fld c f then .val d else .no
    | none => match T.prop c f with
      | some h => match T.call h [.val (.obj c fs vs)] with
        | .ok (s, _) => s
        | _ => .no
      | none => .no
  | _ => .no
def callR (T : Tb) (f : Nat) (ms : List (Option Nat)) (as : List Sl) (ρ : Rho) : R (Sl × Rho) :=
  if lentOk ms then (T.call f as).bind fun (s, os) => .ok (s, backSl ms os ρ) else .stk
def makeR (T : Tb) (c : Nat) (ds : List D) (ρ : Rho) : R (Sl × Rho) := match T.init c with
  | some f => (T.call f (.own (.obj c [] []) :: ds.map .val)).bind fun (z, os) => match z, os with
    | .val .non, s :: _ => slR s ρ
    | _, _ => .stk
  | none => .stk
/-- == and != -/
def eqS (T : Tb) (ne : Bool) (x y : D) : Sl := match x with
  | .obj c _ _ => match y with
    | .obj c' _ _ => if c' = c ∧ ne = false then (match T.eqm c with
      | some f => match T.call f [.val x, .val y] with
        | .ok (.val (.bl t), _) => .val (.bl t)
        | _ => .no
      | none => .no) else .no
    | _ => .no
  | _ => pr (if ne then .ne else .eq) [x, y]
def isiS (T : Tb) (c : Nat) (x : D) : Sl := match x with
  | .obj c' _ _ => if c' = c ∧ (T.init c).isSome = true then .val (.bl true) else .no
  | _ => .no
/-- the method of an object -/
def methF (T : Tb) (m : Nat) (x : D) : Option Nat := match x with
  | .obj c fs vs => if (lookF fs vs m).isNone then T.meth c m else none
  | _ => none
/-- what is lent is there -/
def lentK (ms : List (Option Nat)) (ρ : Rho) : Bool := ms.all fun m => match m with
  | some j => known ρ j
  | none => true
def seqL : D → Option (List D)
  | .lst l => some l
  | .tup l => some l
  | _ => none
def dictR (tk : Bool) (l : List D) (ρ : Rho) : R (Sl × Rho) := if tk then (match pairsT l with
    | some (ks, vs) => if ks.length < big then (let r := merge ks vs [] []; .ok (.own (.dt r.1 r.2), ρ)) else .stk
    | none => .stk) else (match pairsK l with
    | some (ks, vs) => if ks.length < big then (let r := merge ks vs [] []; .ok (.own (.dk r.1 r.2), ρ)) else .stk
    | none => .stk)

mutual
def evalE (T : Tb) : E → Rho → R (Sl × Rho)
  | .var i, ρ => match ρ[i]? with
    | some (.val d) => .ok (.val d, ρ)
    | some (.own d) => .ok (.val d, ρ.set i (.val d))
    | _ => .stk
  | .cst d, ρ => .ok (.val d, ρ)
  | .gl _ d, ρ => .ok (.val d, ρ)
  | .prim p es, ρ => (evalDs T es ρ).bind fun (ds, ρ1) => slR (pr p ds) ρ1
  | .idxV i b, ρ => if known ρ i then (toD (evalE T b ρ)).bind fun (x, ρ1) => match ρ1[i]? with
      | some (.own d) => slR (oV (idxD d x)) ρ1
      | some (.val d) => slR (oV (idxD d x)) ρ1
      | _ => .stk
    else .stk
  | .tup es, ρ => (evalDs T es ρ).bind fun (ds, ρ1) => .ok (.val (.tup ds), ρ1)
  | .lst es, ρ => (evalDs T es ρ).bind fun (ds, ρ1) => .ok (.own (.lst ds), ρ1)
  | .lstS a es, ρ => (toD (evalE T a ρ)).bind fun (x, ρ1) => match seqL x with
    | some l => (evalDs T es ρ1).bind fun (ds, ρ2) => if l.length + ds.length ≤ big then .ok (.own (.lst (l ++ ds)), ρ2) else .stk
    | none => .stk
  | .newK, ρ => .ok (.own (.dk [] []), ρ)
  | .newT, ρ => .ok (.own (.dt [] []), ρ)
  | .bool a es, ρ => evalB T a es ρ
  | .not e, ρ => (toT (evalE T e ρ)).bind fun (b, ρ1) => .ok (.val (.bl !b), ρ1)
  | .ifx c a b, ρ => (toT (evalE T c ρ)).bind fun (t, ρ1) => if t then evalE T a ρ1 else evalE T b ρ1
  | .chain p q a b c, ρ => (toD (evalE T a ρ)).bind fun (x, ρ1) => (toD (evalE T b ρ1)).bind fun (y, ρ2) => match pr p [x, y] with
    | .val (.bl true) => (toD (evalE T c ρ2)).bind fun (z, ρ3) => match pr q [y, z] with
      | .val (.bl t) => .ok (.val (.bl t), ρ3)
      | _ => .stk
    | .val (.bl false) => .ok (.val (.bl false), ρ2)
    | _ => .stk
  | .call f ms es, ρ => if lentK ms ρ then (evalDs T es ρ).bind fun (ds, ρ1) => match argSl ms ds ρ1 with
    | some as => callR T f ms as ρ1
    | none => .stk
    else .stk
  | .meth m ms o es, ρ => if lentK ms ρ then (toD (evalE T o ρ)).bind fun (x, ρ0) => match methF T m x with
    | some f => (evalDs T es ρ0).bind fun (ds, ρ1) => match argSl ms ds ρ1 with
      | some as => callR T f (none :: ms) (.val x :: as) ρ1
      | none => .stk
    | none => .stk
    else .stk
  | .make c es, ρ => (evalDs T es ρ).bind fun (ds, ρ1) => makeR T c ds ρ1
  | .attrV f i, ρ => match ρ[i]? with
    | some (.own (.obj c fs vs)) => if T.fld c f then slR (oV (lookF fs vs f)) ρ else .stk
    | some (.val x) => slR (attrS T f x) ρ
    | _ => .stk
  | .attr f e, ρ => (toD (evalE T e ρ)).bind fun (x, ρ1) => slR (attrS T f x) ρ1
  | .isi c e, ρ => (toD (evalE T e ρ)).bind fun (x, ρ1) => slR (isiS T c x) ρ1
  | .eqO ne a b, ρ => (toD (evalE T a ρ)).bind fun (x, ρ1) => (toD (evalE T b ρ1)).bind fun (y, ρ2) => slR (eqS T ne x y) ρ2
  | .lc tg ik ia cs elt w, ρ => (evalDs T ia ρ).bind fun (ds, ρ1) => match iterD ik ds with
    | some items => (lcGo (fun d ρ' => match bindT tg d (forget ρ' w) with
        | some ρ2 => (evalB2 T cs ρ2).bind fun (t, ρ3) => if t then (toD (evalE T elt ρ3)).bind fun (x, ρ4) => .ok (some x, forget ρ4 w) else .ok (none, forget ρ3 w)
        | none => .stk) items (forget ρ1 w)).bind fun (l, ρ2) => if l.length ≤ big then .ok (.own (.lst l), unblk ρ1 ρ2 w) else .stk
    | none => .stk
  | .dc tk tg ik ia cs k v w, ρ => (evalDs T ia ρ).bind fun (ds, ρ1) => match iterD ik ds with
    | some items => (lcGo (fun d ρ' => match bindT tg d (forget ρ' w) with
        | some ρ2 => (evalB2 T cs ρ2).bind fun (t, ρ3) => if t then (toD (evalE T k ρ3)).bind fun (x, ρ4) => (toD (evalE T v ρ4)).bind fun (y, ρ5) => .ok (some (.tup [x, y]), forget ρ5 w) else .ok (none, forget ρ3 w)
        | none => .stk) items (forget ρ1 w)).bind fun (l, ρ2) => dictR tk l (unblk ρ1 ρ2 w)
    | none => .stk
  | .bor e, ρ => (toD (evalE T e (fzAll ρ))).bind fun (x, _) => if isScal x then .ok (.val x, ρ) else .stk
  | .tm p a b, ρ => match toD (evalE T a ρ) with
    | .ok (x, ρ1) => match toD (evalE T b ρ1) with
      | .ok (y, ρ2) => slR (pr p [x, y]) ρ2
      | _ => .stk
    | _ => .stk
  | .fst es, ρ => match evalDs T es ρ with
    | .ok (ds, ρ1) => slR (pr .fmt ds) ρ1
    | _ => .stk
  | .borT e, ρ => (toT (evalE T e (fzAll ρ))).bind fun (b, _) => .ok (.val (.bl b), ρ)
def evalDs (T : Tb) : List E → Rho → R (List D × Rho)
  | [], ρ => .ok ([], ρ)
  | e :: es, ρ => (toD (evalE T e ρ)).bind fun (d, ρ1) => (evalDs T es ρ1).bind fun (ds, ρ2) => .ok (d :: ds, ρ2)
def evalB (T : Tb) : Bool → List E → Rho → R (Sl × Rho)
  | _, [], _ => .stk
  | a, e :: es, ρ => match es with
    | [] => evalE T e ρ
    | _ => (toD (evalE T e ρ)).bind fun (d, ρ1) => match truth d with
      | some b => if b == a then evalB T a es ρ1 else .ok (.val d, ρ1)
      | none => .stk
def evalB2 (T : Tb) : List E → Rho → R (Bool × Rho)
  | [], ρ => .ok (true, ρ)
  | e :: es, ρ => (toT (evalE T e ρ)).bind fun (b, ρ1) => if b then evalB2 T es ρ1 else .ok (false, ρ1)
end
end Mr

namespace Mr

inductive S where
  | asg (tg : Tg) (e : E)
  | par (is : List Nat) (es : List E)
  | aug (i : Nat) (p : Pr) (e : E)
  | sub (j : Nat) (ie ve : E)
  | fld (j : Nat) (f : Nat) (e : E)
  | app (j : Nat) (e : E)
  | clr (j : Nat)
  | rvs (j : Nat)
  | ex (e : E)
  | ret (e : E)
  | retV (i : Nat)
  | retN
  | ite (c : E) (a b : List S)
  | for_ (tg : Tg) (ik : IK) (ia : List E) (body : List S) (tmp : List Nat)
  | whl (c : E) (body : List S) (tmp : List Nat)
  | rse (c : Nat) (es : List E)
  | tryx (body : List S) (cs : List Nat) (bs : List (Option Nat)) (hs : List (List S)) (tmp : List Nat)
  | never
  | pass
  | brk
  | cnt
  deriving Repr, Inhabited

inductive Out where
  | next (ρ : Rho)
  | ret (s : Sl) (ρ : Rho)
  | brk (ρ : Rho)
  | cnt (ρ : Rho)
  | exc (c : Nat) (fs : List Nat) (vs : List D)
  | stk
  deriving Repr

def Out.of {α : Type} (r : R α) (k : α → Out) : Out := match r with
  | .ok a => k a
  | .exc c fs vs => .exc c fs vs
  | .stk => .stk
def Out.then_ (o : Out) (k : Rho → Out) : Out := match o with
  | .next ρ => k ρ
  | o => o
def whileN (c : Rho → R (Bool × Rho)) (b : Rho → Out) : Nat → Rho → Out
  | 0, _ => .stk
  | n + 1, ρ => .of (c ρ) fun (t, ρ1) => if t then (match b ρ1 with
      | .next ρ2 => whileN c b n ρ2
      | .cnt ρ2 => whileN c b n ρ2
      | .brk ρ2 => .next ρ2
      | o => o) else .next ρ1
def forN (step : D → Rho → Out) : List D → Rho → Out
  | [], ρ => .next ρ
  | d :: r, ρ => match step d ρ with
    | .next ρ2 => forN step r ρ2
    | .cnt ρ2 => forN step r ρ2
    | .brk ρ2 => .next ρ2
    | o => o
/-- a turn's end, its own names forgotten -/
def Out.fg (o : Out) (w : List Nat) : Out := match o with
  | .next ρ => .next (forget ρ w)
  | .cnt ρ => .cnt (forget ρ w)
  | .brk ρ => .brk (forget ρ w)
  | o => o

/-- a slot that is lent may not be given another thing -/
def free (pn : List Nat) : Tg → Bool
  | .one i => !pn.contains i
  | .tup is => is.all fun i => !pn.contains i
def putD (o k v : D) : Option D := match o with
  | .lst l => match k with
    | .int i => (ixN l.length i).map fun j => .lst (l.set j v)
    | _ => none
  | .dk ks vs => if ks.length < big then (dKy k).map fun k => let r := put ks vs k v; .dk r.1 r.2 else none
  | .dt ks vs => if ks.length < big then (match k with
    | .tup (k0 :: kr) => (dKys (k0 :: kr)).map fun k => let r := put ks vs k v; .dt r.1 r.2
    | _ => none) else none
  | _ => none
/-- own things are not known any more -/
def noOwn (ρ : Rho) : Rho := ρ.map fun s => match s with
  | .own _ => .no
  | s => s
def nth {α : Type} : List (List α) → Nat → List α
  | [], _ => []
  | a :: _, 0 => a
  | _ :: r, n + 1 => nth r n

mutual
def run (T : Tb) (fuel : Nat) (pn : List Nat) : S → Rho → Out
  | .asg tg e, ρ => if free pn tg then .of (evalE T e ρ) fun (s, ρ1) => match tg, s with
      | .one i, s => .next (ρ1.set i s)
      | tg, .val d => match bindT tg d ρ1 with
        | some ρ2 => .next ρ2
        | none => .stk
      | tg, .own d => match bindT tg d ρ1 with
        | some ρ2 => .next ρ2
        | none => .stk
      | _, _ => .stk
    else .stk
  | .par is es, ρ => if free pn (.tup is) then .of (evalDs T es ρ) fun (ds, ρ1) => match bindN is ds ρ1 with
      | some ρ2 => .next ρ2
      | none => .stk
    else .stk
  | .aug i p e, ρ => if free pn (.one i) then .of (toD (evalE T e ρ)) fun (y, ρ1) => match ρ1[i]? with
      | some (.val x) => match pr p [x, y] with
        | .val z => .next (ρ1.set i (.val z))
        | _ => .stk
      | _ => .stk
    else .stk
  | .sub j ie ve, ρ => .of (toD (evalE T ve ρ)) fun (v, ρ1) => if known ρ1 j then .of (toD (evalE T ie ρ1)) fun (k, ρ2) => match ρ2[j]? with
      | some (.own o) => match putD o k v with
        | some o' => .next (ρ2.set j (.own o'))
        | none => .stk
      | _ => .stk
    else .stk
  | .fld j f e, ρ => .of (toD (evalE T e ρ)) fun (v, ρ1) => match ρ1[j]? with
    | some (.own (.obj c fs vs)) => if fs.length < 900 ∧ T.fld c f = true then let r := putO fs vs f v; .next (ρ1.set j (.own (.obj c r.1 r.2))) else .stk
    | _ => .stk
  | .app j e, ρ => if ownL ρ j then .of (toD (evalE T e ρ)) fun (v, ρ1) => match ρ1[j]? with
      | some (.own (.lst l)) => if l.length < big then .next (ρ1.set j (.own (.lst (l ++ [v])))) else .stk
      | _ => .stk
    else .stk
  | .clr j, ρ => match ρ[j]? with
    | some (.own (.lst _)) => .next (ρ.set j (.own (.lst [])))
    | _ => .stk
  | .rvs j, ρ => match ρ[j]? with
    | some (.own (.lst l)) => .next (ρ.set j (.own (.lst l.reverse)))
    | _ => .stk
  | .ex e, ρ => .of (evalE T e ρ) fun (_, ρ1) => .next ρ1
  | .ret e, ρ => .of (evalE T e ρ) fun (s, ρ1) => match s with
    | .no => .stk
    | s => .ret s ρ1
  | .retV i, ρ => match ρ[i]? with
    | some (.val d) => .ret (.val d) ρ
    | some (.own d) => if pn.contains i then .ret (.val d) (ρ.set i (.val d)) else .ret (.own d) (ρ.set i .no)
    | _ => .stk
  | .retN, ρ => .ret (.val .non) ρ
  | .ite c a b, ρ => .of (toT (evalE T c ρ)) fun (t, ρ1) => if t then runs T fuel pn a ρ1 else runs T fuel pn b ρ1
  | .for_ tg ik ia body tmp, ρ => if free pn tg && free pn (.tup tmp) then .of (evalDs T ia ρ) fun (ds, ρ1) => match iterD ik ds with
      | some items => forN (fun d ρ' => match bindT tg d ρ' with
          | some ρ2 => (runs T fuel pn body ρ2).fg tmp
          | none => .stk) items (forget ρ1 tmp)
      | none => .stk
    else .stk
  | .whl c body tmp, ρ => if free pn (.tup tmp) then whileN (fun ρ => toT (evalE T c ρ)) (fun ρ => (runs T fuel pn body ρ).fg tmp) fuel (forget ρ tmp) else .stk
  | .rse c es, ρ => match T.xf c with
    | some fs => .of (evalDs T es ρ) fun (ds, _) => if fs.length = ds.length then .exc c fs ds else .stk
    | none => .stk
  | .tryx body cs bs hs tmp, ρ => if free pn (.tup tmp) then (match runs T fuel pn body ρ with
      | .exc _ _ _ => .stk
      | o => o)
    else .stk
  | .never, _ => .stk
  | .pass, ρ => .next ρ
  | .brk, ρ => .brk ρ
  | .cnt, ρ => .cnt ρ
def runs (T : Tb) (fuel : Nat) (pn : List Nat) : List S → Rho → Out
  | [], ρ => .next ρ
  | s :: r, ρ => (run T fuel pn s ρ).then_ (runs T fuel pn r)
end

structure Fn where
  n : Nat
  np : Nat
  dfl : List D
  body : List S
def pinsOf : Nat → List Sl → List Nat
  | _, [] => []
  | k, .own _ :: r => k :: pinsOf (k + 1) r
  | k, _ :: r => pinsOf (k + 1) r
def runFn (T : Tb) (fuel : Nat) (F : Fn) (as : List Sl) : R (Sl × List Sl) :=
  if as.length = F.np then
    match runs T fuel (pinsOf 0 as) F.body (as ++ List.replicate (F.n - F.np) .no) with
    | .ret s ρ => .ok (s, ρ.take F.np)
    | .next ρ => .ok (.val .non, ρ.take F.np)
    | .exc c fs vs => .exc c fs vs
    | _ => .stk
  else .stk
structure Pg where
  fns : List (Nat × Fn)
  meth : Nat → Nat → Option Nat
  prop : Nat → Nat → Option Nat
  init : Nat → Option Nat
  eqm : Nat → Option Nat
  xf : Nat → Option (List Nat)
  fld : Nat → Nat → Bool
def callN (P : Pg) (fuel : Nat) : Nat → Nat → List Sl → R (Sl × List Sl)
  | 0, _, _ => .stk
  | n + 1, f, as => match P.fns.lookup f with
    | some F => runFn ⟨callN P fuel n, P.meth, P.prop, P.init, P.eqm, P.xf, P.fld⟩ fuel F as
    | none => .stk
end Mr

/-! What data stand for in the abstract heap. -/
namespace Mr
open PySem L2

/-- of the row: where the classes stand, what the fields are called -/
structure Cn where
  cA : Nat → Addr
  fN : Nat → Str

def txS (x : Tx) : Str := ⟨x.toArray⟩
def txOk (x : Tx) : Bool := x.all fun n => decide (n < 1114112)
def kyK : Ky → Key
  | .inl i => .inl i
  | .inr x => .inr (txS x)
def kyOk : Ky → Bool
  | .inl _ => true
  | .inr x => txOk x
def kvK (ks : List Ky) (vs : List V) : List (Key × V) := (ks.map kyK).zip vs
def kvT (ks : List (List Ky)) (vs : List V) : List (List Key × V) := (ks.map fun k => k.map kyK).zip vs
def fvs (c : Cn) (fs : List Nat) (vs : List V) : List (Str × V) := (fs.map c.fN).zip vs

mutual
def Rep (c : Cn) (K : PySem.W.Frag) (G : Hp) : D → V → Prop
  | .non, v => v = .non
  | .bl b, v => v = .bl b
  | .int i, v => v = .int i
  | .str x, v => v = .str (txS x) ∧ txOk x = true
  | .tup l, v => ∃ a vs, v = .ref a ∧ (G a = some (.tup vs) ∨ (l = [] ∧ SqT K G a [])) ∧ Reps c K G l vs
  | .lst l, v => ∃ a vs, v = .ref a ∧ Rd G a (.lst vs) ∧ Reps c K G l vs
  | .dk ks l, v => ∃ a vs, v = .ref a ∧ Rd G a (.dK (kvK ks vs)) ∧ Reps c K G l vs ∧ ks.length = l.length ∧ ks.all kyOk = true
  | .dt ks l, v => ∃ a vs, v = .ref a ∧ Rd G a (.dT (kvT ks vs)) ∧ Reps c K G l vs ∧ ks.length = l.length ∧ (ks.all fun k => k.all kyOk) = true
  | .obj t fs l, v => ∃ a dx vs, v = .ref a ∧ G a = some (.ins (c.cA t) dx (fvs c fs vs)) ∧ Reps c K G l vs ∧ fs.length = l.length
def Reps (c : Cn) (K : PySem.W.Frag) (G : Hp) : List D → List V → Prop
  | [], vs => vs = []
  | d :: ds, vs => ∃ v r, vs = v :: r ∧ Rep c K G d v ∧ Reps c K G ds r
end

section
variable {c : Cn} {K : PySem.W.Frag} {G G' H H' : Hp}
theorem rd_same {a : Addr} {u : HO} (e : Same G G') (h : Rd G a u) : Rd G' a u := by
  rcases h with h | ⟨o, h⟩
  · exact .inl (e a _ h)
  · exact .inr ⟨o, e a _ h⟩
theorem sqT_same {a : Addr} {xs : List V} (e : Same G G') (h : SqT K G a xs) : SqT K G' a xs := by
  rcases h with h | h
  · exact .inl (rd_same e h)
  · exact .inr h
theorem sqL_same {a : Addr} {xs : List V} (e : Same G G') (h : SqL K G a xs) : SqL K G' a xs := e.seq h
mutual
theorem Rep.mono (e : Same G G') : ∀ {d : D} {v : V}, Rep c K G d v → Rep c K G' d v
  | .non, _, h => h
  | .bl _, _, h => h
  | .int _, _, h => h
  | .str _, _, h => h
  | .tup l, _, h => by
    obtain ⟨a, vs, h1, h2, h3⟩ := h
    exact ⟨a, vs, h1, h2.elim (fun z => .inl (e _ _ z)) (fun z => .inr ⟨z.1, sqT_same e z.2⟩), Reps.mono e h3⟩
  | .lst l, _, h => by
    obtain ⟨a, vs, h1, h2, h3⟩ := h
    exact ⟨a, vs, h1, rd_same e h2, Reps.mono e h3⟩
  | .dk ks l, _, h => by
    obtain ⟨a, vs, h1, h2, h3, h4⟩ := h
    exact ⟨a, vs, h1, rd_same e h2, Reps.mono e h3, h4⟩
  | .dt ks l, _, h => by
    obtain ⟨a, vs, h1, h2, h3, h4⟩ := h
    exact ⟨a, vs, h1, rd_same e h2, Reps.mono e h3, h4⟩
  | .obj t fs l, _, h => by
    obtain ⟨a, dx, vs, h1, h2, h3, h4⟩ := h
    exact ⟨a, dx, vs, h1, e _ _ h2, Reps.mono e h3, h4⟩
theorem Reps.mono (e : Same G G') : ∀ {ds : List D} {vs : List V}, Reps c K G ds vs → Reps c K G' ds vs
  | [], _, h => h
  | d :: ds, _, h => by
    obtain ⟨v, r, h1, h2, h3⟩ := h
    exact ⟨v, r, h1, Rep.mono e h2, Reps.mono e h3⟩
end
theorem Rep.sqT {l : List D} {a : Addr} {vs : List V} (h : G a = some (.tup vs) ∨ (l = [] ∧ SqT K G a [])) (r : Reps c K G l vs) : SqT K G a vs := by
  rcases h with h | ⟨z, h⟩
  · exact .inl (.inl h)
  · subst z
    have r : vs = [] := r
    rw [r]
    exact h
theorem Reps.length : ∀ {ds : List D} {vs : List V}, Reps c K G ds vs → vs.length = ds.length
  | [], _, h => by
    have h : _ = [] := h
    rw [h]
    rfl
  | d :: ds, _, h => by
    obtain ⟨v, r, h1, h2, h3⟩ := h
    rw [h1, List.length_cons, List.length_cons, Reps.length h3]
theorem Reps.get : ∀ {ds : List D} {vs : List V} {i : Nat} {d : D}, Reps c K G ds vs → ds[i]? = some d → ∃ v, vs[i]? = some v ∧ Rep c K G d v
  | [], _, i, d, _, h => by simp at h
  | e :: ds, _, 0, d, h, q => by
    obtain ⟨v, r, h1, h2, h3⟩ := h
    simp at q
    subst q
    rw [h1]
    exact ⟨v, rfl, h2⟩
  | e :: ds, _, i + 1, d, h, q => by
    obtain ⟨v, r, h1, h2, h3⟩ := h
    obtain ⟨w, a, b⟩ := Reps.get (i := i) h3 (by simpa using q)
    rw [h1]
    exact ⟨w, by simpa using a, b⟩
theorem Reps.get' : ∀ {ds : List D} {vs : List V} {i : Nat} {v : V}, Reps c K G ds vs → vs[i]? = some v → ∃ d, ds[i]? = some d ∧ Rep c K G d v := fun {ds vs i v} h q => by
  have hl := h.length
  have hi : i < vs.length := (List.getElem?_eq_some_iff.mp q).1
  have e : ds[i]? = some ds[i] := List.getElem?_eq_getElem (by omega)
  obtain ⟨w, a, b⟩ := h.get e
  rw [q] at a
  cases a
  exact ⟨_, e, b⟩
theorem Reps.app : ∀ {ds es : List D} {vs ws : List V}, Reps c K G ds vs → Reps c K G es ws → Reps c K G (ds ++ es) (vs ++ ws)
  | [], es, vs, ws, h, g => by
    have h : vs = [] := h
    rw [h]
    exact g
  | d :: ds, es, _, ws, h, g => by
    obtain ⟨v, r, h1, h2, h3⟩ := h
    rw [h1]
    exact ⟨v, r ++ ws, rfl, h2, Reps.app h3 g⟩
theorem Reps.one {d : D} {v : V} (h : Rep c K G d v) : Reps c K G [d] [v] := ⟨v, [], rfl, h, rfl⟩
theorem Reps.cons {d : D} {v : V} {ds : List D} {vs : List V} (h : Rep c K G d v) (t : Reps c K G ds vs) : Reps c K G (d :: ds) (v :: vs) := ⟨v, vs, rfl, h, t⟩
theorem Reps.inv {d : D} {ds : List D} {vs : List V} (h : Reps c K G (d :: ds) vs) : ∃ v r, vs = v :: r ∧ Rep c K G d v ∧ Reps c K G ds r := h
theorem Reps.set : ∀ {ds : List D} {vs : List V} {d : D} {v : V} (i : Nat), Reps c K G ds vs → Rep c K G d v → Reps c K G (ds.set i d) (vs.set i v)
  | [], _, _, _, _, h, _ => by
    have h : _ = [] := h
    rw [h]
    exact rfl
  | e :: ds, _, d, v, 0, h, g => by
    obtain ⟨w, r, h1, h2, h3⟩ := h
    rw [h1]
    exact ⟨v, r, rfl, g, h3⟩
  | e :: ds, _, d, v, i + 1, h, g => by
    obtain ⟨w, r, h1, h2, h3⟩ := h
    rw [h1]
    exact ⟨w, r.set i v, rfl, h2, Reps.set i h3 g⟩
theorem Reps.drop : ∀ {ds : List D} {vs : List V} (i : Nat), Reps c K G ds vs → Reps c K G (ds.drop i) (vs.drop i)
  | _, _, 0, h => h
  | [], _, i + 1, h => by
    have h : _ = [] := h
    rw [h]
    exact rfl
  | e :: ds, _, i + 1, h => by
    obtain ⟨w, r, h1, h2, h3⟩ := h
    rw [h1]
    exact Reps.drop i h3
theorem Reps.take : ∀ {ds : List D} {vs : List V} (i : Nat), Reps c K G ds vs → Reps c K G (ds.take i) (vs.take i)
  | _, _, 0, h => rfl
  | [], _, i + 1, h => by
    have h : _ = [] := h
    rw [h]
    exact rfl
  | e :: ds, _, i + 1, h => by
    obtain ⟨w, r, h1, h2, h3⟩ := h
    rw [h1]
    exact ⟨w, r.take i, rfl, h2, Reps.take i h3⟩
theorem Reps.rev : ∀ {ds : List D} {vs : List V}, Reps c K G ds vs → Reps c K G ds.reverse vs.reverse
  | [], _, h => by
    have h : _ = [] := h
    rw [h]
    exact rfl
  | e :: ds, _, h => by
    obtain ⟨w, r, h1, h2, h3⟩ := h
    rw [h1, List.reverse_cons, List.reverse_cons]
    exact (Reps.rev h3).app (.one h2)
end

/-! ### things of our own -/
def OwnAt (c : Cn) (K : PySem.W.Frag) (G H : Hp) (d : D) (a : Addr) : Prop := G a = none ∧ match d with
  | .lst l => ∃ vs, H a = some (.lst vs) ∧ Reps c K G l vs
  | .dk ks l => ∃ vs, H a = some (.dK (kvK ks vs)) ∧ Reps c K G l vs ∧ ks.length = l.length ∧ ks.all kyOk = true
  | .dt ks l => ∃ vs, H a = some (.dT (kvT ks vs)) ∧ Reps c K G l vs ∧ ks.length = l.length ∧ (ks.all fun k => k.all kyOk) = true
  | .obj t fs l => ∃ dx vs, H a = some (.ins (c.cA t) dx (fvs c fs vs)) ∧ Reps c K G l vs ∧ fs.length = l.length
  | _ => False
theorem OwnAt.ex {c : Cn} {K : PySem.W.Frag} {G H : Hp} {d : D} {a : Addr} (h : OwnAt c K G H d a) : ∃ o, H a = some o ∧ ∀ xs, o ≠ .tup xs := by
  obtain ⟨_, h⟩ := h
  cases d with
  | lst l => obtain ⟨vs, h, _⟩ := h; exact ⟨_, h, fun xs z => by cases z⟩
  | dk ks l => obtain ⟨vs, h, _⟩ := h; exact ⟨_, h, fun xs z => by cases z⟩
  | dt ks l => obtain ⟨vs, h, _⟩ := h; exact ⟨_, h, fun xs z => by cases z⟩
  | obj t fs l => obtain ⟨dx, vs, h, _⟩ := h; exact ⟨_, h, fun xs z => by cases z⟩
  | non => exact h.elim
  | bl _ => exact h.elim
  | int _ => exact h.elim
  | str _ => exact h.elim
  | tup _ => exact h.elim
/-- what is kept of a thing of our own while others change -/
theorem OwnAt.keep {c : Cn} {K : PySem.W.Frag} {G G' H H' : Hp} {d : D} {a : Addr} (h : OwnAt c K G H d a) (e : Same G G') (n : G' a = none) (k : ∀ o, H a = some o → H' a = some o) : OwnAt c K G' H' d a := by
  obtain ⟨_, h⟩ := h
  refine ⟨n, ?_⟩
  cases d with
  | lst l => obtain ⟨vs, h, r⟩ := h; exact ⟨vs, k _ h, r.mono e⟩
  | dk ks l => obtain ⟨vs, h, r, q⟩ := h; exact ⟨vs, k _ h, r.mono e, q⟩
  | dt ks l => obtain ⟨vs, h, r, q⟩ := h; exact ⟨vs, k _ h, r.mono e, q⟩
  | obj t fs l => obtain ⟨dx, vs, h, r, q⟩ := h; exact ⟨dx, vs, k _ h, r.mono e, q⟩
  | non => exact h.elim
  | bl _ => exact h.elim
  | int _ => exact h.elim
  | str _ => exact h.elim
  | tup _ => exact h.elim
/-- a thing of our own is told from now on as it stands -/
def know (G H : Hp) (a : Addr) : Hp := fun b => if b = a then H a else G b
theorem know_same {G H : Hp} {a : Addr} : know G H a a = H a := by unfold know; rw [if_pos rfl]
theorem know_ne {G H : Hp} {a b : Addr} (h : b ≠ a) : know G H a b = G b := by unfold know; rw [if_neg h]
theorem same_know {G H : Hp} {a : Addr} (n : G a = none) : Same G (know G H a) := fun b o e => by
  rw [know_ne (ne_of_none e n)]
  exact e
theorem know_sub {G H : Hp} {a : Addr} (e : Same G H) : Same (know G H a) H := fun b o q => by
  by_cases hb : b = a
  · subst hb
    rw [know_same] at q
    exact q
  · rw [know_ne hb] at q
    exact e b o q
theorem OwnAt.rep {c : Cn} {K : PySem.W.Frag} {G H : Hp} {d : D} {a : Addr} (h : OwnAt c K G H d a) : Rep c K (know G H a) d (.ref a) := by
  obtain ⟨n, h⟩ := h
  have e := same_know (H := H) n
  cases d with
  | lst l => obtain ⟨vs, h, r⟩ := h; exact ⟨a, vs, rfl, .inl (know_same.trans h), r.mono e⟩
  | dk ks l => obtain ⟨vs, h, r, q⟩ := h; exact ⟨a, vs, rfl, .inl (know_same.trans h), r.mono e, q⟩
  | dt ks l => obtain ⟨vs, h, r, q⟩ := h; exact ⟨a, vs, rfl, .inl (know_same.trans h), r.mono e, q⟩
  | obj t fs l => obtain ⟨dx, vs, h, r, q⟩ := h; exact ⟨a, dx, vs, rfl, know_same.trans h, r.mono e, q⟩
  | non => exact h.elim
  | bl _ => exact h.elim
  | int _ => exact h.elim
  | str _ => exact h.elim
  | tup _ => exact h.elim

/-! ### the names -/
def ownA (ρ : Rho) (σ : L2.St) (a : Addr) : Prop := ∃ (i : Nat) (d : D), ρ[i]? = some (.own d) ∧ σ[i]? = some (some (.ref a))
/-- B: the addresses that were there at the def's entry; pn: the slots that are lent -/
structure EnvR (c : Cn) (K : PySem.W.Frag) (B : Addr → Prop) (pn : List Nat) (G H : Hp) (ρ : Rho) (σ : L2.St) : Prop where
  sub : Same G H
  len : ρ.length = σ.length
  val : ∀ (i : Nat) d, ρ[i]? = some (.val d) → ∃ v, σ[i]? = some (some v) ∧ Rep c K G d v
  own : ∀ (i : Nat) d, ρ[i]? = some (.own d) → ∃ a, σ[i]? = some (some (.ref a)) ∧ OwnAt c K G H d a ∧ (i ∈ pn ∨ ¬ B a)
  inj : ∀ (i j : Nat) d e a, ρ[i]? = some (.own d) → ρ[j]? = some (.own e) → σ[i]? = some (some (.ref a)) → σ[j]? = some (some (.ref a)) → i = j
/-- from one state to a later one: own things may change, all else stands; what is told anew was not there, or is a tuple, or was our own -/
structure Grow (own : Addr → Prop) (G H G' H' : Hp) : Prop where
  gg : Same G G'
  gh : Same G' H'
  keep : ∀ a o, H a = some o → ¬ own a → H' a = some o
  there : ∀ a o, H a = some o → ∃ o', H' a = some o'
  new : ∀ a o, G' a = some o → G a = some o ∨ H a = none ∨ (∃ xs, o = .tup xs) ∨ own a
def OwnLe (ρ' ρ : Rho) : Prop := ∀ (i : Nat) d, ρ'[i]? = some (.own d) → ∃ e, ρ[i]? = some (.own e)
theorem OwnLe.refl (ρ : Rho) : OwnLe ρ ρ := fun _ d h => ⟨d, h⟩
theorem OwnLe.trans {ρ1 ρ2 ρ3 : Rho} (a : OwnLe ρ2 ρ1) (b : OwnLe ρ3 ρ2) : OwnLe ρ3 ρ1 := fun i d h => by
  obtain ⟨e, h⟩ := b i d h
  exact a i e h
theorem OwnLe.ownA {ρ' ρ : Rho} {σ : L2.St} (h : OwnLe ρ' ρ) {a : Addr} (o : ownA ρ' σ a) : ownA ρ σ a := by
  obtain ⟨i, d, h1, h2⟩ := o
  obtain ⟨e, h3⟩ := h i d h1
  exact ⟨i, e, h3, h2⟩
theorem Grow.refl {own : Addr → Prop} {G H : Hp} (e : Same G H) : Grow own G H G H := ⟨.refl _, e, fun _ _ h _ => h, fun _ o h => ⟨o, h⟩, fun _ _ h => .inl h⟩
theorem Grow.trans {own own' : Addr → Prop} {G H G1 H1 G2 H2 : Hp} (a : Grow own G H G1 H1) (b : Grow own' G1 H1 G2 H2) (le : ∀ x, own' x → own x ∨ H x = none) : Grow own G H G2 H2 where
  gg := a.gg.trans b.gg
  gh := b.gh
  keep := fun x o h n => b.keep x o (a.keep x o h n) fun z => (le x z).elim n fun q => by rw [h] at q; cases q
  there := fun x o h => by
    obtain ⟨o', h'⟩ := a.there x o h
    exact b.there x o' h'
  new := fun x o h => by
    rcases b.new x o h with q | q | q | q
    · exact a.new x o q
    · right; left
      cases e : H x with
      | none => rfl
      | some u =>
        obtain ⟨o', h'⟩ := a.there x u e
        rw [h'] at q; cases q
    · exact .inr (.inr (.inl q))
    · rcases le x q with z | z
      · exact .inr (.inr (.inr z))
      · exact .inr (.inl z)
theorem Grow.trans' {own : Addr → Prop} {ρ' ρ : Rho} {σ : L2.St} {G H G1 H1 G2 H2 : Hp} (a : Grow (ownA ρ σ) G H G1 H1) (b : Grow (ownA ρ' σ) G1 H1 G2 H2) (le : OwnLe ρ' ρ) : Grow (ownA ρ σ) G H G2 H2 := a.trans b fun x z => .inl (le.ownA z)
theorem Grow.free {own : Addr → Prop} {G H G' H' : Hp} (g : Grow own G H G' H') {a : Addr} (h : H' a = none) : H a = none := by
  cases e : H a with
  | none => rfl
  | some o =>
    obtain ⟨o', q⟩ := g.there a o e
    rw [q] at h; cases h
theorem Grow.mono {own own' : Addr → Prop} {G H G' H' : Hp} (g : Grow own G H G' H') (le : ∀ a, own a → own' a) : Grow own' G H G' H' :=
  ⟨g.gg, g.gh, fun a o h n => g.keep a o h fun z => n (le a z), g.there, fun a o h => by
    rcases g.new a o h with q | q | q | q
    · exact .inl q
    · exact .inr (.inl q)
    · exact .inr (.inr (.inl q))
    · exact .inr (.inr (.inr (le a q)))⟩
/-- nothing of our own is touched: the names are as they were -/
theorem EnvR.grow {c : Cn} {K : PySem.W.Frag} {B : Addr → Prop} {pn : List Nat} {G H G' H' : Hp} {ρ : Rho} {σ : L2.St} (E : EnvR c K B pn G H ρ σ) {own : Addr → Prop} (g : Grow own G H G' H') (n : ∀ a, ownA ρ σ a → ¬ own a) : EnvR c K B pn G' H' ρ σ where
  sub := g.gh
  len := E.len
  val := fun i d h => by
    obtain ⟨v, a, b⟩ := E.val i d h
    exact ⟨v, a, b.mono g.gg⟩
  own := fun i d h => by
    obtain ⟨a, h1, h2, h3⟩ := E.own i d h
    have no : ¬ own a := n a ⟨i, d, h, h1⟩
    refine ⟨a, h1, h2.keep g.gg ?_ (fun o q => g.keep a o q no), h3⟩
    cases e : G' a with
    | none => rfl
    | some o =>
      obtain ⟨o', q, nt⟩ := h2.ex
      rcases g.new a o e with z | z | ⟨xs, z⟩ | z
      · rw [h2.1] at z; cases z
      · rw [q] at z; cases z
      · have w := g.gh a o e
        rw [g.keep a o' q no] at w
        cases w
        exact absurd z (nt xs)
      · exact absurd z no
  inj := E.inj
/-- a new object is laid and told -/
theorem Grow.newG {own : Addr → Prop} {G H : Hp} {p : Addr} {o : HO} (e : Same G H) (n : H p = none) : Grow own G H (upd G p o) (upd H p o) where
  gg := fun b u h => by
    rw [upd_ne (ne_of_none (e b u h) n)]
    exact h
  gh := fun b u h => by
    by_cases hb : b = p
    · subst hb
      rw [upd_same] at h ⊢
      exact h
    · rw [upd_ne hb] at h ⊢
      exact e b u h
  keep := fun b u h _ => by
    rw [upd_ne (ne_of_none h n)]
    exact h
  there := fun b u h => by
    rw [upd_ne (ne_of_none h n)]
    exact ⟨u, h⟩
  new := fun b u h => by
    by_cases hb : b = p
    · subst hb
      exact .inr (.inl n)
    · rw [upd_ne hb] at h
      exact .inl h
/-- a new object is laid and not told -/
theorem Grow.newH {own : Addr → Prop} {G H : Hp} {p : Addr} {o : HO} (e : Same G H) (n : H p = none) : Grow own G H G (upd H p o) where
  gg := .refl _
  gh := fun b u h => by
    rw [upd_ne (ne_of_none (e b u h) n)]
    exact e b u h
  keep := fun b u h _ => by
    rw [upd_ne (ne_of_none h n)]
    exact h
  there := fun b u h => by
    rw [upd_ne (ne_of_none h n)]
    exact ⟨u, h⟩
  new := fun b u h => .inl h
/-- a result: told data, or a new thing of our own -/
def ResR (c : Cn) (K : PySem.W.Frag) (B : Hp) (G H : Hp) (s : Sl) (v : V) : Prop := match s with
  | .no => False
  | .val d => Rep c K G d v
  | .own d => ∃ a, v = .ref a ∧ OwnAt c K G H d a ∧ B a = none
/-- a thing as it stands in H, what it holds told by G -/
def Con (c : Cn) (K : PySem.W.Frag) (G H : Hp) (d : D) (v : V) : Prop := match d with
  | .lst l => ∃ a vs, v = .ref a ∧ Rd H a (.lst vs) ∧ Reps c K G l vs
  | .tup l => ∃ a vs, v = .ref a ∧ SqT K H a vs ∧ Reps c K G l vs
  | .dk ks l => ∃ a vs, v = .ref a ∧ Rd H a (.dK (kvK ks vs)) ∧ Reps c K G l vs ∧ ks.length = l.length ∧ ks.all kyOk = true
  | .dt ks l => ∃ a vs, v = .ref a ∧ Rd H a (.dT (kvT ks vs)) ∧ Reps c K G l vs ∧ ks.length = l.length ∧ (ks.all fun k => k.all kyOk) = true
  | .obj t fs l => ∃ a dx vs, v = .ref a ∧ H a = some (.ins (c.cA t) dx (fvs c fs vs)) ∧ Reps c K G l vs ∧ fs.length = l.length
  | d => Rep c K G d v
theorem Rep.con {c : Cn} {K : PySem.W.Frag} {G H : Hp} {d : D} {v : V} (h : Rep c K G d v) (e : Same G H) : Con c K G H d v := by
  cases d with
  | lst l => obtain ⟨a, vs, h1, h2, h3⟩ := h; exact ⟨a, vs, h1, rd_same e h2, h3⟩
  | tup l => obtain ⟨a, vs, h1, h2, h3⟩ := h; exact ⟨a, vs, h1, sqT_same e (Rep.sqT h2 h3), h3⟩
  | dk ks l => obtain ⟨a, vs, h1, h2, h3⟩ := h; exact ⟨a, vs, h1, rd_same e h2, h3⟩
  | dt ks l => obtain ⟨a, vs, h1, h2, h3⟩ := h; exact ⟨a, vs, h1, rd_same e h2, h3⟩
  | obj t fs l => obtain ⟨a, dx, vs, h1, h2, h3⟩ := h; exact ⟨a, dx, vs, h1, e _ _ h2, h3⟩
  | non => exact h
  | bl _ => exact h
  | int _ => exact h
  | str _ => exact h
theorem OwnAt.con {c : Cn} {K : PySem.W.Frag} {G H : Hp} {d : D} {a : Addr} (h : OwnAt c K G H d a) : Con c K G H d (.ref a) := by
  obtain ⟨n, h⟩ := h
  cases d with
  | lst l => obtain ⟨vs, h, r⟩ := h; exact ⟨a, vs, rfl, .inl h, r⟩
  | dk ks l => obtain ⟨vs, h, r, q⟩ := h; exact ⟨a, vs, rfl, .inl h, r, q⟩
  | dt ks l => obtain ⟨vs, h, r, q⟩ := h; exact ⟨a, vs, rfl, .inl h, r, q⟩
  | obj t fs l => obtain ⟨dx, vs, h, r, q⟩ := h; exact ⟨a, dx, vs, rfl, h, r, q⟩
  | non => exact h.elim
  | bl _ => exact h.elim
  | int _ => exact h.elim
  | str _ => exact h.elim
  | tup _ => exact h.elim
end Mr

/-! The weakest readings; what a context is. -/
namespace Mr
open PySem L2

def WE (X : Cx) (e : Expr) : TE := fun σ H Q => ∀ (pins : List (Addr × Obj)) (s : Shared), Inv X pins σ H s → wpAny (model X.prog X.w) X.A (eval e X.env) (EP X pins σ Q) X.xe s
def WT (X : Cx) (e : Expr) : TT := fun σ H Q => ∀ (pins : List (Addr × Obj)) (s : Shared), Inv X pins σ H s → wpAny (model X.prog X.w) X.A (isTrue e X.env (eval e X.env)) (TP X pins σ Q) X.xe s
def WW (X : Cx) (e : Expr) : TT := fun σ H Q => ∀ (whole : Sem Value) (pins : List (Addr × Obj)) (s : Shared), Inv X pins σ H s → wpAny (model X.prog X.w) X.A (isTrue e X.env whole) (TP X pins σ Q) X.xe s
def WA (X : Cx) (es : List Expr) : TA := fun σ H Q => ∀ (pos : Pos) (pins : List (Addr × Obj)) (s : Shared), Inv X pins σ H s → wpAny (model X.prog X.w) X.A (spliced (backTo pos (starEach es X.env))) (AP X pins σ Q) X.xe s
def WS (X : Cx) (st : Stmt) : TS := fun D σ H => ∀ (pins : List (Addr × Obj)) (s : Shared), Inv X pins σ H s → wpAny (model X.prog X.w) X.A (exec st X.env) (SP X pins D) X.xe s
def WSs (X : Cx) (sts : List Stmt) : TS := fun D σ H => ∀ (pins : List (Addr × Obj)) (s : Shared), Inv X pins σ H s → wpAny (model X.prog X.w) X.A (execs sts X.env) (SP X pins D) X.xe s

section
variable {X : Cx} {σ : L2.St} {H : Hp} {e a b : Expr} {pos : Pos}
theorem pe_w (X : Cx) (e : Expr) : PE X e (WE X e) := ⟨fun pins s _ _ _ I h => h pins s I⟩
theorem pt_w (X : Cx) (e : Expr) : PT X e (WT X e) := ⟨fun pins s _ _ _ I h => h pins s I⟩
theorem pw_w (X : Cx) (e : Expr) : PW X e (WW X e) := ⟨fun wh pins s _ _ _ I h => h wh pins s I⟩
theorem pa_w (X : Cx) (es : List Expr) : PA X es (WA X es) := ⟨fun pos pins s _ _ _ I h => h pos pins s I⟩
theorem ps_w (X : Cx) (st : Stmt) : PS X st (WS X st) := ⟨fun pins s _ _ _ I h => h pins s I⟩
theorem pss_w (X : Cx) (sts : List Stmt) : PSs X sts (WSs X sts) := ⟨fun pins s _ _ _ I h => h pins s I⟩
theorem we_of {t : TE} {Q : VK} (p : PE X e t) (h : t σ H Q) : WE X e σ H Q := fun pins s I => p.run pins s σ H Q I h
theorem wt_of {t : TT} {Q : Bool → Hp → Prop} (p : PT X e t) (h : t σ H Q) : WT X e σ H Q := fun pins s I => p.run pins s σ H Q I h
theorem ww_of {t : TT} {Q : Bool → Hp → Prop} (p : PW X e t) (h : t σ H Q) : WW X e σ H Q := fun wh pins s I => p.run wh pins s σ H Q I h
theorem wa_of {es : List Expr} {t : TA} {Q : List V → Hp → Prop} (p : PA X es t) (h : t σ H Q) : WA X es σ H Q := fun pos pins s I => p.run pos pins s σ H Q I h
theorem ws_of {st : Stmt} {t : TS} {D : Ends} (p : PS X st t) (h : t D σ H) : WS X st D σ H := fun pins s I => p.run pins s σ H D I h
theorem wss_of {sts : List Stmt} {t : TS} {D : Ends} (p : PSs X sts t) (h : t D σ H) : WSs X sts D σ H := fun pins s I => p.run pins s σ H D I h
theorem we_mono {Q Q' : VK} (h : WE X e σ H Q) (k : ∀ v H', Q v H' → Q' v H') : WE X e σ H Q' := fun pins s I => thn (h pins s I) fun u s1 ⟨v, H1, I1, r, q⟩ => ⟨v, H1, I1, r, k v H1 q⟩
theorem wt_mono {Q Q' : Bool → Hp → Prop} (h : WT X e σ H Q) (k : ∀ v H', Q v H' → Q' v H') : WT X e σ H Q' := fun pins s I => thn (h pins s I) fun u s1 ⟨H1, I1, q⟩ => ⟨H1, I1, k _ H1 q⟩
end

/-- the whole setting of a row -/
structure Gs where
  P : Program
  w : World
  K : PySem.W.Frag
  mg : Str → Option Value
  base : Heap
  c : Cn
  T : Tb
/-- a running body: its names, its room, what it wishes of an exception -/
structure Ctx (g : Gs) (sc : Scope) (N : List Str) (k : Nat) (W : WX) (X : Cx) : Prop where
  hP : X.prog = g.P
  hw : X.w = g.w
  hK : X.K = g.K
  hm : X.mg = g.mg
  hb : X.base = g.base
  hs : X.env.scope = sc
  hN : X.N = N
  nd : X.N.Nodup
  calm : X.calm = true
  room : Room k X.A
  tk : Takes X W
  po : PassesOwn (model X.prog X.w) X.A X.env X.xe
  kf : sc.kind = .function
/-- an exception of the class t with these fields, in the heap H' -/
def ExcR (g : Gs) (own : Addr → Prop) (G H : Hp) (t : Nat) (fs : List Nat) (ds : List D) (d : Option Addr) (H' : Hp) : Prop :=
  ∃ G', Grow own G H G' H' ∧ ((fs = [] ∧ ds = [] ∧ d = none) ∨ ∃ dd vs, d = some dd ∧ H dd = none ∧ G' dd = none ∧ H' dd = some (.xd (fvs g.c fs vs)) ∧ Reps g.c g.K G' ds vs ∧ fs.length = ds.length)

/-- e means what the small language says -/
def EvOk (g : Gs) (W : WX) (X : Cx) (B : Addr → Prop) (pn : List Nat) (ast : Expr) (f : Rho → R (Sl × Rho)) : Prop := ∀ ρ σ G H, EnvR g.c g.K B pn G H ρ σ →
  match f ρ with
  | .stk => True
  | .ok (s, ρ') => ∀ Q : VK, (∀ v G' H', Grow (ownA ρ σ) G H G' H' → EnvR g.c g.K B pn G' H' ρ' σ → OwnLe ρ' ρ → ResR g.c g.K H G' H' s v → Q v H') → WE X ast σ H Q
  | .exc t fs ds => (∀ d H', ExcR g (ownA ρ σ) G H t fs ds d H' → W (.ref (g.c.cA t)) d σ H') → ∀ Q : VK, WE X ast σ H Q
/-- .. as told data -/
def EdOk (g : Gs) (W : WX) (X : Cx) (B : Addr → Prop) (pn : List Nat) (ast : Expr) (f : Rho → R (D × Rho)) : Prop := ∀ ρ σ G H, EnvR g.c g.K B pn G H ρ σ →
  match f ρ with
  | .stk => True
  | .ok (d, ρ') => ∀ Q : VK, (∀ v G' H', Grow (ownA ρ σ) G H G' H' → EnvR g.c g.K B pn G' H' ρ' σ → OwnLe ρ' ρ → Rep g.c g.K G' d v → Q v H') → WE X ast σ H Q
  | .exc t fs ds => (∀ d H', ExcR g (ownA ρ σ) G H t fs ds d H' → W (.ref (g.c.cA t)) d σ H') → ∀ Q : VK, WE X ast σ H Q
/-- .. as a test -/
def EtOk (g : Gs) (W : WX) (X : Cx) (B : Addr → Prop) (pn : List Nat) (ast : Expr) (f : Rho → R (Bool × Rho)) : Prop := ∀ ρ σ G H, EnvR g.c g.K B pn G H ρ σ →
  match f ρ with
  | .stk => True
  | .ok (b, ρ') => ∀ Q : Bool → Hp → Prop, (∀ G' H', Grow (ownA ρ σ) G H G' H' → EnvR g.c g.K B pn G' H' ρ' σ → OwnLe ρ' ρ → Q b H') → WT X ast σ H Q
  | .exc t fs ds => (∀ d H', ExcR g (ownA ρ σ) G H t fs ds d H' → W (.ref (g.c.cA t)) d σ H') → ∀ Q : Bool → Hp → Prop, WT X ast σ H Q
def EaOk (g : Gs) (W : WX) (X : Cx) (B : Addr → Prop) (pn : List Nat) (asts : List Expr) (f : Rho → R (List D × Rho)) : Prop := ∀ ρ σ G H, EnvR g.c g.K B pn G H ρ σ →
  match f ρ with
  | .stk => True
  | .ok (ds, ρ') => ∀ Q : List V → Hp → Prop, (∀ vs G' H', Grow (ownA ρ σ) G H G' H' → EnvR g.c g.K B pn G' H' ρ' σ → OwnLe ρ' ρ → Reps g.c g.K G' ds vs → Q vs H') → WA X asts σ H Q
  | .exc t fs ds => (∀ d H', ExcR g (ownA ρ σ) G H t fs ds d H' → W (.ref (g.c.cA t)) d σ H') → ∀ Q : List V → Hp → Prop, WA X asts σ H Q

section
variable {g : Gs} {W : WX} {X : Cx} {B : Addr → Prop} {pn : List Nat} {ast a b : Expr} {pos : Pos}
/-- a fresh thing of our own is told from now on -/
theorem ResR.told {c : Cn} {K : PySem.W.Frag} {B : Addr → Prop} {pn : List Nat} {own : Addr → Prop} {G H G' H' : Hp} {ρ : Rho} {σ : L2.St} {d : D} {v : V} (gr : Grow own G H G' H') (E : EnvR c K B pn G' H' ρ σ) (le : ∀ a, ownA ρ σ a → ∃ o, H a = some o) (r : ResR c K H G' H' (.own d) v) :
    ∃ G2, Grow own G H G2 H' ∧ EnvR c K B pn G2 H' ρ σ ∧ Rep c K G2 d v := by
  obtain ⟨a, rfl, o, n⟩ := r
  have no : ¬ ownA ρ σ a := fun z => by
    obtain ⟨u, q⟩ := le a z
    rw [n] at q; cases q
  have g1 : Grow (fun b => b = a) G' H' (know G' H' a) H' := ⟨same_know o.1, know_sub E.sub, fun _ _ h _ => h, fun _ u h => ⟨u, h⟩, fun b u h => by
    by_cases hb : b = a
    · exact .inr (.inr (.inr hb))
    · rw [know_ne hb] at h
      exact .inl h⟩
  refine ⟨know G' H' a, gr.trans g1 fun x z => .inr (by rw [z]; exact n), E.grow g1 fun b z e => no (e ▸ z), o.rep⟩
theorem own_there {c : Cn} {K : PySem.W.Frag} {B : Addr → Prop} {pn : List Nat} {G H : Hp} {ρ : Rho} {σ : L2.St} (E : EnvR c K B pn G H ρ σ) {a : Addr} (o : ownA ρ σ a) : ∃ u, H a = some u := by
  obtain ⟨i, d, h1, h2⟩ := o
  obtain ⟨b, h3, h4, _⟩ := E.own i d h1
  rw [h2] at h3
  cases h3
  obtain ⟨u, q, _⟩ := h4.ex
  exact ⟨u, q⟩
theorem EvOk.d {f : Rho → R (Sl × Rho)} (h : EvOk g W X B pn ast f) : EdOk g W X B pn ast fun ρ => toD (f ρ) := by
  intro ρ σ G H E
  have q := h ρ σ G H E
  show match toD (f ρ) with | .stk => True | .ok (d, ρ') => _ | .exc t fs ds => _
  cases e : f ρ with
  | stk => trivial
  | exc t fs ds =>
    rw [e] at q
    exact q
  | ok p =>
    obtain ⟨s, ρ'⟩ := p
    rw [e] at q
    cases s with
    | no => trivial
    | val d => exact q
    | own d =>
      intro Q k
      refine q Q fun v G' H' gr E' le r => ?_
      obtain ⟨G2, g2, E2, r2⟩ := ResR.told gr E' (fun a z => own_there E (le.ownA z)) r
      exact k v G2 H' g2 E2 le r2
/-- what was raised behind a step was raised from the start -/
theorem ExcR.after {own own' : Addr → Prop} {G H G1 H1 : Hp} {t : Nat} {fs : List Nat} {ds : List D} {d : Option Addr} {H' : Hp} (gr : Grow own G H G1 H1) (le : ∀ a, own' a → own a ∨ H a = none) (x : ExcR g own' G1 H1 t fs ds d H') : ExcR g own G H t fs ds d H' := by
  obtain ⟨G', g2, q⟩ := x
  refine ⟨G', gr.trans g2 le, ?_⟩
  rcases q with q | ⟨dd, vs, h1, h2, h3⟩
  · exact .inl q
  · exact .inr ⟨dd, vs, h1, gr.free h2, h3⟩
end
end Mr

/-! The operations of the small language are those of the model: numbers, comparisons. -/
namespace Mr
open PySem L2

def Cont (g : Gs) (G H : Hp) (s : Sl) (Q : VK) : Prop := ∀ v G' H', Grow (fun _ => False) G H G' H' → ResR g.c g.K H G' H' s v → Q v H'
/-- a two-place operation -/
def P2 (g : Gs) (p : Pr) (r : R2) : Prop := ∀ dx dy G H x y (Q : VK), Same G H → Rep g.c g.K G dx x → Rep g.c g.K G dy y → pr p [dx, dy] ≠ .no → Cont g G H (pr p [dx, dy]) Q → r x y H Q
section
variable {g : Gs} {X : Cx} {G H : Hp} {Q : VK}
theorem Cont.val {d : D} {v : V} (k : Cont g G H (.val d) Q) (e : Same G H) (r : Rep g.c g.K G d v) : Q v H := k v G H (.refl e) r
theorem Cont.newT {l : List D} {vs : List V} {p : Addr} (k : Cont g G H (.val (.tup l)) Q) (e : Same G H) (r : Reps g.c g.K G l vs) (n : H p = none) : Q (.ref p) (upd H p (.tup vs)) :=
  k (.ref p) (upd G p (.tup vs)) _ (.newG e n) ⟨p, vs, rfl, .inl upd_same, r.mono (Grow.newG (own := fun _ => False) (o := .tup vs) e n).gg⟩
theorem Cont.newL {l : List D} {vs : List V} {p : Addr} (k : Cont g G H (.own (.lst l)) Q) (e : Same G H) (r : Reps g.c g.K G l vs) (n : H p = none) : Q (.ref p) (upd H p (.lst vs)) := by
  refine k (.ref p) G _ (.newH e n) ⟨p, rfl, ⟨?_, vs, upd_same, r⟩, n⟩
  exact Same.free e n
theorem Cont.to {s s' : Sl} (k : Cont g G H s Q) (e : s = s') : Cont g G H s' Q := e ▸ k
theorem ifB_ne {b : Bool} {s : Sl} (h : ifB b s ≠ .no) : b = true ∧ ifB b s = s := by
  unfold ifB at h ⊢
  cases b with
  | true => exact ⟨rfl, if_pos rfl⟩
  | false => exact absurd (if_neg (by decide)) h

/-! ### numbers -/
theorem txS_app (x y : Tx) : txS x ++ txS y = txS (x ++ y) := by
  show (⟨x.toArray ++ y.toArray⟩ : Str) = ⟨(x ++ y).toArray⟩
  simp
theorem txS_len (x : Tx) : (txS x).length = x.length := by
  show x.toArray.size = x.length
  simp
theorem txOk_app {x y : Tx} (a : txOk x = true) (b : txOk y = true) : txOk (x ++ y) = true := by
  unfold txOk at *
  rw [List.all_append, a, b]
  rfl
theorem bigL : big = sizeLine := by decide
def rCatL : R2 := fun x y H Q => ∃ l b xs zs, x = .ref l ∧ y = .ref b ∧ Rd H l (.lst xs) ∧ Rd H b (.lst zs) ∧ xs.length + zs.length ≤ sizeLine ∧ ∀ p, H p = none → Q (.ref p) (upd H p (.lst (xs ++ zs)))
theorem op_catL : OpR X (binaryOp .Add) rCatL := by
  intro pins s σ H x y v u Q I rx ry h
  obtain ⟨l, b, xs, zs, rfl, rfl, hH, hB, hz, q⟩ := h
  cases rx
  cases ry
  obtain ⟨z, its, n, r, e⟩ := hH.ok I.hok
  obtain ⟨z2, its2, n2, r2, e2⟩ := hB.ok I.hok
  have hl := r.length
  have hl2 := r2.length
  refine PySem.P.add_list e e2 ?_ (by rw [List.size_toArray, List.size_toArray]; omega)
  have ea : its.toArray ++ its2.toArray = (its ++ its2).toArray := by simp
  rw [ea]
  exact ⟨.ref _, _, I.lnew (t' := s.toks) (r.append r2) (by rw [List.length_append]; omega), rfl, q _ I.fresh⟩
def rAddI : R2 := rI0 fun i j => .int (i + j)
def rAddS : R2 := fun x y H Q => ∃ i j, x = .str i ∧ y = .str j ∧ i.length + j.length ≤ sizeLine ∧ Q (.str (i ++ j)) H
def rAddA (K : PySem.W.Frag) : R2 := fun x y H Q => rAddI x y H Q ∨ rAddS x y H Q ∨ rCatL x y H Q ∨ rCatA K x y H Q
theorem op_addA : OpR X (binaryOp .Add) (rAddA X.K) := op_add.or (op_add_str.or (op_catL.or op_catA))
theorem p2_add : P2 g .add (rAddA g.K) := by
  intro dx dy G H x y Q e hx hy h k
  cases dx <;> cases dy <;> (try exact absurd rfl h)
  · cases hx
    cases hy
    exact .inl ⟨_, _, rfl, rfl, k.val e rfl⟩
  · obtain ⟨rfl, t1⟩ := hx
    obtain ⟨rfl, t2⟩ := hy
    obtain ⟨hb, he⟩ := ifB_ne h
    have k := k.to he
    have hb := of_decide_eq_true hb
    refine .inr (.inl ⟨_, _, rfl, rfl, by rw [txS_len, txS_len, ← bigL]; exact hb, ?_⟩)
    rw [txS_app]
    exact k.val e ⟨rfl, txOk_app t1 t2⟩
  · obtain ⟨a, vs, rfl, s1, r1⟩ := hx
    obtain ⟨b, ws, rfl, s2, r2⟩ := hy
    obtain ⟨hb, he⟩ := ifB_ne h
    have k := k.to he
    have hb := of_decide_eq_true hb
    have l1 := r1.length
    have l2 := r2.length
    refine .inr (.inr (.inr ⟨a, b, vs, ws, rfl, rfl, sqT_same e (Rep.sqT s1 r1), sqT_same e (Rep.sqT s2 r2), by rw [← bigL]; omega, fun q => ?_, fun _ q => ?_, fun _ _ p n => ?_⟩))
    · have z : _ = ([] : List D) := List.length_eq_zero_iff.mp (by rw [← l1, q]; rfl)
      rw [z] at k
      exact k.val e ⟨b, ws, rfl, s2, r2⟩
    · have z : _ = ([] : List D) := List.length_eq_zero_iff.mp (by rw [← l2, q]; rfl)
      rw [z, List.append_nil] at k
      exact k.val e ⟨a, vs, rfl, s1, r1⟩
    · exact k.newT e (r1.app r2) n
  · obtain ⟨a, vs, rfl, s1, r1⟩ := hx
    obtain ⟨b, ws, rfl, s2, r2⟩ := hy
    obtain ⟨hb, he⟩ := ifB_ne h
    have k := k.to he
    have hb := of_decide_eq_true hb
    have l1 := r1.length
    have l2 := r2.length
    exact .inr (.inr (.inl ⟨a, b, vs, ws, rfl, rfl, rd_same e s1, rd_same e s2, by rw [← bigL]; omega, fun p n => k.newL e (r1.app r2) n⟩))
/-- ints under a condition -/
theorem p2_int {p : Pr} {C : Int → Int → Prop} {f : Int → Int → Int} (hs : ∀ dx dy, pr p [dx, dy] ≠ .no → ∃ i j, dx = .int i ∧ dy = .int j ∧ C i j ∧ pr p [dx, dy] = .val (.int (f i j))) : P2 g p (rI C fun i j => .int (f i j)) := by
  intro dx dy G H x y Q e hx hy h k
  obtain ⟨i, j, rfl, rfl, c, q⟩ := hs dx dy h
  rw [q] at k
  cases hx
  cases hy
  exact ⟨i, j, rfl, rfl, c, k.val e rfl⟩
theorem p2_sub : P2 g .sub (rI (fun _ _ => True) fun i j => .int (i - j)) := p2_int fun dx dy h => by
  cases dx <;> cases dy <;> (try exact absurd rfl h)
  exact ⟨_, _, rfl, rfl, trivial, rfl⟩
theorem op_subT : OpR X (binaryOp .Sub) (rI (fun _ _ => True) fun i j => .int (i - j)) := fun pins s σ H x y v u Q I rx ry ⟨i, j, a, b, _, q⟩ => op_sub pins s σ H x y v u Q I rx ry ⟨i, j, a, b, q⟩
theorem p2_mul : P2 g .mul (rI CMul fun i j => .int (i * j)) := p2_int fun dx dy h => by
  cases dx <;> cases dy <;> (try exact absurd rfl h)
  obtain ⟨hb, he⟩ := ifB_ne h
  refine ⟨_, _, rfl, rfl, ?_, he⟩
  unfold mulOk at hb
  rw [Bool.or_eq_true, decide_eq_true_eq, decide_eq_true_eq] at hb
  rcases hb with hb | hb
  · left; omega
  · right; omega
theorem p2_fdiv : P2 g .fdiv (rI CDivW fun i j => .int (i / j)) := p2_int fun dx dy h => by
  cases dx <;> cases dy <;> (try exact absurd rfl h)
  obtain ⟨hb, he⟩ := ifB_ne h
  refine ⟨_, _, rfl, rfl, ?_, he⟩
  rw [Bool.and_eq_true, decide_eq_true_eq, decide_eq_true_eq] at hb
  exact wide_div (b := 9000) hb.1 hb.2 (by decide) (by decide)
theorem p2_mod : P2 g .mod (rI (fun _ j => 0 < j) fun i j => .int (i % j)) := p2_int fun dx dy h => by
  cases dx <;> cases dy <;> (try exact absurd rfl h)
  obtain ⟨hb, he⟩ := ifB_ne h
  exact ⟨_, _, rfl, rfl, of_decide_eq_true hb, he⟩
theorem p2_pow : P2 g .pow (rI CPow fun i j => .int (i ^ j.toNat)) := p2_int fun dx dy h => by
  cases dx <;> cases dy <;> (try exact absurd rfl h)
  obtain ⟨hb, he⟩ := ifB_ne h
  refine ⟨_, _, rfl, rfl, ?_, he⟩
  rw [Bool.and_eq_true, Bool.and_eq_true, decide_eq_true_eq, decide_eq_true_eq, decide_eq_true_eq] at hb
  exact ⟨hb.1.1, hb.1.2, hb.2⟩
end
end Mr

/-! Comparisons. -/
namespace Mr
open PySem L2

mutual
def toP : D → PyData
  | .bl b => .bool b
  | .int i => .int i
  | .str x => .str (txS x)
  | .tup l => .tuple (toPs l)
  | .lst l => .list (toPs l)
  | _ => .none
def toPs : List D → List PyData
  | [] => []
  | d :: r => toP d :: toPs r
end
section
variable {g : Gs} {X : Cx} {G H : Hp} {Q : VK} {c : Cn} {K : PySem.W.Frag}
mutual
theorem rep_dp (e : Same G H) : ∀ (d : D) {n : Nat} {v : V}, okD n d = true → Rep c K G d v → Dp K H v (toP d)
  | .non, _, _, _, h => by cases h; exact .non
  | .bl b, _, _, _, h => by cases h; exact .bl b
  | .int i, _, _, _, h => by cases h; exact .int i
  | .str x, _, _, _, h => by obtain ⟨rfl, _⟩ := h; exact .str _
  | .tup l, n, _, o, h => by
    obtain ⟨a, vs, rfl, s, r⟩ := h
    cases n with
    | zero => exact absurd o (by simp [okD])
    | succ n => exact .tup (sqT_same e (Rep.sqT s r)) (rep_dps e l (n := n) (by simpa [okD] using o) r)
  | .lst l, n, _, o, h => by
    obtain ⟨a, vs, rfl, s, r⟩ := h
    cases n with
    | zero => exact absurd o (by simp [okD])
    | succ n => exact .lst (.inl (rd_same e s)) (rep_dps e l (n := n) (by simpa [okD] using o) r)
  | .dk _ _, n, _, o, _ => by cases n <;> simp [okD] at o
  | .dt _ _, n, _, o, _ => by cases n <;> simp [okD] at o
  | .obj _ _ _, n, _, o, _ => by cases n <;> simp [okD] at o
theorem rep_dps (e : Same G H) : ∀ (ds : List D) {n : Nat} {vs : List V}, okDs n ds = true → Reps c K G ds vs → DpAll K H vs (toPs ds)
  | [], _, _, _, h => by
    have h : _ = [] := h
    rw [h]
    exact .nil
  | d :: r, n, _, o, h => by
    obtain ⟨v, t, rfl, h1, h2⟩ := h
    simp only [okDs, Bool.and_eq_true] at o
    exact .cons (rep_dp e d o.1 h1) (rep_dps e r o.2 h2)
end
mutual
theorem rep_lay : ∀ (d : D) {n : Nat} {v : V}, okD n d = true → Rep c K G d v → (toP d).canLay0 = true ∧ (toP d).depth ≤ n
  | .non, _, _, _, _ => ⟨rfl, Nat.zero_le _⟩
  | .bl b, _, _, _, _ => ⟨rfl, Nat.zero_le _⟩
  | .int i, _, _, _, _ => ⟨rfl, Nat.zero_le _⟩
  | .str x, _, _, _, h => by
    obtain ⟨_, t⟩ := h
    refine ⟨?_, Nat.zero_le _⟩
    show PyData.strOk (txS x) = true
    unfold PyData.strOk txS
    unfold txOk at t
    rw [List.all_toArray]
    exact t
  | .tup l, n, _, o, h => by
    obtain ⟨a, vs, rfl, s, r⟩ := h
    cases n with
    | zero => exact absurd o (by simp [okD])
    | succ n =>
      obtain ⟨a, b⟩ := rep_lays l (n := n) (by simpa [okD] using o) r
      exact ⟨by simpa [toP, PyData.canLay0] using a, by simpa [toP, PyData.depth] using b⟩
  | .lst l, n, _, o, h => by
    obtain ⟨a, vs, rfl, s, r⟩ := h
    cases n with
    | zero => exact absurd o (by simp [okD])
    | succ n =>
      obtain ⟨a, b⟩ := rep_lays l (n := n) (by simpa [okD] using o) r
      exact ⟨by simpa [toP, PyData.canLay0] using a, by simpa [toP, PyData.depth] using b⟩
  | .dk _ _, n, _, o, _ => by cases n <;> simp [okD] at o
  | .dt _ _, n, _, o, _ => by cases n <;> simp [okD] at o
  | .obj _ _ _, n, _, o, _ => by cases n <;> simp [okD] at o
theorem rep_lays : ∀ (ds : List D) {n : Nat} {vs : List V}, okDs n ds = true → Reps c K G ds vs → PyData.canLayAll0 (toPs ds) = true ∧ PyData.depthAll (toPs ds) ≤ n
  | [], _, _, _, _ => ⟨rfl, Nat.zero_le _⟩
  | d :: r, n, _, o, h => by
    obtain ⟨v, t, rfl, h1, h2⟩ := h
    simp only [okDs, Bool.and_eq_true] at o
    obtain ⟨a1, b1⟩ := rep_lay d o.1 h1
    obtain ⟨a2, b2⟩ := rep_lays r o.2 h2
    refine ⟨by simp only [toPs, PyData.canLayAll0, a1, a2, Bool.and_self], ?_⟩
    simp only [toPs, PyData.depthAll]
    omega
end
theorem rep_shaped {d : D} {n : Nat} {v : V} (o : okD n d = true) (hn : n ≤ 64) (h : Rep c K G d v) : SeqAt.shaped (toP d) = true := by
  obtain ⟨a, b⟩ := rep_lay d o h
  unfold SeqAt.shaped
  rw [a, Bool.true_and, decide_eq_true_eq]
  omega
theorem txS_inj {x y : Tx} : (txS x == txS y) = (x == y) := by
  by_cases e : x = y
  · subst e
    simp
  · have : ¬ txS x = txS y := fun z => e (by
      have q := congrArg (fun s : Str => s.cps.toList) z
      simpa [txS] using q)
    rw [beq_eq_false_iff_ne.mpr this, beq_eq_false_iff_ne.mpr e]
mutual
theorem eqD_eqv : ∀ (a b : D) {n m : Nat}, okD n a = true → okD m b = true → PyData.eqv (toP a) (toP b) = eqD a b
  | a, b, n, m, oa, ob => by
    cases a with
    | dk _ _ => cases n <;> simp [okD] at oa
    | dt _ _ => cases n <;> simp [okD] at oa
    | obj _ _ _ => cases n <;> simp [okD] at oa
    | tup l =>
      cases b with
      | dk _ _ => cases m <;> simp [okD] at ob
      | dt _ _ => cases m <;> simp [okD] at ob
      | obj _ _ _ => cases m <;> simp [okD] at ob
      | tup r =>
        cases n with
        | zero => simp [okD] at oa
        | succ n =>
          cases m with
          | zero => simp [okD] at ob
          | succ m =>
            simp only [toP, PyData.eqv, eqD]
            exact eqDs_eqv l r (n := n) (m := m) (by simpa [okD] using oa) (by simpa [okD] using ob)
      | _ => simp [toP, PyData.eqv, eqD]
    | lst l =>
      cases b with
      | dk _ _ => cases m <;> simp [okD] at ob
      | dt _ _ => cases m <;> simp [okD] at ob
      | obj _ _ _ => cases m <;> simp [okD] at ob
      | lst r =>
        cases n with
        | zero => simp [okD] at oa
        | succ n =>
          cases m with
          | zero => simp [okD] at ob
          | succ m =>
            simp only [toP, PyData.eqv, eqD]
            exact eqDs_eqv l r (n := n) (m := m) (by simpa [okD] using oa) (by simpa [okD] using ob)
      | _ => simp [toP, PyData.eqv, eqD]
    | str x =>
      cases b with
      | dk _ _ => cases m <;> simp [okD] at ob
      | dt _ _ => cases m <;> simp [okD] at ob
      | obj _ _ _ => cases m <;> simp [okD] at ob
      | str y =>
        simp only [toP, PyData.eqv, eqD]
        exact txS_inj
      | _ => simp [toP, PyData.eqv, eqD]
    | _ =>
      cases b with
      | dk _ _ => cases m <;> simp [okD] at ob
      | dt _ _ => cases m <;> simp [okD] at ob
      | obj _ _ _ => cases m <;> simp [okD] at ob
      | _ => simp [toP, PyData.eqv, eqD]
theorem eqDs_eqv : ∀ (a b : List D) {n m : Nat}, okDs n a = true → okDs m b = true → PyData.eqvAll (toPs a) (toPs b) = eqDs a b
  | [], [], _, _, _, _ => rfl
  | [], _ :: _, _, _, _, _ => rfl
  | _ :: _, [], _, _, _, _ => rfl
  | x :: xs, y :: ys, n, m, oa, ob => by
    simp only [okDs, Bool.and_eq_true] at oa ob
    simp only [toPs, PyData.eqvAll, eqDs]
    rw [eqD_eqv x y oa.1 ob.1, eqDs_eqv xs ys oa.2 ob.2]
end
/-- a comparison -/
def P2B (g : Gs) (p : Pr) (r : R2) : Prop := ∀ dx dy, pr p [dx, dy] ≠ .no → ∃ t, pr p [dx, dy] = .val (.bl t) ∧ ∀ G H x y (Q : VK), Same G H → Rep g.c g.K G dx x → Rep g.c g.K G dy y → Q (.bl t) H → r x y H Q
theorem p2_eq : P2B g .eq (rEqD g.K) := by
  intro dx dy h
  obtain ⟨hb, he⟩ := ifB_ne h
  rw [Bool.and_eq_true] at hb
  refine ⟨_, he, fun G H x y Q e hx hy q => ?_⟩
  refine ⟨toP dx, toP dy, rep_dp e dx hb.1 hx, rep_dp e dy hb.2 hy, rep_shaped hb.1 (by decide) hx, rep_shaped hb.2 (by decide) hy, ?_⟩
  rw [eqD_eqv dx dy hb.1 hb.2]
  exact q
theorem p2_ne : P2B g .ne (rNeD g.K) := by
  intro dx dy h
  obtain ⟨hb, he⟩ := ifB_ne h
  rw [Bool.and_eq_true] at hb
  refine ⟨_, he, fun G H x y Q e hx hy q => ?_⟩
  refine ⟨toP dx, toP dy, rep_dp e dx hb.1 hx, rep_dp e dy hb.2 hy, rep_shaped hb.1 (by decide) hx, rep_shaped hb.2 (by decide) hy, ?_⟩
  rw [eqD_eqv dx dy hb.1 hb.2]
  exact q
/-! ### order -/
theorem ltT_lt : ∀ (x y : Tx), decide (x < y) = ltT x y
  | [], [] => by decide
  | [], _ :: _ => by simp [ltT]
  | _ :: _, [] => by simp [ltT]
  | a :: r, b :: t => by
    unfold ltT
    have ih := ltT_lt r t
    by_cases h1 : a < b
    · rw [if_pos h1]
      exact decide_eq_true (List.cons_lt_cons_iff.mpr (.inl h1))
    · rw [if_neg h1]
      by_cases h2 : b < a
      · rw [if_pos h2]
        refine decide_eq_false fun z => ?_
        rcases List.cons_lt_cons_iff.mp z with q | ⟨q, _⟩ <;> omega
      · rw [if_neg h2]
        have e : a = b := by omega
        subst e
        rw [← ih]
        have q : (a :: r < a :: t) ↔ r < t := by
          rw [List.cons_lt_cons_iff]
          constructor
          · rintro (z | ⟨_, z⟩)
            · omega
            · exact z
          · exact fun z => .inr ⟨rfl, z⟩
        exact decide_eq_decide.mpr q
theorem txS_lt (x y : Tx) : decide ((txS x).cps.toList < (txS y).cps.toList) = ltT x y := by
  rw [← ltT_lt]
  rfl
def rCmp (f : Int → Int → Bool) (h : Str → Str → Bool) : R2 := fun x y H Q => (∃ i j, x = .int i ∧ y = .int j ∧ Q (.bl (f i j)) H) ∨ ∃ i j, x = .str i ∧ y = .str j ∧ Q (.bl (h i j)) H
theorem p2_ord {p : Pr} {f : Int → Int → Bool} {h : Tx → Tx → Bool} {h' : Str → Str → Bool} (hp : ∀ a b, pr p [a, b] = ordB f h a b) (hh : ∀ x y, h' (txS x) (txS y) = h x y) : P2B g p (rCmp f h') := by
  intro dx dy hn
  rw [hp] at hn ⊢
  cases dx <;> cases dy <;> (try exact absurd rfl hn)
  · refine ⟨_, rfl, fun G H x y Q e hx hy q => ?_⟩
    cases hx
    cases hy
    exact .inl ⟨_, _, rfl, rfl, q⟩
  · refine ⟨_, rfl, fun G H x y Q e hx hy q => ?_⟩
    obtain ⟨rfl, t1⟩ := hx
    obtain ⟨rfl, t2⟩ := hy
    refine .inr ⟨_, _, rfl, rfl, ?_⟩
    rw [hh]
    exact q
theorem p2_lt : P2B g .lt (rCmp (fun i j => decide (i < j)) fun i j => decide (i.cps.toList < j.cps.toList)) := p2_ord (fun _ _ => rfl) fun x y => txS_lt x y
theorem p2_le : P2B g .le (rCmp (fun i j => decide (i ≤ j)) fun i j => !decide (j.cps.toList < i.cps.toList)) := p2_ord (fun _ _ => rfl) fun x y => by rw [txS_lt y x]
theorem p2_gt : P2B g .gt (rCmp (fun i j => decide (j < i)) fun i j => decide (j.cps.toList < i.cps.toList)) := p2_ord (fun _ _ => rfl) fun x y => txS_lt y x
theorem p2_ge : P2B g .ge (rCmp (fun i j => decide (j ≤ i)) fun i j => !decide (i.cps.toList < j.cps.toList)) := p2_ord (fun _ _ => rfl) fun x y => by rw [txS_lt x y]
theorem op_ltA : OpR X (compareOp .Lt) (rCmp (fun i j => decide (i < j)) fun i j => decide (i.cps.toList < j.cps.toList)) := op_lt.or op_lt_str
theorem op_leA : OpR X (compareOp .LtE) (rCmp (fun i j => decide (i ≤ j)) fun i j => !decide (j.cps.toList < i.cps.toList)) := op_le.or op_le_str
theorem op_gtA : OpR X (compareOp .Gt) (rCmp (fun i j => decide (j < i)) fun i j => decide (j.cps.toList < i.cps.toList)) := op_gt.or op_gt_str
theorem op_geA : OpR X (compareOp .GtE) (rCmp (fun i j => decide (j ≤ i)) fun i j => !decide (i.cps.toList < j.cps.toList)) := op_ge.or op_ge_str
end
end Mr

/-! Nodes by the number of their parts. -/
namespace Mr
open PySem L2
section
variable {g : Gs} {W : WX} {X : Cx} {B : Addr → Prop} {pn : List Nat} {a b c node : Expr} {as : List Expr}
/-- behind the parts: the operation itself -/
theorem fin_op {ρ ρ1 : Rho} {σ : L2.St} {G H G1 H1 : Hp} {s : Sl} {Q : VK} (gr : Grow (ownA ρ σ) G H G1 H1) (E1 : EnvR g.c g.K B pn G1 H1 ρ1 σ) (le : OwnLe ρ1 ρ)
    (k : ∀ v G' H', Grow (ownA ρ σ) G H G' H' → EnvR g.c g.K B pn G' H' ρ1 σ → OwnLe ρ1 ρ → ResR g.c g.K H G' H' s v → Q v H') : Cont g G1 H1 s Q := by
  intro v G2 H2 g2 r
  refine k v G2 H2 (gr.trans g2 fun _ z => z.elim) (E1.grow g2 fun _ _ z => z) le ?_
  cases s with
  | no => exact r
  | val d => exact r
  | own d =>
    obtain ⟨p, h1, h2, h3⟩ := r
    exact ⟨p, h1, h2, gr.free h3⟩
theorem slR_ne {s : Sl} (ρ : Rho) (h : s ≠ .no) : slR s ρ = .ok (s, ρ) := by
  cases s with
  | no => exact absurd rfl h
  | val _ => rfl
  | own _ => rfl
/-- one part -/
theorem EvOk.one {f : Rho → R (D × Rho)} (ha : EdOk g W X B pn a f) (k : D → Sl) {r0 : V → Hp → VK → Prop} (h0 : ∀ σ H Q, WE X a σ H (fun x H1 => r0 x H1 Q) → WE X node σ H Q)
    (hr : ∀ dx, k dx ≠ .no → ∃ r : V → Hp → VK → Prop, (∀ σ H Q, WE X a σ H (fun x H1 => r x H1 Q) → WE X node σ H Q) ∧ ∀ G H x Q, Same G H → Rep g.c g.K G dx x → Cont g G H (k dx) Q → r x H Q) :
    EvOk g W X B pn node fun ρ => (f ρ).bind fun (x, ρ1) => slR (k x) ρ1 := by
  intro ρ σ G H E
  have q := ha ρ σ G H E
  show match (f ρ).bind fun (x, ρ1) => slR (k x) ρ1 with | .stk => True | .ok (s, ρ') => _ | .exc t fs ds => _
  cases e : f ρ with
  | stk => trivial
  | exc t fs ds =>
    rw [e] at q
    exact fun w Q => h0 σ H Q (q w _)
  | ok p =>
    obtain ⟨d, ρ1⟩ := p
    rw [e] at q
    show match slR (k d) ρ1 with | .stk => True | .ok (s, ρ') => _ | .exc t fs ds => _
    by_cases hk : k d = .no
    · rw [hk]
      trivial
    · rw [slR_ne ρ1 hk]
      intro Q kk
      obtain ⟨r, h1, h2⟩ := hr d hk
      exact h1 σ H Q (q _ fun v G1 H1 gr E1 le rx => h2 G1 H1 v Q E1.sub rx (fin_op gr E1 le kk))
def two (fa fb : Rho → R (D × Rho)) (ρ : Rho) : R ((D × D) × Rho) := (fa ρ).bind fun (x, ρ1) => (fb ρ1).bind fun (y, ρ2) => .ok ((x, y), ρ2)
/-- two parts, one behind the other -/
theorem two_run {fa fb : Rho → R (D × Rho)} (ha : EdOk g W X B pn a fa) (hb : EdOk g W X B pn b fb) {ρ : Rho} {σ : L2.St} {G H : Hp} (E : EnvR g.c g.K B pn G H ρ σ) :
    match two fa fb ρ with
    | .stk => True
    | .ok ((dx, dy), ρ') => ∀ Q2 : V → V → Hp → Prop, (∀ x y G' H', Grow (ownA ρ σ) G H G' H' → EnvR g.c g.K B pn G' H' ρ' σ → OwnLe ρ' ρ → Rep g.c g.K G' dx x → Rep g.c g.K G' dy y → Q2 x y H') → WE X a σ H fun x H1 => WE X b σ H1 fun y H2 => Q2 x y H2
    | .exc t fs ds => (∀ d H', ExcR g (ownA ρ σ) G H t fs ds d H' → W (.ref (g.c.cA t)) d σ H') → ∀ Q2 : V → V → Hp → Prop, WE X a σ H fun x H1 => WE X b σ H1 fun y H2 => Q2 x y H2 := by
  have q := ha ρ σ G H E
  unfold two
  cases e : fa ρ with
  | stk => trivial
  | exc t fs ds =>
    rw [e] at q
    exact fun w Q2 => q w _
  | ok p =>
    obtain ⟨dx, ρ1⟩ := p
    rw [e] at q
    show match (fb ρ1).bind fun (y, ρ2) => .ok ((dx, y), ρ2) with | .stk => True | .ok ((dx, dy), ρ') => _ | .exc t fs ds => _
    cases e2 : fb ρ1 with
    | stk => trivial
    | exc t fs ds =>
      intro w Q2
      refine q _ fun v G1 H1 gr E1 le rx => ?_
      have q2 := hb ρ1 σ G1 H1 E1
      rw [e2] at q2
      exact q2 (fun d H' x => w d H' (x.after gr fun a z => .inl (le.ownA z))) _
    | ok p =>
      obtain ⟨dy, ρ2⟩ := p
      intro Q2 k
      refine q _ fun v G1 H1 gr E1 le rx => ?_
      have q2 := hb ρ1 σ G1 H1 E1
      rw [e2] at q2
      exact q2 _ fun u G2 H2 gr2 E2 le2 ry => k v u G2 H2 (gr.trans gr2 fun a z => .inl (le.ownA z)) E2 (le.trans le2) (rx.mono gr2.gg) ry
theorem EvOk.two {fa fb : Rho → R (D × Rho)} (ha : EdOk g W X B pn a fa) (hb : EdOk g W X B pn b fb) (k : D → D → Sl) {r0 : R2} (h0 : ∀ σ H Q, (WE X a σ H fun x H1 => WE X b σ H1 fun y H2 => r0 x y H2 Q) → WE X node σ H Q)
    (hr : ∀ dx dy, k dx dy ≠ .no → ∃ r : R2, (∀ σ H Q, (WE X a σ H fun x H1 => WE X b σ H1 fun y H2 => r x y H2 Q) → WE X node σ H Q) ∧ ∀ G H x y Q, Same G H → Rep g.c g.K G dx x → Rep g.c g.K G dy y → Cont g G H (k dx dy) Q → r x y H Q) :
    EvOk g W X B pn node fun ρ => (two fa fb ρ).bind fun (p, ρ1) => slR (k p.1 p.2) ρ1 := by
  intro ρ σ G H E
  have q := two_run ha hb E
  show match (Mr.two fa fb ρ).bind fun (p, ρ1) => slR (k p.1 p.2) ρ1 with | .stk => True | .ok (s, ρ') => _ | .exc t fs ds => _
  cases e : Mr.two fa fb ρ with
  | stk => trivial
  | exc t fs ds =>
    rw [e] at q
    exact fun w Q => h0 σ H Q (q w _)
  | ok p =>
    obtain ⟨⟨dx, dy⟩, ρ1⟩ := p
    rw [e] at q
    show match slR (k dx dy) ρ1 with | .stk => True | .ok (s, ρ') => _ | .exc t fs ds => _
    by_cases hk : k dx dy = .no
    · rw [hk]
      trivial
    · rw [slR_ne ρ1 hk]
      intro Q kk
      obtain ⟨r, h1, h2⟩ := hr dx dy hk
      exact h1 σ H Q (q _ fun x y G1 H1 gr E1 le rx ry => h2 G1 H1 x y Q E1.sub rx ry (fin_op gr E1 le kk))
/-- a comparison by a rule of its values, as a value and as a test -/
structure TrC (X : Cx) (node a b : Expr) (r : R2) : Prop where
  v : ∀ σ H Q, (WE X a σ H fun x H1 => WE X b σ H1 fun y H2 => r x y H2 Q) → WE X node σ H Q
  t : ∀ σ H Q, (WE X a σ H fun x H1 => WE X b σ H1 fun y H2 => r x y H2 fun z H3 => ∃ k, z = .bl k ∧ Q k H3) → WT X node σ H Q
def CmpOk (g : Gs) (X : Cx) (node a b : Expr) (k : D → D → Sl) : Prop := (∃ r0, TrC X node a b r0) ∧ ∀ dx dy, k dx dy ≠ .no → ∃ (r : R2) (t : Bool), k dx dy = .val (.bl t) ∧ TrC X node a b r ∧ ∀ G H x y Q, Same G H → Rep g.c g.K G dx x → Rep g.c g.K G dy y → Q (.bl t) H → r x y H Q
theorem CmpOk.ev {k : D → D → Sl} (h : CmpOk g X node a b k) {fa fb : Rho → R (D × Rho)} (ha : EdOk g W X B pn a fa) (hb : EdOk g W X B pn b fb) : EvOk g W X B pn node fun ρ => (Mr.two fa fb ρ).bind fun (p, ρ1) => slR (k p.1 p.2) ρ1 := by
  obtain ⟨⟨r0, h0⟩, h⟩ := h
  refine EvOk.two ha hb k h0.v fun dx dy hk => ?_
  obtain ⟨r, t, e, tr, q⟩ := h dx dy hk
  refine ⟨r, tr.v, fun G H x y Q e' rx ry kk => q G H x y Q e' rx ry ?_⟩
  rw [e] at kk
  exact kk (.bl t) G H (.refl e') rfl
theorem CmpOk.et {k : D → D → Sl} (h : CmpOk g X node a b k) {fa fb : Rho → R (D × Rho)} (ha : EdOk g W X B pn a fa) (hb : EdOk g W X B pn b fb) : EtOk g W X B pn node fun ρ => toT ((Mr.two fa fb ρ).bind fun (p, ρ1) => slR (k p.1 p.2) ρ1) := by
  obtain ⟨⟨r0, h0⟩, h⟩ := h
  intro ρ σ G H E
  have q := two_run ha hb E
  show match toT ((Mr.two fa fb ρ).bind fun (p, ρ1) => slR (k p.1 p.2) ρ1) with | .stk => True | .ok (s, ρ') => _ | .exc t fs ds => _
  cases e : Mr.two fa fb ρ with
  | stk => trivial
  | exc t fs ds =>
    rw [e] at q
    exact fun w Q => h0.t σ H Q (q w _)
  | ok p =>
    obtain ⟨⟨dx, dy⟩, ρ1⟩ := p
    rw [e] at q
    show match toT (slR (k dx dy) ρ1) with | .stk => True | .ok (s, ρ') => _ | .exc t fs ds => _
    by_cases hk : k dx dy = .no
    · rw [hk]
      trivial
    · obtain ⟨r, t, e2, tr, h2⟩ := h dx dy hk
      rw [e2]
      intro Q kk
      exact tr.t σ H Q (q _ fun x y G1 H1 gr E1 le rx ry => h2 G1 H1 x y _ E1.sub rx ry ⟨t, rfl, kk G1 H1 gr E1 le⟩)
/-- arguments -/
theorem ea_nil : EaOk g W X B pn [] fun ρ => .ok ([], ρ) := by
  intro ρ σ G H E
  intro Q k
  exact wa_of pa_nil (k [] G H (.refl E.sub) E (.refl ρ) rfl)
theorem ea_cons {f : Rho → R (D × Rho)} {fs : Rho → R (List D × Rho)} (hs : starEach (a :: as) X.env = (false, eval a X.env) :: starEach as X.env) (ha : EdOk g W X B pn a f) (hr : EaOk g W X B pn as fs) :
    EaOk g W X B pn (a :: as) fun ρ => (f ρ).bind fun (d, ρ1) => (fs ρ1).bind fun (ds, ρ2) => .ok (d :: ds, ρ2) := by
  intro ρ σ G H E
  have q := ha ρ σ G H E
  show match (f ρ).bind fun (d, ρ1) => (fs ρ1).bind fun (ds, ρ2) => .ok (d :: ds, ρ2) with | .stk => True | .ok (s, ρ') => _ | .exc t fs ds => _
  cases e : f ρ with
  | stk => trivial
  | exc t fs ds =>
    rw [e] at q
    exact fun w Q => wa_of (pa_cons (pe_w X a) (pa_w X as) hs) (q w _)
  | ok p =>
    obtain ⟨d, ρ1⟩ := p
    rw [e] at q
    show match (fs ρ1).bind fun (ds, ρ2) => .ok (d :: ds, ρ2) with | .stk => True | .ok (s, ρ') => _ | .exc t fs ds => _
    cases e2 : fs ρ1 with
    | stk => trivial
    | exc t fs ds =>
      intro w Q
      refine wa_of (pa_cons (pe_w X a) (pa_w X as) hs) (q _ fun v G1 H1 gr E1 le rx => ?_)
      have q2 := hr ρ1 σ G1 H1 E1
      rw [e2] at q2
      exact q2 (fun d H' x => w d H' (x.after gr fun a z => .inl (le.ownA z))) _
    | ok p =>
      obtain ⟨ds, ρ2⟩ := p
      intro Q k
      refine wa_of (pa_cons (pe_w X a) (pa_w X as) hs) (q _ fun v G1 H1 gr E1 le rx => ?_)
      have q2 := hr ρ1 σ G1 H1 E1
      rw [e2] at q2
      exact q2 _ fun us G2 H2 gr2 E2 le2 ry => k (v :: us) G2 H2 (gr.trans gr2 fun a z => .inl (le.ownA z)) E2 (le.trans le2) (.cons (rx.mono gr2.gg) ry)
/-- a node over arguments -/
theorem EvOk.args {f : Rho → R (List D × Rho)} (ha : EaOk g W X B pn as f) (k : List D → Sl) {r0 : List V → Hp → VK → Prop} (h0 : ∀ σ H Q, WA X as σ H (fun x H1 => r0 x H1 Q) → WE X node σ H Q)
    (hr : ∀ ds, k ds ≠ .no → ∃ r : List V → Hp → VK → Prop, (∀ σ H Q, WA X as σ H (fun x H1 => r x H1 Q) → WE X node σ H Q) ∧ ∀ G H vs Q, Same G H → Reps g.c g.K G ds vs → Cont g G H (k ds) Q → r vs H Q) :
    EvOk g W X B pn node fun ρ => (f ρ).bind fun (x, ρ1) => slR (k x) ρ1 := by
  intro ρ σ G H E
  have q := ha ρ σ G H E
  show match (f ρ).bind fun (x, ρ1) => slR (k x) ρ1 with | .stk => True | .ok (s, ρ') => _ | .exc t fs ds => _
  cases e : f ρ with
  | stk => trivial
  | exc t fs ds =>
    rw [e] at q
    exact fun w Q => h0 σ H Q (q w _)
  | ok p =>
    obtain ⟨d, ρ1⟩ := p
    rw [e] at q
    show match slR (k d) ρ1 with | .stk => True | .ok (s, ρ') => _ | .exc t fs ds => _
    by_cases hk : k d = .no
    · rw [hk]
      trivial
    · rw [slR_ne ρ1 hk]
      intro Q kk
      obtain ⟨r, h1, h2⟩ := hr d hk
      exact h1 σ H Q (q _ fun v G1 H1 gr E1 le rx => h2 G1 H1 v Q E1.sub rx (fin_op gr E1 le kk))
theorem EvOk.to {f f' : Rho → R (Sl × Rho)} (h : EvOk g W X B pn node f) (e : ∀ ρ, f' ρ = f ρ) : EvOk g W X B pn node f' := by
  have : f' = f := funext e
  rw [this]
  exact h
end
end Mr

/-! The nodes of the text: operators, comparisons, subscripts. -/
namespace Mr
open PySem L2

/-! ### what the syntax must not be -/
def notStar : Expr → Bool
  | .Starred .. => false
  | _ => true
def notSlice : Expr → Bool
  | .Slice .. => false
  | _ => true
def notSet : Expr → Bool
  | .Set .. => false
  | _ => true
def notComp : Expr → Bool
  | .ListComp .. => false
  | .SetComp .. => false
  | .DictComp .. => false
  | _ => true
def plainT : Expr → Bool
  | .UnaryOp .Not _ _ => false
  | .BoolOp .. => false
  | .IfExp .. => false
  | .Compare .. => false
  | _ => true
def notSup : Expr → Bool
  | .Call (.Name _ _) [] [] _ => false
  | _ => true
theorem star_ok {a : Expr} {as : List Expr} {env : Env} (h : notStar a = true) : starEach (a :: as) env = (false, eval a env) :: starEach as env := by
  cases a <;> first | rfl | (simp [starEach]; done) | exact absurd h (by simp [notStar])
theorem plain_ix {b : Expr} (h : notSlice b = true) : PlainIx b := by
  intro o i
  cases b <;> first | rfl | exact absurd h (by simp [notSlice])
theorem marks_ok {op : CmpOp} {b : Expr} (h : notSet b = true) : behindInMarks op b = false := by
  cases b <;> first | rfl | exact absurd h (by simp [notSet])
theorem swaps_ok {e : Expr} {t : Option Expr} {l : Nat} {env : Env} (h : notComp e = true) : swapsWith e t l env = pure false := by
  cases e <;> first | rfl | exact absurd h (by simp [notComp])
theorem plain_t {e : Expr} {env : Env} (h : plainT e = true) (whole : Sem Value) : isTrue e env whole = (do let v ← whole; standAt e.pos; holding [v] (truthy v)) := by
  cases e with
  | UnaryOp op x pos => cases op <;> first | rfl | (simp only [isTrue]; done) | (exfalso; simp [plainT] at h; done)
  | BoolOp => exact absurd h (by simp [plainT])
  | IfExp => exact absurd h (by simp [plainT])
  | Compare => exact absurd h (by simp [plainT])
  | _ => first | (simp [isTrue]; done) | rfl
theorem base_ok {e : Expr} {f : Str} {env : Env} {w : Sem Value} (h : notSup e = true) : attributeBase e f env w = w := by
  unfold attributeBase
  cases e with
  | Call fn args kws pos =>
    cases fn with
    | Name id p =>
      cases args with
      | nil =>
        cases kws with
        | nil => exact absurd h (by simp [notSup])
        | cons _ _ => rfl
      | cons _ _ => rfl
    | _ => rfl
  | _ => rfl
section
variable {g : Gs} {W : WX} {X : Cx} {B : Addr → Prop} {pn : List Nat} {a b c node : Expr} {as : List Expr} {sc : Scope} {N : List Str} {k : Nat} {pos : Pos} {T : Tb} {ea eb ec : E}
theorem evalDs2 {β : Type} (T : Tb) (ea eb : E) (ρ : Rho) (F : List D × Rho → R β) : (evalDs T [ea, eb] ρ).bind F = (two (fun ρ => toD (evalE T ea ρ)) (fun ρ => toD (evalE T eb ρ)) ρ).bind fun x => F ([x.1.1, x.1.2], x.2) := by
  unfold two
  simp only [evalDs]
  cases toD (evalE T ea ρ) with
  | stk => rfl
  | exc _ _ _ => rfl
  | ok p =>
    obtain ⟨x, ρ1⟩ := p
    simp only [R.bind]
    cases toD (evalE T eb ρ1) with
    | stk => rfl
    | exc _ _ _ => rfl
    | ok q => rfl
theorem evalDs1 {β : Type} (T : Tb) (ea : E) (ρ : Rho) (F : List D × Rho → R β) : (evalDs T [ea] ρ).bind F = (toD (evalE T ea ρ)).bind fun x => F ([x.1], x.2) := by
  simp only [evalDs]
  cases toD (evalE T ea ρ) with
  | stk => rfl
  | exc _ _ _ => rfl
  | ok p => rfl
abbrev vE (T : Tb) (e : E) : Rho → R (D × Rho) := fun ρ => toD (evalE T e ρ)
theorem bin_ok {op : Operator} {p : Pr} {r : R2} (ho : OpR X (binaryOp op) r) (hp : P2 g p r) (ha : EdOk g W X B pn a (vE T ea)) (hb : EdOk g W X B pn b (vE T eb)) :
    EvOk g W X B pn (.BinOp a op b pos) (evalE T (.prim p [ea, eb])) := by
  have tr : ∀ σ H Q, (WE X a σ H fun x H1 => WE X b σ H1 fun y H2 => r x y H2 Q) → WE X (.BinOp a op b pos) σ H Q := fun σ H Q h => we_of (pe_op ho (pe_w X a) (pe_w X b)) h
  refine (EvOk.two (r0 := r) ha hb (fun x y => pr p [x, y]) tr fun dx dy h => ⟨r, tr, fun G H x y Q e rx ry kk => hp dx dy G H x y Q e rx ry h kk⟩).to fun ρ => ?_
  simp only [evalE]
  exact evalDs2 T ea eb ρ _
theorem trC_op {op : CmpOp} {r : R2} (hm : notSet b = true) (ho : OpR X (compareOp op) r) : TrC X (.Compare a [op] [b] pos) a b r :=
  ⟨fun σ H Q h => we_of (pe_cmpR ho (pe_w X a) (pe_w X b) (marks_ok hm)) h, fun σ H Q h => wt_of (pt_cmpR ho (pe_w X a) (pe_w X b) (marks_ok hm)) h⟩
theorem cmp_ok {op : CmpOp} {p : Pr} {r : R2} (hm : notSet b = true) (ho : OpR X (compareOp op) r) (hp : P2B g p r) : CmpOk g X (.Compare a [op] [b] pos) a b fun x y => pr p [x, y] := by
  refine ⟨⟨r, trC_op hm ho⟩, fun dx dy h => ?_⟩
  obtain ⟨t, ht, q⟩ := hp dx dy h
  exact ⟨r, t, ht, trC_op hm ho, q⟩
/-- a comparison with None: one part -/
theorem isN_v {j : Nat} {p2 : Pos} (ha : EdOk g W X B pn a (vE T ea)) {op : CmpOp} {p : Pr} {f : D → Bool} (hp : ∀ d, pr p [d] = .val (.bl (f d))) {fv : V → Bool} (hf : ∀ G d v, Rep g.c g.K G d v → fv v = f d)
    (pc : PC X op a (.Constant .none j p2) (fun σ H Q => WE X a σ H fun x H1 => Q (.bl (fv x)) H1)) (h1 : behindInMarks op (.Constant .none j p2) = false) :
    EvOk g W X B pn (.Compare a [op] [.Constant .none j p2] pos) (evalE T (.prim p [ea])) ∧ EtOk g W X B pn (.Compare a [op] [.Constant .none j p2] pos) fun ρ => toT (evalE T (.prim p [ea]) ρ) := by
  have e0 : ∀ ρ, evalE T (.prim p [ea]) ρ = (vE T ea ρ).bind fun x => .ok (.val (.bl (f x.1)), x.2) := fun ρ => by
    simp only [evalE]
    rw [evalDs1 T ea ρ]
    show (vE T ea ρ).bind _ = _
    cases vE T ea ρ with
    | stk => rfl
    | exc _ _ _ => rfl
    | ok q =>
      simp only [R.bind, hp]
      rfl
  refine ⟨fun ρ σ G H E => ?_, fun ρ σ G H E => ?_⟩
  · rw [e0]
    have q := ha ρ σ G H E
    cases e : vE T ea ρ with
    | stk => trivial
    | exc t fs ds =>
      rw [e] at q
      exact fun w Q => we_of (pe_cmp pc h1) (q w _)
    | ok pp =>
      obtain ⟨d, ρ1⟩ := pp
      rw [e] at q
      intro Q kk
      refine we_of (pe_cmp pc h1) (q _ fun v G1 H1 gr E1 le r => ?_)
      rw [hf _ _ _ r]
      exact kk _ G1 H1 gr E1 le rfl
  · show match toT (evalE T (.prim p [ea]) ρ) with | .stk => True | .ok (s, ρ') => _ | .exc t fs ds => _
    rw [e0]
    have q := ha ρ σ G H E
    cases e : vE T ea ρ with
    | stk => trivial
    | exc t fs ds =>
      rw [e] at q
      exact fun w Q => wt_of (pt_cmp pc h1) (q w _)
    | ok pp =>
      obtain ⟨d, ρ1⟩ := pp
      rw [e] at q
      intro Q kk
      refine wt_of (pt_cmp pc h1) (q _ fun v G1 H1 gr E1 le r => ⟨f d, by rw [hf _ _ _ r], kk G1 H1 gr E1 le⟩)
theorem neg_ok (ha : EdOk g W X B pn a (vE T ea)) : EvOk g W X B pn (.UnaryOp .USub a pos) (evalE T (.prim .neg [ea])) := by
  have tr : ∀ σ H Q, WE X a σ H (fun x H1 => rU (fun i => .int (-i)) x H1 Q) → WE X (.UnaryOp .USub a pos) σ H Q := fun σ H Q h => we_of (pe_un un_neg (pe_w X a)) h
  refine (EvOk.one ha (fun x => pr .neg [x]) tr fun dx h => ⟨_, tr, fun G H x Q e rx kk => ?_⟩).to fun ρ => ?_
  · cases dx <;> (try exact absurd rfl h)
    cases rx
    exact ⟨_, rfl, kk.val e rfl⟩
  · simp only [evalE]
    exact evalDs1 T ea ρ _
def isNonD : D → Bool
  | .non => true
  | _ => false
theorem rep_non {c : Cn} {K : PySem.W.Frag} {G : Hp} {d : D} {v : V} (h : Rep c K G d v) : decide (v = .non) = isNonD d := by
  cases d with
  | non => cases h; rfl
  | bl _ => cases h; rfl
  | int _ => cases h; rfl
  | str _ => obtain ⟨rfl, _⟩ := h; rfl
  | tup _ => obtain ⟨_, _, rfl, _⟩ := h; rfl
  | lst _ => obtain ⟨_, _, rfl, _⟩ := h; rfl
  | dk _ _ => obtain ⟨_, _, rfl, _⟩ := h; rfl
  | dt _ _ => obtain ⟨_, _, rfl, _⟩ := h; rfl
  | obj _ _ _ => obtain ⟨_, _, _, rfl, _⟩ := h; rfl
theorem isN_ok {j : Nat} {p2 : Pos} (ha : EdOk g W X B pn a (vE T ea)) : EvOk g W X B pn (.Compare a [.Is] [.Constant .none j p2] pos) (evalE T (.prim .isN [ea])) ∧ EtOk g W X B pn (.Compare a [.Is] [.Constant .none j p2] pos) fun ρ => toT (evalE T (.prim .isN [ea]) ρ) :=
  isN_v (f := isNonD) (fv := fun v => decide (v = .non)) ha (fun d => by cases d <;> rfl) (fun _ _ _ r => rep_non r) (pc_isN (pe_w X a)) rfl
theorem ntN_ok {j : Nat} {p2 : Pos} (ha : EdOk g W X B pn a (vE T ea)) : EvOk g W X B pn (.Compare a [.IsNot] [.Constant .none j p2] pos) (evalE T (.prim .ntN [ea])) ∧ EtOk g W X B pn (.Compare a [.IsNot] [.Constant .none j p2] pos) fun ρ => toT (evalE T (.prim .ntN [ea]) ρ) :=
  isN_v (f := fun d => !isNonD d) (fv := fun v => !decide (v = .non)) ha (fun d => by cases d <;> rfl) (fun _ d _ r => by
    show (!decide _) = _
    rw [rep_non r]) (pc_notN (pe_w X a)) rfl

/-! ### dicts: looking up -/
theorem txS_eq {x y : Tx} : txS x = txS y ↔ x = y := ⟨fun z => by
  have q := congrArg (fun s : Str => s.cps.toList) z
  simpa [txS] using q, fun z => by rw [z]⟩
theorem kyK_eq {x y : Ky} : kyK x = kyK y ↔ x = y := by
  cases x <;> cases y <;> simp [kyK, txS_eq]
theorem kyKs_eq : ∀ {x y : List Ky}, x.map kyK = y.map kyK ↔ x = y
  | [], [] => by simp
  | [], _ :: _ => by simp
  | _ :: _, [] => by simp
  | a :: r, b :: t => by
    rw [List.map_cons, List.map_cons, List.cons.injEq, List.cons.injEq, kyK_eq, kyKs_eq]
theorem look_gen {κ κ' : Type} [DecidableEq κ] [DecidableEq κ'] {K : PySem.W.Frag} {cn : Cn} {G : Hp} (f : κ → κ') (hf : ∀ x y, f x = f y ↔ x = y) : ∀ (ks : List κ) (ds : List D) (vs : List V) (q : κ), Reps cn K G ds vs → ks.length = ds.length →
    match look ks ds q with
    | none => valV ((ks.map f).zip vs) (f q) = none
    | some d => ∃ v, valV ((ks.map f).zip vs) (f q) = some v ∧ Rep cn K G d v
  | [], _, vs, q, _, _ => by
    show valV _ _ = none
    rfl
  | k :: ks, [], vs, q, _, hl => by simp at hl
  | k :: ks, d :: ds, _, q, h, hl => by
    obtain ⟨v, r, rfl, h1, h2⟩ := h
    have ih := look_gen f hf ks ds r q h2 (by simpa using hl)
    simp only [look]
    by_cases e : k = q
    · rw [if_pos e]
      exact ⟨v, by rw [List.map_cons, List.zip_cons_cons, valV_pos (by rw [e])], h1⟩
    · rw [if_neg e]
      have z : valV (((k :: ks).map f).zip (v :: r)) (f q) = valV ((ks.map f).zip r) (f q) := by
        rw [List.map_cons, List.zip_cons_cons, valV_neg (fun z => e ((hf k q).mp z))]
      rw [z]
      exact ih
theorem kV_kyK (k : Ky) : ∃ d, kyD k = d ∧ ∀ (cn : Cn) (K : PySem.W.Frag) (G : Hp), kyOk k = true → Rep cn K G d (kV (kyK k)) := by
  cases k with
  | inl i => exact ⟨_, rfl, fun _ _ _ _ => rfl⟩
  | inr x => exact ⟨_, rfl, fun _ _ _ h => ⟨rfl, h⟩⟩
theorem dKy_rep {cn : Cn} {K : PySem.W.Frag} {G : Hp} {d : D} {k : Ky} {v : V} (e : dKy d = some k) (h : Rep cn K G d v) : v = kV (kyK k) ∧ kyOk k = true := by
  cases d <;> simp [dKy] at e
  · subst e; cases h; exact ⟨rfl, rfl⟩
  · subst e; obtain ⟨rfl, t⟩ := h; exact ⟨rfl, t⟩
theorem dKys_rep {cn : Cn} {K : PySem.W.Frag} {G : Hp} : ∀ {ds : List D} {ks : List Ky} {vs : List V}, dKys ds = some ks → Reps cn K G ds vs → vs = (ks.map kyK).map kV ∧ ks.all kyOk = true
  | [], ks, vs, e, h => by
    simp [dKys] at e
    subst e
    have h : vs = [] := h
    rw [h]
    exact ⟨rfl, rfl⟩
  | d :: ds, ks, _, e, h => by
    obtain ⟨v, r, rfl, h1, h2⟩ := h
    simp only [dKys] at e
    cases e1 : dKy d with
    | none => rw [e1] at e; simp at e
    | some k =>
      cases e2 : dKys ds with
      | none => rw [e1, e2] at e; simp at e
      | some t =>
        rw [e1, e2] at e
        simp at e
        subst e
        obtain ⟨a1, a2⟩ := dKy_rep e1 h1
        obtain ⟨b1, b2⟩ := dKys_rep e2 h2
        rw [a1, b1]
        exact ⟨rfl, by simp [a2, b2]⟩
/-- what a dict's datum holds at a key is what the dict holds -/
theorem dget_k {cn : Cn} {K : PySem.W.Frag} {G H : Hp} {ks : List Ky} {l : List D} {x y : V} {dk : D} {k : Ky} (e : Same G H) (hx : Con cn K G H (.dk ks l) x) (ek : dKy dk = some k) (hy : Rep cn K G dk y) :
    ∃ a, x = .ref a ∧ match look ks l k with | none => DGet H a y none | some d => ∃ v, DGet H a y (some v) ∧ Rep cn K G d v := by
  obtain ⟨a, vs, rfl, hr, h1, h2, h3⟩ := hx
  obtain ⟨rfl, _⟩ := dKy_rep ek hy
  refine ⟨a, rfl, ?_⟩
  have q := look_gen kyK (fun x y => kyK_eq) ks l vs k h1 h2
  cases el : look ks l k with
  | none =>
    rw [el] at q
    exact .inl ⟨_, _, hr, rfl, q.symm⟩
  | some d =>
    rw [el] at q
    obtain ⟨v, q1, q2⟩ := q
    exact ⟨v, .inl ⟨_, _, hr, rfl, q1.symm⟩, q2⟩
theorem dget_t {cn : Cn} {K : PySem.W.Frag} {G H : Hp} {ks : List (List Ky)} {l : List D} {x y : V} {d0 : D} {dr : List D} {k : List Ky} (e : Same G H) (hx : Con cn K G H (.dt ks l) x) (ek : dKys (d0 :: dr) = some k) (hy : Rep cn K G (.tup (d0 :: dr)) y) :
    ∃ a, x = .ref a ∧ match look ks l k with | none => DGet H a y none | some d => ∃ v, DGet H a y (some v) ∧ Rep cn K G d v := by
  obtain ⟨a, vs, rfl, hr, h1, h2, h3⟩ := hx
  obtain ⟨b, us, rfl, hb, h4⟩ := hy
  have hb : G b = some (.tup us) := by
    rcases hb with hb | ⟨z, _⟩
    · exact hb
    · cases z
  obtain ⟨rfl, _⟩ := dKys_rep ek h4
  refine ⟨a, rfl, ?_⟩
  have q := look_gen (fun k => k.map kyK) (fun x y => kyKs_eq) ks l vs k h1 h2
  cases el : look ks l k with
  | none =>
    rw [el] at q
    exact .inr ⟨_, _, b, hr, rfl, e _ _ hb, q.symm⟩
  | some d =>
    rw [el] at q
    obtain ⟨v, q1, q2⟩ := q
    exact ⟨v, .inr ⟨_, _, b, hr, rfl, e _ _ hb, q1.symm⟩, q2⟩
end
end Mr

/-! in, subscripts, slices. -/
namespace Mr
open PySem L2
section
variable {g : Gs} {W : WX} {X : Cx} {B : Addr → Prop} {pn : List Nat} {a b c node : Expr} {as : List Expr} {sc : Scope} {N : List Str} {k : Nat} {pos : Pos} {T : Tb} {ea eb ec : E} {cn : Cn} {K : PySem.W.Frag} {G H : Hp}
theorem Ctx.u1 (C : Ctx g sc N k W X) : X.A.units + 1 < cLine := hu_of C.room
theorem Ctx.u64 (C : Ctx g sc N k W X) : X.A.units + 64 < cLine := C.room.units
theorem Ctx.u65 (C : Ctx g sc N k W X) : X.A.units + 65 < cLine := by have := C.room.un; omega
/-- flat values -/
theorem rep_flat {d : D} {v : V} (h : Rep cn K G d v) (s : isScal d = true) : flatV v = true := by
  cases d <;> simp [isScal] at s
  · cases h; rfl
  · cases h; rfl
  · cases h; rfl
  · obtain ⟨rfl, _⟩ := h; rfl
def scalV : D → V
  | .non => .non
  | .bl b => .bl b
  | .int i => .int i
  | .str x => .str (txS x)
  | _ => .non
theorem rep_scal {d : D} {v : V} (h : Rep cn K G d v) (s : isScal d = true) : v = scalV d := by
  cases d <;> simp [isScal] at s
  · exact h
  · exact h
  · exact h
  · exact h.1
theorem rep_eqV {d e : D} {v u : V} (h : Rep cn K G d v) (h' : Rep cn K G e u) (s : isScal d = true) (s' : isScal e = true) : eqV v u = eqD d e := by
  rw [rep_scal h s, rep_scal h' s']
  cases d <;> simp [isScal] at s <;> cases e <;> simp [isScal] at s'
  all_goals first | rfl | exact txS_inj | (simp [scalV, eqV, eqD, txS_eq]; done)
theorem reps_inV {d : D} {v : V} (h : Rep cn K G d v) (s : isScal d = true) : ∀ {ds : List D} {vs : List V}, Reps cn K G ds vs → ds.all isScal = true → vs.all flatV = true ∧ inV v vs = ds.any fun y => eqD y d
  | [], vs, r, _ => by
    have r : vs = [] := r
    rw [r]
    exact ⟨rfl, rfl⟩
  | e :: ds, _, r, t => by
    obtain ⟨u, us, rfl, h1, h2⟩ := r
    simp only [List.all_cons, Bool.and_eq_true] at t
    obtain ⟨a1, a2⟩ := reps_inV h s h2 t.2
    refine ⟨by rw [List.all_cons, rep_flat h1 t.1, a1]; rfl, ?_⟩
    unfold inV at a2 ⊢
    rw [List.any_cons, List.any_cons, rep_eqV h1 h t.1 s, a2]
theorem any_eqv {d : D} {n : Nat} (o : okD n d = true) : ∀ {l : List D} {m : Nat}, okDs m l = true → ((toPs l).any fun z => PyData.eqv z (toP d)) = l.any fun y => eqD y d
  | [], _, _ => rfl
  | y :: l, m, h => by
    simp only [okDs, Bool.and_eq_true] at h
    simp only [toPs, List.any_cons]
    rw [eqD_eqv y d h.1 o, any_eqv o h.2]
/-- in -/
theorem in_ok (C : Ctx g sc N k W X) (hm : notSet b = true) : CmpOk g X (.Compare a [.In] [b] pos) a b fun x y => pr .inn [x, y] := by
  have trR : ∀ {r : R2}, OpR X (compareOp .In) r → TrC X (.Compare a [.In] [b] pos) a b r := fun ho => trC_op hm ho
  have trD : TrC X (.Compare a [.In] [b] pos) a b (fun x y H2 Q => ∃ p o, y = .ref p ∧ DGet H2 p x o ∧ Q (.bl o.isSome) H2) :=
    ⟨fun σ H Q h => we_of (pe_cmp (pc_din C.u1 (pe_w X a) (pe_w X b)) (marks_ok hm)) h, fun σ H Q h => wt_of (pt_cmp (pc_din C.u1 (pe_w X a) (pe_w X b)) (marks_ok hm)) h⟩
  refine ⟨⟨_, trR op_in_sign⟩, fun dx dy h => ?_⟩
  · have hk : ∃ t, inD dx dy = some t ∧ pr .inn [dx, dy] = .val (.bl t) := by
      show ∃ t, inD dx dy = some t ∧ oB (inD dx dy) = _
      cases e : inD dx dy with
      | none =>
        exfalso
        exact h (by show oB (inD dx dy) = .no; rw [e]; rfl)
      | some t => exact ⟨t, rfl, rfl⟩
    obtain ⟨t, ht, hp⟩ := hk
    cases dy with
    | lst l =>
      refine ⟨_, t, hp, trR (op_inD C.u65), fun G H x y Q e rx ry kk => ?_⟩
      by_cases ho : (okD 60 dx && okDs 60 l) = true
      · have ht : (if (okD 60 dx && okDs 60 l) = true then some (l.any fun y => eqD y dx) else none) = some t := by cases dx <;> exact ht
        rw [if_pos ho] at ht
        cases ht
        rw [Bool.and_eq_true] at ho
        have ol : okD 61 (.lst l) = true := by simpa [okD] using ho.2
        refine ⟨toP dx, toPs l, ?_, ?_, rep_shaped ho.1 (by decide) rx, rep_shaped ol (by decide) ry, ?_⟩
        · rw [C.hK]; exact rep_dp e dx ho.1 rx
        · rw [C.hK]; exact rep_dp e (.lst l) ol ry
        · rw [any_eqv ho.1 ho.2]
          exact kk
      · have ht : (if (okD 60 dx && okDs 60 l) = true then some (l.any fun y => eqD y dx) else none) = some t := by cases dx <;> exact ht
        rw [if_neg ho] at ht
        cases ht
    | tup l =>
      refine ⟨_, t, hp, trR op_in_seq, fun G H x y Q e rx ry kk => ?_⟩
      have ht : (if (isScal dx && l.all isScal) = true then some (l.any fun y => eqD y dx) else none) = some t := by cases dx <;> exact ht
      by_cases ho : (isScal dx && l.all isScal) = true
      · rw [if_pos ho] at ht
        cases ht
        rw [Bool.and_eq_true] at ho
        obtain ⟨p, vs, rfl, s1, r1⟩ := ry
        obtain ⟨q1, q2⟩ := reps_inV rx ho.1 r1 ho.2
        refine ⟨p, vs, rfl, .inr ?_, rep_flat rx ho.1, q1, ?_⟩
        · rw [C.hK]; exact sqT_same e (Rep.sqT s1 r1)
        · show Q (.bl (inV x vs)) H
          rw [q2]
          exact kk
      · rw [if_neg ho] at ht
        cases ht
    | dk ks l =>
      refine ⟨_, t, hp, trD, fun G H x y Q e rx ry kk => ?_⟩
      have ht : ((dKy dx).map fun k => (look ks l k).isSome) = some t := by cases dx <;> exact ht
      cases ek : dKy dx with
      | none => rw [ek] at ht; cases ht
      | some ky =>
        rw [ek] at ht
        cases ht
        obtain ⟨p, rfl, q⟩ := dget_k e (ry.con e) ek rx
        cases el : look ks l ky with
        | none =>
          have kk : Q (.bl (look ks l ky).isSome) H := kk
          rw [el] at q kk
          exact ⟨p, none, rfl, q, kk⟩
        | some d =>
          have kk : Q (.bl (look ks l ky).isSome) H := kk
          rw [el] at q kk
          obtain ⟨v, q, _⟩ := q
          exact ⟨p, some v, rfl, q, kk⟩
    | dt ks l =>
      refine ⟨_, t, hp, trD, fun G H x y Q e rx ry kk => ?_⟩
      cases dx with
      | tup dl =>
        cases dl with
        | nil => cases ht
        | cons d0 dr =>
          have ht : ((dKys (d0 :: dr)).map fun k => (look ks l k).isSome) = some t := ht
          cases ek : dKys (d0 :: dr) with
          | none => rw [ek] at ht; cases ht
          | some ky =>
            rw [ek] at ht
            cases ht
            obtain ⟨p, rfl, q⟩ := dget_t e (ry.con e) ek rx
            cases el : look ks l ky with
            | none =>
              have kk : Q (.bl (look ks l ky).isSome) H := kk
              rw [el] at q kk
              exact ⟨p, none, rfl, q, kk⟩
            | some d =>
              have kk : Q (.bl (look ks l ky).isSome) H := kk
              rw [el] at q kk
              obtain ⟨v, q, _⟩ := q
              exact ⟨p, some v, rfl, q, kk⟩
      | _ => cases ht
    | str z =>
      refine ⟨_, t, hp, trR op_in_sign, fun G H x y Q e rx ry kk => ?_⟩
      cases dx with
      | str w =>
        match w, ht with
        | [ch], ht =>
          cases ht
          obtain ⟨rfl, _⟩ := rx
          obtain ⟨rfl, _⟩ := ry
          refine ⟨ch, txS z, rfl, rfl, ?_⟩
          have q : decide (ch ∈ (txS z).cps.toList) = z.contains ch := by
            show decide (ch ∈ z) = z.contains ch
            by_cases hz : ch ∈ z
            · rw [decide_eq_true hz]; exact (List.contains_iff_mem.mpr hz).symm
            · rw [decide_eq_false hz]; exact (Bool.eq_false_iff.mpr fun q => hz (List.contains_iff_mem.mp q)).symm
          rw [q]
          exact kk
        | [], ht => cases ht
        | _ :: _ :: _, ht => cases ht
      | _ => cases ht
    | _ => cases dx <;> cases ht
/-- not in -/
theorem nin_ok (C : Ctx g sc N k W X) (hm : notSet b = true) : CmpOk g X (.Compare a [.NotIn] [b] pos) a b fun x y => pr .nin [x, y] := by
  have trR : ∀ {r : R2}, OpR X (compareOp .NotIn) r → TrC X (.Compare a [.NotIn] [b] pos) a b r := fun ho => trC_op hm ho
  have trD : TrC X (.Compare a [.NotIn] [b] pos) a b (fun x y H2 Q => ∃ p o, y = .ref p ∧ DGet H2 p x o ∧ Q (.bl (!o.isSome)) H2) :=
    ⟨fun σ H Q h => we_of (pe_cmp (pc_dnotin C.u1 (pe_w X a) (pe_w X b)) (marks_ok hm)) h, fun σ H Q h => wt_of (pt_cmp (pc_dnotin C.u1 (pe_w X a) (pe_w X b)) (marks_ok hm)) h⟩
  refine ⟨⟨_, trR op_notIn_sign⟩, fun dx dy h => ?_⟩
  · have hk : ∃ t, inD dx dy = some t ∧ pr .nin [dx, dy] = .val (.bl (!t)) := by
      show ∃ t, inD dx dy = some t ∧ oB ((inD dx dy).map (!·)) = _
      cases e : inD dx dy with
      | none =>
        exfalso
        exact h (by show oB ((inD dx dy).map (!·)) = .no; rw [e]; rfl)
      | some t => exact ⟨t, rfl, rfl⟩
    obtain ⟨t, ht, hp⟩ := hk
    cases dy with
    | lst l =>
      refine ⟨_, (!t), hp, trR (op_notInD C.u65), fun G H x y Q e rx ry kk => ?_⟩
      by_cases ho : (okD 60 dx && okDs 60 l) = true
      · have ht : (if (okD 60 dx && okDs 60 l) = true then some (l.any fun y => eqD y dx) else none) = some t := by cases dx <;> exact ht
        rw [if_pos ho] at ht
        cases ht
        rw [Bool.and_eq_true] at ho
        have ol : okD 61 (.lst l) = true := by simpa [okD] using ho.2
        refine ⟨toP dx, toPs l, ?_, ?_, rep_shaped ho.1 (by decide) rx, rep_shaped ol (by decide) ry, ?_⟩
        · rw [C.hK]; exact rep_dp e dx ho.1 rx
        · rw [C.hK]; exact rep_dp e (.lst l) ol ry
        · rw [any_eqv ho.1 ho.2]
          exact kk
      · have ht : (if (okD 60 dx && okDs 60 l) = true then some (l.any fun y => eqD y dx) else none) = some t := by cases dx <;> exact ht
        rw [if_neg ho] at ht
        cases ht
    | tup l =>
      refine ⟨_, (!t), hp, trR op_notIn_seq, fun G H x y Q e rx ry kk => ?_⟩
      have ht : (if (isScal dx && l.all isScal) = true then some (l.any fun y => eqD y dx) else none) = some t := by cases dx <;> exact ht
      by_cases ho : (isScal dx && l.all isScal) = true
      · rw [if_pos ho] at ht
        cases ht
        rw [Bool.and_eq_true] at ho
        obtain ⟨p, vs, rfl, s1, r1⟩ := ry
        obtain ⟨q1, q2⟩ := reps_inV rx ho.1 r1 ho.2
        refine ⟨p, vs, rfl, .inr ?_, rep_flat rx ho.1, q1, ?_⟩
        · rw [C.hK]; exact sqT_same e (Rep.sqT s1 r1)
        · show Q (.bl (!inV x vs)) H
          rw [q2]
          exact kk
      · rw [if_neg ho] at ht
        cases ht
    | dk ks l =>
      refine ⟨_, (!t), hp, trD, fun G H x y Q e rx ry kk => ?_⟩
      have ht : ((dKy dx).map fun k => (look ks l k).isSome) = some t := by cases dx <;> exact ht
      cases ek : dKy dx with
      | none => rw [ek] at ht; cases ht
      | some ky =>
        rw [ek] at ht
        cases ht
        obtain ⟨p, rfl, q⟩ := dget_k e (ry.con e) ek rx
        cases el : look ks l ky with
        | none =>
          have kk : Q (.bl (!(look ks l ky).isSome)) H := kk
          rw [el] at q kk
          exact ⟨p, none, rfl, q, kk⟩
        | some d =>
          have kk : Q (.bl (!(look ks l ky).isSome)) H := kk
          rw [el] at q kk
          obtain ⟨v, q, _⟩ := q
          exact ⟨p, some v, rfl, q, kk⟩
    | dt ks l =>
      refine ⟨_, (!t), hp, trD, fun G H x y Q e rx ry kk => ?_⟩
      cases dx with
      | tup dl =>
        cases dl with
        | nil => cases ht
        | cons d0 dr =>
          have ht : ((dKys (d0 :: dr)).map fun k => (look ks l k).isSome) = some t := ht
          cases ek : dKys (d0 :: dr) with
          | none => rw [ek] at ht; cases ht
          | some ky =>
            rw [ek] at ht
            cases ht
            obtain ⟨p, rfl, q⟩ := dget_t e (ry.con e) ek rx
            cases el : look ks l ky with
            | none =>
              have kk : Q (.bl (!(look ks l ky).isSome)) H := kk
              rw [el] at q kk
              exact ⟨p, none, rfl, q, kk⟩
            | some d =>
              have kk : Q (.bl (!(look ks l ky).isSome)) H := kk
              rw [el] at q kk
              obtain ⟨v, q, _⟩ := q
              exact ⟨p, some v, rfl, q, kk⟩
      | _ => cases ht
    | str z =>
      refine ⟨_, (!t), hp, trR op_notIn_sign, fun G H x y Q e rx ry kk => ?_⟩
      cases dx with
      | str w =>
        match w, ht with
        | [ch], ht =>
          cases ht
          obtain ⟨rfl, _⟩ := rx
          obtain ⟨rfl, _⟩ := ry
          refine ⟨ch, txS z, rfl, rfl, ?_⟩
          have q : decide (ch ∈ (txS z).cps.toList) = z.contains ch := by
            show decide (ch ∈ z) = z.contains ch
            by_cases hz : ch ∈ z
            · rw [decide_eq_true hz]; exact (List.contains_iff_mem.mpr hz).symm
            · rw [decide_eq_false hz]; exact (Bool.eq_false_iff.mpr fun q => hz (List.contains_iff_mem.mp q)).symm
          rw [q]
          exact kk
        | [], ht => cases ht
        | _ :: _ :: _, ht => cases ht
      | _ => cases ht
    | _ => cases dx <;> cases ht
end
end Mr

/-! subscripts, slices. -/
namespace Mr
open PySem L2
section
variable {g : Gs} {W : WX} {X : Cx} {B : Addr → Prop} {pn : List Nat} {a b c node : Expr} {as : List Expr} {sc : Scope} {N : List Str} {k : Nat} {pos : Pos} {T : Tb} {ea eb ec : E} {cn : Cn} {K : PySem.W.Frag} {G H : Hp}
theorem atI_eq {α : Type} (xs : List α) (i : Int) : Mr.atI xs i = L2.atI xs i := rfl
theorem ixN_eq (n : Nat) (i : Int) : Mr.ixN n i = L2.ixN n i := rfl
theorem reps_atI {ds : List D} {vs : List V} {i : Int} {d : D} (r : Reps cn K G ds vs) (h : Mr.atI ds i = some d) : ∃ v, L2.atI vs i = some v ∧ Rep cn K G d v := by
  unfold Mr.atI at h
  unfold L2.atI
  rw [r.length, ← ixN_eq]
  cases e : Mr.ixN ds.length i with
  | none => rw [e] at h; cases h
  | some j =>
    rw [e] at h
    exact r.get h
/-- a[b] by values: what the datum says -/
theorem idx_run (C : Ctx g sc N k W X) (hs : notSlice b = true) {dx dy d : D} (hd : idxD dx dy = some d) :
    ∃ r : R2, (∀ σ H Q, (WE X a σ H fun x H1 => WE X b σ H1 fun y H2 => r x y H2 Q) → WE X (.Subscript a b pos) σ H Q) ∧
      ∀ G H x y Q, Same G H → Con g.c g.K G H dx x → Rep g.c g.K G dy y → (∀ v, Rep g.c g.K G d v → Q v H) → r x y H Q := by
  have trI : ∀ {r : R2}, IxR X r → ∀ σ H Q, (WE X a σ H fun x H1 => WE X b σ H1 fun y H2 => r x y H2 Q) → WE X (.Subscript a b pos) σ H Q := fun hr σ H Q h => we_of (pe_ix hr (pe_w X a) (pe_w X b) (plain_ix hs)) h
  have trD : ∀ σ H Q, (WE X a σ H fun x H1 => WE X b σ H1 fun y H2 => ∃ p v, x = .ref p ∧ DGet H2 p y (some v) ∧ Q v H2) → WE X (.Subscript a b pos) σ H Q := fun σ H Q h => we_of (pe_dget C.u1 (pe_w X a) (pe_w X b) (plain_ix hs)) h
  cases dx with
  | lst l =>
    refine ⟨_, trI ix_list, fun G H x y Q e rx ry kk => ?_⟩
    cases dy <;> (try cases hd)
    obtain ⟨p, vs, rfl, s1, r1⟩ := rx
    cases ry
    obtain ⟨v, h1, h2⟩ := reps_atI r1 hd
    exact ⟨p, vs, _, v, rfl, rfl, .inl s1, h1, kk v h2⟩
  | tup l =>
    refine ⟨_, trI ix_tup, fun G H x y Q e rx ry kk => ?_⟩
    cases dy <;> (try cases hd)
    obtain ⟨p, vs, rfl, s1, r1⟩ := rx
    cases ry
    obtain ⟨v, h1, h2⟩ := reps_atI r1 hd
    refine ⟨p, vs, _, v, rfl, rfl, ?_, h1, kk v h2⟩
    rw [C.hK]
    exact s1
  | str z =>
    refine ⟨_, trI ix_str, fun G H x y Q e rx ry kk => ?_⟩
    cases dy <;> (try cases hd)
    rename_i i
    obtain ⟨rfl, t⟩ := rx
    cases ry
    have hd : (if decide (z.length ≤ big) = true then (Mr.atI z i).map fun c => D.str [c] else none) = some d := hd
    by_cases hz : decide (z.length ≤ big) = true
    · rw [if_pos hz] at hd
      cases ea : Mr.atI z i with
      | none => rw [ea] at hd; cases hd
      | some ch =>
        rw [ea] at hd
        cases hd
        refine ⟨txS z, i, ch, rfl, rfl, by rw [txS_len, ← bigL]; exact of_decide_eq_true hz, ea, kk _ ⟨rfl, ?_⟩⟩
        unfold txOk at t ⊢
        rw [List.all_cons, List.all_nil, Bool.and_true]
        refine List.all_eq_true.mp t ch ?_
        obtain ⟨j, _, hj, _⟩ := atI_get (atI_eq z i ▸ ea)
        exact List.mem_of_getElem? hj
    · rw [if_neg hz] at hd
      cases hd
  | dk ks l =>
    refine ⟨_, trD, fun G H x y Q e rx ry kk => ?_⟩
    have hd : (dKy dy).bind (look ks l) = some d := by cases dy <;> exact hd
    cases ek : dKy dy with
    | none => rw [ek] at hd; cases hd
    | some ky =>
      rw [ek] at hd
      have hd : look ks l ky = some d := hd
      obtain ⟨p, rfl, q⟩ := dget_k e rx ek ry
      rw [hd] at q
      obtain ⟨v, q1, q2⟩ := q
      exact ⟨p, v, rfl, q1, kk v q2⟩
  | dt ks l =>
    refine ⟨_, trD, fun G H x y Q e rx ry kk => ?_⟩
    cases dy with
    | tup dl =>
      cases dl with
      | nil => cases hd
      | cons d0 dr =>
        have hd : (dKys (d0 :: dr)).bind (look ks l) = some d := hd
        cases ek : dKys (d0 :: dr) with
        | none => rw [ek] at hd; cases hd
        | some ky =>
          rw [ek] at hd
          have hd : look ks l ky = some d := hd
          obtain ⟨p, rfl, q⟩ := dget_t e rx ek ry
          rw [hd] at q
          obtain ⟨v, q1, q2⟩ := q
          exact ⟨p, v, rfl, q1, kk v q2⟩
    | _ => cases hd
  | _ => cases dy <;> cases hd
theorem oV_ne {o : Option D} (h : oV o ≠ .no) : ∃ d, o = some d ∧ oV o = .val d := by
  cases o with
  | none => exact absurd rfl h
  | some d => exact ⟨d, rfl, rfl⟩
theorem idx_ok (C : Ctx g sc N k W X) (hs : notSlice b = true) (ha : EdOk g W X B pn a (vE T ea)) (hb : EdOk g W X B pn b (vE T eb)) :
    EvOk g W X B pn (.Subscript a b pos) (evalE T (.prim .idx [ea, eb])) := by
  refine (EvOk.two ha hb (fun x y => pr .idx [x, y]) (r0 := rIxS) (fun σ H Q h => we_of (pe_ix ix_str (pe_w X a) (pe_w X b) (plain_ix hs)) h) fun dx dy h => ?_).to fun ρ => ?_
  · obtain ⟨d, h1, h2⟩ := oV_ne (o := idxD dx dy) h
    obtain ⟨r, t1, t2⟩ := idx_run (pos := pos) (a := a) C hs h1
    refine ⟨r, t1, fun G H x y Q e rx ry kk => t2 G H x y Q e (rx.con e) ry fun v rv => ?_⟩
    have kk : Cont g G H (oV (idxD dx dy)) Q := kk
    rw [h2] at kk
    exact kk.val e rv
  · simp only [evalE]
    exact evalDs2 T ea eb ρ _
/-- x[b], x a name: our own thing, or told data -/
theorem idxV_ok (C : Ctx g sc N k W X) {i : Nat} {x : Str} {p : Pos} (hN : N[i]? = some x) (hv : Vis sc x) (hd : (x == ("__debug__" : Str)) = false) (hcd : (x == ("__classdict__" : Str)) = false) (hs : notSlice b = true) (hb : EdOk g W X B pn b (vE T eb)) :
    EvOk g W X B pn (.Subscript (.Name x p) b pos) (evalE T (.idxV i eb)) := by
  intro ρ σ G H E
  have hvar : PE X (.Name x p) (tVar i) := pe_var (by rw [C.hN]; exact hN) (by rw [C.hs]; exact hv) hd hcd
  simp only [evalE]
  by_cases hk : known ρ i = true
  · rw [if_pos hk]
    have hσ : ∃ v, σ[i]? = some (some v) := by
      unfold known at hk
      cases e : ρ[i]? with
      | none => rw [e] at hk; cases hk
      | some s =>
        rw [e] at hk
        cases s with
        | no => cases hk
        | val d =>
          obtain ⟨v, h1, _⟩ := E.val i d e
          exact ⟨v, h1⟩
        | own d =>
          obtain ⟨a, h1, _⟩ := E.own i d e
          exact ⟨_, h1⟩
    obtain ⟨v0, hv0⟩ := hσ
    have q := hb ρ σ G H E
    have start : ∀ {Q : VK} {r : R2}, (∀ σ H Q, (WE X (.Name x p) σ H fun x H1 => WE X b σ H1 fun y H2 => r x y H2 Q) → WE X (.Subscript (.Name x p) b pos) σ H Q) → (WE X b σ H fun y H2 => r v0 y H2 Q) → WE X (.Subscript (.Name x p) b pos) σ H Q :=
      fun tr h => tr σ H _ (we_of hvar ⟨v0, hv0, h⟩)
    cases e : toD (evalE T eb ρ) with
    | stk => trivial
    | exc t fs ds =>
      simp only [vE] at q
      rw [e] at q
      exact fun w Q => start (fun σ H Q h => we_of (pe_ix ix_str (pe_w X _) (pe_w X b) (plain_ix hs)) h) (q w _)
    | ok pp =>
      obtain ⟨dy, ρ1⟩ := pp
      simp only [vE] at q
      rw [e] at q
      show match (match ρ1[i]? with | some (.own d) => slR (oV (idxD d dy)) ρ1 | some (.val d) => slR (oV (idxD d dy)) ρ1 | _ => .stk) with | .stk => True | .ok (s, ρ') => _ | .exc t fs ds => _
      cases e1 : ρ1[i]? with
      | none => trivial
      | some s =>
        have main : ∀ d, (∀ G1 H1, EnvR g.c g.K B pn G1 H1 ρ1 σ → Con g.c g.K G1 H1 d v0) →
            match slR (oV (idxD d dy)) ρ1 with
            | .stk => True
            | .ok (s, ρ') => ∀ Q : VK, (∀ v G' H', Grow (ownA ρ σ) G H G' H' → EnvR g.c g.K B pn G' H' ρ' σ → OwnLe ρ' ρ → ResR g.c g.K H G' H' s v → Q v H') → WE X (.Subscript (.Name x p) b pos) σ H Q
            | .exc t fs ds => (∀ d H', ExcR g (ownA ρ σ) G H t fs ds d H' → W (.ref (g.c.cA t)) d σ H') → ∀ Q : VK, WE X (.Subscript (.Name x p) b pos) σ H Q := by
          intro d hr
          by_cases hn : oV (idxD d dy) = .no
          · rw [hn]; trivial
          · obtain ⟨j, h1, h2⟩ := oV_ne hn
            rw [h2]
            intro Q kk
            obtain ⟨r, t1, t2⟩ := idx_run (pos := pos) (a := .Name x p) C hs h1
            exact start t1 (q _ fun y G1 H1 gr E1 le ry => t2 G1 H1 v0 y Q E1.sub (hr G1 H1 E1) ry fun v rv => kk v G1 H1 gr E1 le rv)
        cases s with
        | no => trivial
        | val d =>
          refine main d fun G1 H1 E1 => ?_
          obtain ⟨v, h1, h2⟩ := E1.val i d e1
          rw [hv0] at h1
          cases h1
          exact h2.con E1.sub
        | own d =>
          refine main d fun G1 H1 E1 => ?_
          obtain ⟨p, h1, h2, _⟩ := E1.own i d e1
          rw [hv0] at h1
          cases h1
          exact h2.con
  · rw [if_neg hk]
    trivial
end
end Mr

/-! slices. -/
namespace Mr
open PySem L2
section
variable {g : Gs} {W : WX} {X : Cx} {B : Addr → Prop} {pn : List Nat} {a b c node : Expr} {as : List Expr} {sc : Scope} {N : List Str} {k : Nat} {pos p2 : Pos} {T : Tb} {ea eb ec : E} {cn : Cn} {K : PySem.W.Frag} {G H : Hp}
theorem reps_cut {ds : List D} {vs : List V} (r : Reps cn K G ds vs) (lo hi : Option Int) : Reps cn K G (cut ds lo hi) (cutV vs lo hi) := by
  unfold cut cutV
  rw [r.length]
  exact (r.drop _).take _
theorem txOk_cut {x : Tx} (t : txOk x = true) (lo hi : Option Int) : txOk (cut x lo hi) = true := by
  unfold txOk at t ⊢
  refine List.all_eq_true.mpr fun n hn => List.all_eq_true.mp t n ?_
  unfold cut at hn
  exact List.mem_of_mem_drop (List.mem_of_mem_take hn)
theorem cutS_eq (x : Tx) (lo hi : Option Int) : cutS (txS x) lo hi = txS (cut x lo hi) := by
  unfold cutS cut
  rw [txS_len]
  rfl
/-- a slice, by values -/
theorem cut_run (C : Ctx g sc N k W X) {dx : D} {lo hi : Option Int} (h : cutD dx lo hi ≠ .no) :
    ∃ r : V → Option Int → Option Int → Hp → VK → Prop, SlR X r ∧ ∀ G H x Q, Same G H → Rep g.c g.K G dx x → Cont g G H (cutD dx lo hi) Q → r x lo hi H Q := by
  cases dx <;> (try exact absurd rfl h)
  · rename_i z
    refine ⟨_, sl_str, fun G H x Q e rx kk => ?_⟩
    obtain ⟨rfl, t⟩ := rx
    obtain ⟨hb, he⟩ := ifB_ne h
    have kk := kk.to he
    refine ⟨txS z, rfl, by rw [txS_len, ← bigL]; exact of_decide_eq_true hb, ?_⟩
    rw [cutS_eq]
    exact kk.val e ⟨rfl, txOk_cut t lo hi⟩
  · rename_i l
    refine ⟨_, sl_tupA, fun G H x Q e rx kk => ?_⟩
    obtain ⟨p, vs, rfl, s1, r1⟩ := rx
    refine ⟨p, vs, rfl, ?_, fun hw => ?_, fun hw q n => kk.newT e (reps_cut r1 lo hi) n⟩
    · rw [C.hK]; exact sqT_same e (Rep.sqT s1 r1)
    · refine kk.val e ⟨p, vs, rfl, ?_, ?_⟩
      · have ec : cut l lo hi = l := by
          unfold cut
          rw [r1.length] at hw
          have h1 : Mr.sIx l.length 0 lo = 0 := hw.1
          have h2 : Mr.sIx l.length l.length hi = l.length := hw.2
          rw [h1, h2, List.drop_zero, Nat.sub_zero, List.take_length]
        rw [ec]
        exact s1
      · have ec : cut l lo hi = l := by
          unfold cut
          rw [r1.length] at hw
          have h1 : Mr.sIx l.length 0 lo = 0 := hw.1
          have h2 : Mr.sIx l.length l.length hi = l.length := hw.2
          rw [h1, h2, List.drop_zero, Nat.sub_zero, List.take_length]
        rw [ec]
        exact r1
  · rename_i l
    refine ⟨_, sl_list, fun G H x Q e rx kk => ?_⟩
    obtain ⟨p, vs, rfl, s1, r1⟩ := rx
    exact ⟨p, vs, rfl, .inl (rd_same e s1), fun q n => kk.newL e (reps_cut r1 lo hi) n⟩
theorem sl01_ok (C : Ctx g sc N k W X) (ha : EdOk g W X B pn a (vE T ea)) (hb : EdOk g W X B pn b (vE T eb)) : EvOk g W X B pn (.Subscript a (.Slice none (some b) none p2) pos) (evalE T (.prim .sl01 [ea, eb])) := by
  have tr : ∀ {r : V → Option Int → Option Int → Hp → VK → Prop}, SlR X r → ∀ σ H Q, (WE X a σ H fun x H1 => WE X b σ H1 fun y H2 => ∃ j, y = .int j ∧ r x none (some j) H2 Q) → WE X (.Subscript a (.Slice none (some b) none p2) pos) σ H Q := fun hr σ H Q h => we_of (pe_slice hr (pe_w X a) po_none (po_some (pe_w X b))) h
  refine (EvOk.two ha hb (fun x y => pr .sl01 [x, y]) (r0 := fun x y H Q => ∃ j, y = .int j ∧ rSlS x none (some j) H Q) (tr sl_str) fun dx dy h => ?_).to fun ρ => ?_
  · cases dy with
    | int j =>
      obtain ⟨r, h1, h2⟩ := cut_run (dx := dx) (lo := none) (hi := some j) C h
      refine ⟨_, tr h1, fun G H x y Q e rx ry kk => ?_⟩
      cases ry
      exact ⟨j, rfl, h2 G H x Q e rx kk⟩
    | _ => exact absurd rfl h
  · simp only [evalE]
    exact evalDs2 T ea eb ρ _
theorem sl10_ok (C : Ctx g sc N k W X) (ha : EdOk g W X B pn a (vE T ea)) (hb : EdOk g W X B pn b (vE T eb)) : EvOk g W X B pn (.Subscript a (.Slice (some b) none none p2) pos) (evalE T (.prim .sl10 [ea, eb])) := by
  have tr : ∀ {r : V → Option Int → Option Int → Hp → VK → Prop}, SlR X r → ∀ σ H Q, (WE X a σ H fun x H1 => WE X b σ H1 fun y H2 => ∃ j, y = .int j ∧ r x (some j) none H2 Q) → WE X (.Subscript a (.Slice (some b) none none p2) pos) σ H Q := fun hr σ H Q h => we_of (pe_slice hr (pe_w X a) (po_some (pe_w X b)) po_none) h
  refine (EvOk.two ha hb (fun x y => pr .sl10 [x, y]) (r0 := fun x y H Q => ∃ j, y = .int j ∧ rSlS x (some j) none H Q) (tr sl_str) fun dx dy h => ?_).to fun ρ => ?_
  · cases dy with
    | int j =>
      obtain ⟨r, h1, h2⟩ := cut_run (dx := dx) (lo := some j) (hi := none) C h
      refine ⟨_, tr h1, fun G H x y Q e rx ry kk => ?_⟩
      cases ry
      exact ⟨j, rfl, h2 G H x Q e rx kk⟩
    | _ => exact absurd rfl h
  · simp only [evalE]
    exact evalDs2 T ea eb ρ _
theorem rev_ok (C : Ctx g sc N k W X) {j : Nat} {q1 q2 : Pos} (ha : EdOk g W X B pn a (vE T ea)) : EvOk g W X B pn (.Subscript a (.Slice none none (some (.UnaryOp .USub (.Constant (.int 1) j q1) q2)) p2) pos) (evalE T (.prim .rev [ea])) := by
  have tr : ∀ σ H Q, WE X a σ H (fun x H1 => ∃ p xs, x = .ref p ∧ SqL X.K H1 p xs ∧ ∀ q, H1 q = none → Q (.ref q) (upd H1 q (.lst xs.reverse))) → WE X (.Subscript a (.Slice none none (some (.UnaryOp .USub (.Constant (.int 1) j q1) q2)) p2) pos) σ H Q := fun σ H Q h => we_of (pe_revL (pe_w X a)) h
  refine (EvOk.one (r0 := fun x H1 Q => ∃ p xs, x = .ref p ∧ SqL X.K H1 p xs ∧ ∀ q, H1 q = none → Q (.ref q) (upd H1 q (.lst xs.reverse))) ha (fun x => pr .rev [x]) tr fun dx h => ⟨_, tr, fun G H x Q e rx kk => ?_⟩).to fun ρ => ?_
  · cases dx <;> (try exact absurd rfl h)
    obtain ⟨p, vs, rfl, s1, r1⟩ := rx
    exact ⟨p, vs, rfl, .inl (rd_same e s1), fun q n => kk.newL e r1.rev n⟩
  · simp only [evalE]
    exact evalDs1 T ea ρ _
end
end Mr

/-! Calls of built-ins. -/
namespace Mr
open PySem L2
section
variable {g : Gs} {W : WX} {X : Cx} {B : Addr → Prop} {pn : List Nat} {a b c node : Expr} {as : List Expr} {sc : Scope} {N : List Str} {k : Nat} {pos p2 : Pos} {T : Tb} {ea eb ec : E} {es : List E} {cn : Cn} {K : PySem.W.Frag} {G H : Hp}
def CP (g : Gs) (X : Cx) (f : Value) (p : Pr) : Prop := ∀ ds, pr p ds ≠ .no → ∃ r, CallR X f r ∧ ∀ G H vs Q, Same G H → Reps g.c g.K G ds vs → Cont g G H (pr p ds) Q → r vs H Q
theorem plain_args {as : List Expr} {env : Env} (h : as.all notStar = true) : (backTo pos (starEach as env)).any (·.1) = false := by
  induction as with
  | nil => rfl
  | cons a as ih =>
    rw [List.all_cons, Bool.and_eq_true] at h
    rw [star_ok h.1]
    show (false || (backTo pos (starEach as env)).any (·.1)) = false
    rw [ih h.2]
    rfl
theorem callB_ok {x : Str} {id : String} {p : Pr} {p1 : Pos} (cp : CP g X (.builtin id) p) (hg : Gl X x) (hm : X.mg x = none) (hv : bootBuiltins x = some (.builtin id)) (hn : x ≠ "__name__") (hdb : (x == ("__debug__" : Str)) = false)
    (hs : (a :: as).all notStar = true) (ha : EaOk g W X B pn (a :: as) (evalDs T es)) : EvOk g W X B pn (.Call (.Name x p1) (a :: as) [] pos) (evalE T (.prim p es)) := by
  rw [List.all_cons, Bool.and_eq_true] at hs
  have tr : ∀ {r}, CallR X (.builtin id) r → ∀ σ H Q, WA X (a :: as) σ H (fun vs H1 => r vs H1 Q) → WE X (.Call (.Name x p1) (a :: as) [] pos) σ H Q := fun hc σ H Q h => we_of (pe_callB hc hg hm hv (pa_w X (a :: as)) hn hdb (star_ok hs.1) (plain_args hs.2)) h
  refine (EvOk.args ha (fun ds => pr p ds) (r0 := fun _ _ _ => False) (tr fun _ _ _ _ _ _ _ _ _ h => h.elim) fun ds h => ?_).to fun ρ => by simp only [evalE]
  obtain ⟨r, h1, h2⟩ := cp ds h
  exact ⟨r, tr h1, h2⟩
theorem callT_ok {x : Str} {id : String} {p : Pr} {p1 : Pos} (cp : CP g X (.type id) p) (hg : Gl X x) (hm : X.mg x = none) (hv : bootBuiltins x = some (.type id)) (hn : x ≠ "__name__") (hdb : (x == ("__debug__" : Str)) = false)
    (hs : (a :: as).all notStar = true) (ha : EaOk g W X B pn (a :: as) (evalDs T es)) : EvOk g W X B pn (.Call (.Name x p1) (a :: as) [] pos) (evalE T (.prim p es)) := by
  rw [List.all_cons, Bool.and_eq_true] at hs
  have tr : ∀ {r}, CallR X (.type id) r → ∀ σ H Q, WA X (a :: as) σ H (fun vs H1 => r vs H1 Q) → WE X (.Call (.Name x p1) (a :: as) [] pos) σ H Q := fun hc σ H Q h => we_of (pe_callTy hc hg hm hv (pa_w X (a :: as)) hn hdb (star_ok hs.1) (plain_args hs.2)) h
  refine (EvOk.args ha (fun ds => pr p ds) (r0 := fun _ _ _ => False) (tr fun _ _ _ _ _ _ _ _ _ h => h.elim) fun ds h => ?_).to fun ρ => by simp only [evalE]
  obtain ⟨r, h1, h2⟩ := cp ds h
  exact ⟨r, tr h1, h2⟩
theorem Reps.inv1 {d : D} {vs : List V} (h : Reps cn K G [d] vs) : ∃ v, vs = [v] ∧ Rep cn K G d v := by
  obtain ⟨v, r, rfl, h1, h2⟩ := h
  have h2 : r = [] := h2
  rw [h2]
  exact ⟨v, rfl, h1⟩
theorem Reps.inv2 {d e : D} {vs : List V} (h : Reps cn K G [d, e] vs) : ∃ v u, vs = [v, u] ∧ Rep cn K G d v ∧ Rep cn K G e u := by
  obtain ⟨v, r, rfl, h1, h2⟩ := h
  obtain ⟨u, rfl, h3⟩ := h2.inv1
  exact ⟨v, u, rfl, h1, h3⟩
/-! ### len -/
theorem call_lenR : CallR X (.builtin "len") (fun xs H Q => ∃ p kvs, xs = [V.ref p] ∧ Rd H p (.dK kvs) ∧ Q (.int kvs.length) H) := by
  intro pins s σ H xs us Q I r h
  obtain ⟨p, kvs, rfl, hd, q⟩ := h
  obtain ⟨u, rfl, ru⟩ := Vals.one r
  cases ru
  exact d_len I hd fun t s' I' => ⟨.int kvs.length, H, I', ⟨_, rfl⟩, q⟩
theorem kvK_len {ks : List Ky} {vs : List V} (h : ks.length = vs.length) : (kvK ks vs).length = ks.length := by
  unfold kvK
  rw [List.length_zip, List.length_map, ← h, Nat.min_self]
theorem cp_len (hK : X.K = g.K) : CP g X (.builtin "len") .len := by
  intro ds h
  match ds, h with
  | [d], h =>
    cases d <;> (try exact absurd rfl h)
    · refine ⟨_, call_len_str, fun G H vs Q e r kk => ?_⟩
      obtain ⟨v, rfl, h1, t⟩ := r.inv1
      obtain ⟨hb, he⟩ := ifB_ne h
      have kk := kk.to he
      subst h1
      refine ⟨_, rfl, by rw [txS_len, ← bigL]; exact of_decide_eq_true hb, ?_⟩
      rw [txS_len]
      exact kk.val e rfl
    · refine ⟨_, call_len_seq, fun G H vs Q e r kk => ?_⟩
      obtain ⟨v, rfl, p, ws, rfl, s1, r1⟩ := r.inv1
      obtain ⟨hb, he⟩ := ifB_ne h
      have kk := kk.to he
      refine ⟨p, ws, rfl, .inr ?_, ?_⟩
      · rw [hK]; exact sqT_same e (Rep.sqT s1 r1)
      · rw [r1.length]
        exact kk.val e rfl
    · refine ⟨_, call_len_seq, fun G H vs Q e r kk => ?_⟩
      obtain ⟨v, rfl, p, ws, rfl, s1, r1⟩ := r.inv1
      obtain ⟨hb, he⟩ := ifB_ne h
      have kk := kk.to he
      refine ⟨p, ws, rfl, .inl (.inl (rd_same e s1)), ?_⟩
      rw [r1.length]
      exact kk.val e rfl
    · refine ⟨_, call_lenR, fun G H vs Q e r kk => ?_⟩
      obtain ⟨v, rfl, p, ws, rfl, s1, r1, hl, _⟩ := r.inv1
      obtain ⟨hb, he⟩ := ifB_ne h
      have kk := kk.to he
      refine ⟨p, _, rfl, rd_same e s1, ?_⟩
      rw [kvK_len (by rw [hl, r1.length])]
      exact kk.val e rfl
  | [], h => exact absurd rfl h
  | _ :: _ :: _, h => exact absurd rfl h
theorem intsD_rep : ∀ {l : List D} {ns : List Int} {vs : List V}, intsD l = some ns → Reps cn K G l vs → vs = ns.map V.int
  | [], ns, vs, h, r => by
    simp [intsD] at h
    subst h
    exact r
  | d :: l, ns, _, h, r => by
    obtain ⟨v, t, rfl, h1, h2⟩ := r
    cases d <;> simp [intsD] at h
    obtain ⟨ms, h3, rfl⟩ := h
    cases h1
    rw [intsD_rep h3 h2]
    rfl
theorem boolsD_rep : ∀ {l : List D} {ns : List Bool} {vs : List V}, boolsD l = some ns → Reps cn K G l vs → vs = ns.map V.bl
  | [], ns, vs, h, r => by
    simp [boolsD] at h
    subst h
    exact r
  | d :: l, ns, _, h, r => by
    obtain ⟨v, t, rfl, h1, h2⟩ := r
    cases d <;> simp [boolsD] at h
    obtain ⟨ms, h3, rfl⟩ := h
    cases h1
    rw [boolsD_rep h3 h2]
    rfl
theorem txs_rep : ∀ {l : List D} {xs : List Tx} {vs : List V}, txs l = some xs → Reps cn K G l vs → vs = (xs.map txS).map V.str ∧ ∀ x ∈ xs, txOk x = true
  | [], xs, vs, h, r => by
    simp [txs] at h
    subst h
    exact ⟨r, fun _ h => by cases h⟩
  | d :: l, xs, _, h, r => by
    obtain ⟨v, t, rfl, h1, h2⟩ := r
    cases d <;> simp [txs] at h
    obtain ⟨ms, h3, rfl⟩ := h
    obtain ⟨rfl, ht⟩ := h1
    obtain ⟨a, b⟩ := txs_rep h3 h2
    refine ⟨by rw [a]; rfl, fun x hx => ?_⟩
    rcases List.mem_cons.mp hx with rfl | hx
    · exact ht
    · exact b x hx
theorem cp_sum (hK : X.K = g.K) (hc : X.calm = true) : CP g X (.builtin "sum") .sum := by
  intro ds h
  match ds, h with
  | [.lst l], h =>
    refine ⟨_, cr_sum hc, fun G H vs Q e r kk => ?_⟩
    obtain ⟨v, rfl, p, ws, rfl, s1, r1⟩ := r.inv1
    have h : (match intsD l with | some ns => Sl.val (.int ns.sum) | none => .no) ≠ .no := h
    have kk : Cont g G H (match intsD l with | some ns => Sl.val (.int ns.sum) | none => .no) Q := kk
    cases ei : intsD l with
    | none => rw [ei] at h; exact absurd rfl h
    | some ns =>
      rw [ei] at kk
      have z := intsD_rep ei r1
      subst z
      exact ⟨p, ns, rfl, .inl (rd_same e s1), kk.val e rfl⟩
theorem cp_all (hK : X.K = g.K) (hc : X.calm = true) : CP g X (.builtin "all") .all := by
  intro ds h
  match ds, h with
  | [.lst l], h =>
    refine ⟨_, cr_all hc, fun G H vs Q e r kk => ?_⟩
    obtain ⟨v, rfl, p, ws, rfl, s1, r1⟩ := r.inv1
    have h : (match boolsD l with | some ns => Sl.val (.bl (ns.all id)) | none => .no) ≠ .no := h
    have kk : Cont g G H (match boolsD l with | some ns => Sl.val (.bl (ns.all id)) | none => .no) Q := kk
    cases ei : boolsD l with
    | none => rw [ei] at h; exact absurd rfl h
    | some ns =>
      rw [ei] at kk
      have z := boolsD_rep ei r1
      subst z
      exact ⟨p, ns, rfl, .inl (rd_same e s1), kk.val e rfl⟩
theorem cp_abs : CP g X (.builtin "abs") .abs := by
  intro ds h
  match ds, h with
  | [.int i], h =>
    refine ⟨_, call_abs, fun G H vs Q e r kk => ?_⟩
    obtain ⟨v, rfl, h1⟩ := r.inv1
    cases h1
    exact ⟨i, rfl, kk.val e rfl⟩
theorem cp_tuple (hK : X.K = g.K) : CP g X (.type "tuple") .tuple := by
  intro ds h
  match ds, h with
  | [.lst l], h =>
    refine ⟨_, call_tuple_of, fun G H vs Q e r kk => ?_⟩
    obtain ⟨v, rfl, p, ws, rfl, s1, r1⟩ := r.inv1
    exact ⟨p, ws, rfl, .inl ⟨.inl (rd_same e s1), fun q n => kk.newT e r1 n⟩⟩
  | [.tup l], h =>
    refine ⟨_, call_tuple_of, fun G H vs Q e r kk => ?_⟩
    obtain ⟨v, rfl, p, ws, rfl, s1, r1⟩ := r.inv1
    refine ⟨p, ws, rfl, .inr ⟨?_, kk.val e ⟨p, ws, rfl, s1, r1⟩⟩⟩
    rw [hK]; exact sqT_same e (Rep.sqT s1 r1)
theorem cp_list (hK : X.K = g.K) : CP g X (.type "list") .list := by
  intro ds h
  match ds, h with
  | [.lst l], h =>
    refine ⟨_, call_list_of, fun G H vs Q e r kk => ?_⟩
    obtain ⟨v, rfl, p, ws, rfl, s1, r1⟩ := r.inv1
    exact ⟨p, ws, rfl, .inl (.inl (rd_same e s1)), fun q n => kk.newL e r1 n⟩
  | [.tup l], h =>
    refine ⟨_, call_list_of, fun G H vs Q e r kk => ?_⟩
    obtain ⟨v, rfl, p, ws, rfl, s1, r1⟩ := r.inv1
    refine ⟨p, ws, rfl, .inr ?_, fun q n => kk.newL e r1 n⟩
    rw [hK]; exact sqT_same e (Rep.sqT s1 r1)
/-! ### numbers and texts -/
theorem tl_txS (x : Tx) : (txS x).cps.toList = x := rfl
theorem txS_of_tl {z : Str} {x : Tx} (h : z.cps.toList = x) : z = txS x := by
  subst h
  exact (TL.mk_tl z).symm
theorem allDig {x : Tx} (h : x.all isDig = true) : NumText.AllDigits x := fun c hc => by
  have := List.all_eq_true.mp h c hc
  unfold isDig at this
  rw [Bool.and_eq_true, decide_eq_true_eq, decide_eq_true_eq] at this
  exact this
theorem intOf_ok {x : Tx} {n : Int} (hl : x.length ≤ 4300) (h : intOf x = some n) : PySem.intText? (txS x) = some n := by
  have hl' : (txS x).length ≤ 4300 := by rw [txS_len]; exact hl
  unfold intOf at h
  split at h
  · cases h
  · rename_i a r
    split at h
    · rename_i hd
      cases h
      exact PySem.intText_neg (cs := a :: r) rfl (allDig hd) (by simp) hl'
    · cases h
  · rename_i a r _
    split at h
    · rename_i hd
      cases h
      exact PySem.intText_digits (x := txS (a :: r)) (allDig hd) (by simp [txS]) hl'
    · cases h
theorem cp_int : CP g X (.type "int") .int := by
  intro ds h
  match ds, h with
  | [.int i], h =>
    refine ⟨_, call_int1, fun G H vs Q e r kk => ?_⟩
    obtain ⟨v, rfl, h1⟩ := r.inv1
    cases h1
    exact .inl ⟨i, rfl, kk.val e rfl⟩
  | [.bl b], h =>
    refine ⟨_, call_int1, fun G H vs Q e r kk => ?_⟩
    obtain ⟨v, rfl, h1⟩ := r.inv1
    cases h1
    exact .inr ⟨b, rfl, kk.val e rfl⟩
  | [.str x], h =>
    refine ⟨_, call_int_str, fun G H vs Q e r kk => ?_⟩
    obtain ⟨v, rfl, h1, _⟩ := r.inv1
    obtain ⟨hb, he⟩ := ifB_ne h
    have kk := kk.to he
    subst h1
    have h2 : (match intOf x with | some i => Sl.val (.int i) | none => .no) ≠ .no := by
      intro z
      exact h (he.trans z)
    cases ei : intOf x with
    | none => rw [ei] at h2; exact absurd rfl h2
    | some i =>
      rw [ei] at kk
      have hb := of_decide_eq_true hb
      exact ⟨txS x, i, rfl, intOf_ok (by omega) ei, by rw [txS_len]; exact hb, kk.val e rfl⟩
theorem intTx_ok (i : Int) : (PySem.Str.ofString (toString i)).cps.toList = intTx i := by
  cases i with
  | ofNat m =>
    have e := TL.tl_num m
    unfold intTx
    rw [if_neg (by show ¬ ((m : Int) < 0); omega)]
    exact e
  | negSucc m =>
    unfold intTx
    rw [if_pos (Int.negSucc_lt_zero m)]
    have e : toString (Int.negSucc m) = "-" ++ toString (((m + 1 : Nat) : Int)) := rfl
    rw [e]
    show TL.tl (Str.ofString _) = _
    rw [TL.tl_ofString, String.toList_append, List.map_append, ← TL.tl_ofString, ← TL.tl_ofString, TL.tl_num]
    rfl
theorem intTx_S (i : Int) : PySem.Str.ofString (toString i) = txS (intTx i) := txS_of_tl (intTx_ok i)
theorem txOk_int (i : Int) : txOk (intTx i) = true := by
  have dg : ∀ m, txOk (digits m) = true := fun m => by
    unfold txOk
    refine List.all_eq_true.mpr fun n hn => decide_eq_true ?_
    have := TL.numL_digits m n hn
    omega
  unfold intTx
  split
  · unfold txOk at *
    rw [List.all_cons, dg]
    rfl
  · exact dg _
theorem log_1900 {i : Int} (h : i.natAbs < 2 ^ 1900) : i.natAbs.log2 < 1920 := Nat.lt_of_lt_of_le (PySem.Flt.log2_lt_of (by decide) h) (by decide)
theorem cp_str : CP g X (.type "str") .str := by
  intro ds h
  match ds, h with
  | [d], h =>
    cases d <;> (try exact absurd rfl h)
    · rename_i i
      refine ⟨_, call_str_int, fun G H vs Q e r kk => ?_⟩
      obtain ⟨v, rfl, h1⟩ := r.inv1
      cases h1
      obtain ⟨hb, he⟩ := ifB_ne h
      have kk := kk.to he
      refine ⟨i, rfl, log_1900 (of_decide_eq_true hb), ?_⟩
      rw [intTx_S]
      exact kk.val e ⟨rfl, txOk_int i⟩
    · rename_i x
      refine ⟨_, SkE.call_str_str, fun G H vs Q e r kk => ?_⟩
      obtain ⟨v, rfl, h1, t⟩ := r.inv1
      subst h1
      exact ⟨txS x, rfl, kk.val e ⟨rfl, t⟩⟩
  | [], h => exact absurd rfl h
  | _ :: _ :: _, h => exact absurd rfl h
end
end Mr

/-! Methods of texts, f-strings. -/
namespace Mr
open PySem L2
section
variable {g : Gs} {W : WX} {X : Cx} {B : Addr → Prop} {pn : List Nat} {a b c node : Expr} {as : List Expr} {sc : Scope} {N : List Str} {k : Nat} {pos p2 : Pos} {T : Tb} {ea eb ec : E} {es : List E} {cn : Cn} {K : PySem.W.Frag} {G H : Hp}
/-- a text's method of one argument -/
def MP (g : Gs) (X : Cx) (id : String) (p : Pr) : Prop := ∀ dx dy, pr p [dx, dy] ≠ .no → (∃ x, dx = .str x) ∧ ∃ r, MtR X id r ∧ ∀ G H x y Q, Same G H → Rep g.c g.K G dx x → Rep g.c g.K G dy y → Cont g G H (pr p [dx, dy]) Q → r x [y] H Q
/-- two parts, something told between them -/
theorem two_run' {fa fb : Rho → R (D × Rho)} (ha : EdOk g W X B pn a fa) (hb : EdOk g W X B pn b fb) {ρ : Rho} {σ : L2.St} {G H : Hp} (E : EnvR g.c g.K B pn G H ρ σ) :
    match two fa fb ρ with
    | .stk => True
    | .ok ((dx, dy), ρ') => ∀ (M : V → Hp → Prop) (Q2 : V → V → Hp → Prop), (∀ x G' H', Same G' H' → Rep g.c g.K G' dx x → M x H') → (∀ x y G' H', Grow (ownA ρ σ) G H G' H' → EnvR g.c g.K B pn G' H' ρ' σ → OwnLe ρ' ρ → Rep g.c g.K G' dx x → Rep g.c g.K G' dy y → Q2 x y H') → WE X a σ H fun x H1 => M x H1 ∧ WE X b σ H1 fun y H2 => Q2 x y H2
    | .exc t fs ds => True := by
  have q := ha ρ σ G H E
  unfold two
  cases e : fa ρ with
  | stk => trivial
  | exc t fs ds => trivial
  | ok p =>
    obtain ⟨dx, ρ1⟩ := p
    rw [e] at q
    show match (fb ρ1).bind fun (y, ρ2) => .ok ((dx, y), ρ2) with | .stk => True | .ok ((dx, dy), ρ') => _ | .exc t fs ds => _
    cases e2 : fb ρ1 with
    | stk => trivial
    | exc t fs ds => trivial
    | ok p =>
      obtain ⟨dy, ρ2⟩ := p
      intro M Q2 m k
      refine q _ fun v G1 H1 gr E1 le rx => ⟨m v G1 H1 E1.sub rx, ?_⟩
      have q2 := hb ρ1 σ G1 H1 E1
      rw [e2] at q2
      exact q2 _ fun u G2 H2 gr2 E2 le2 ry => k v u G2 H2 (gr.trans gr2 fun a z => .inl (le.ownA z)) E2 (le.trans le2) (rx.mono gr2.gg) ry
/-- a.m(b), a a text -/
theorem meth1_ok {id : String} {name : Str} {p : Pr} {apos : Pos} (slot : Slot "str" name id) (ty : typeOf (.builtin id) = pure (.type "method_descriptor")) (mp : MP g X id p) (hs : notStar b = true) (hu : notSup a = true) (hl : (apos.endLine == pos.line) = true)
    (ha : EdOk g W X B pn a (vE T ea)) (hb : EdOk g W X B pn b (vE T eb)) : EvOk g W X B pn (.Call (.Attribute a name apos) [b] [] pos) (evalE T (.tm p ea eb)) := by
  intro ρ σ G H E
  have q := two_run' ha hb E
  have e0 : evalE T (.tm p ea eb) ρ = match two (vE T ea) (vE T eb) ρ with | .ok (x, ρ2) => slR (pr p [x.1, x.2]) ρ2 | _ => .stk := by
    simp only [evalE]
    unfold two vE
    cases toD (evalE T ea ρ) with
    | stk => rfl
    | exc _ _ _ => rfl
    | ok p =>
      obtain ⟨x, ρ1⟩ := p
      simp only [R.bind]
      cases toD (evalE T eb ρ1) with
      | stk => rfl
      | exc _ _ _ => rfl
      | ok q => rfl
  rw [e0]
  cases e : two (vE T ea) (vE T eb) ρ with
  | stk => trivial
  | exc t fs ds => trivial
  | ok pp =>
    obtain ⟨⟨dx, dy⟩, ρ1⟩ := pp
    rw [e] at q
    show match slR (pr p [dx, dy]) ρ1 with | .stk => True | .ok (s, ρ') => _ | .exc t fs ds => _
    by_cases hk : pr p [dx, dy] = .no
    · rw [hk]
      trivial
    · rw [slR_ne ρ1 hk]
      intro Q kk
      obtain ⟨⟨z, hz⟩, r, h1, h2⟩ := mp dx dy hk
      refine we_of (pe_m1 slot ty h1 (pe_w X a) (pe_w X b) (star_ok hs) (base_ok hu) hl) (q (fun x _ => ∃ s, x = .str s) _ (fun x G' H' e' rx => ?_) fun x y G1 H1 gr E1 le rx ry => h2 G1 H1 x y Q E1.sub rx ry (fin_op gr E1 le kk))
      subst hz
      obtain ⟨rfl, _⟩ := rx
      exact ⟨_, rfl⟩
theorem splitT_spl (c : Nat) : ∀ (x acc : Tx), splitT c acc x = TL.spl [c] 0 acc.reverse x
  | [], acc => by
    rw [TL.spl_nil]
    rfl
  | a :: r, acc => by
    unfold splitT
    by_cases h : a = c
    · subst h
      rw [if_pos rfl, TL.spl_hit (by simp [TL.pre])]
      rw [splitT_spl a r []]
      rfl
    · rw [if_neg h, TL.spl_miss (by simp [TL.pre, h]), splitT_spl c r (a :: acc)]
      rw [List.reverse_cons]
theorem reps_txs (G : Hp) : ∀ {xs : List Tx}, (∀ x ∈ xs, txOk x = true) → Reps cn K G (xs.map D.str) ((xs.map txS).map V.str)
  | [], _ => rfl
  | x :: xs, h => ⟨_, _, rfl, ⟨rfl, h x List.mem_cons_self⟩, reps_txs G fun y hy => h y (List.mem_cons_of_mem _ hy)⟩
theorem splitT_mem (c : Nat) : ∀ (x acc : Tx) {p : Tx} {n : Nat}, p ∈ splitT c acc x → n ∈ p → n ∈ acc ∨ n ∈ x
  | [], acc, p, n, h, hn => by
    unfold splitT at h
    simp at h
    subst h
    exact .inl (by simpa using hn)
  | a :: r, acc, p, n, h, hn => by
    unfold splitT at h
    by_cases e : a = c
    · rw [if_pos e] at h
      rcases List.mem_cons.mp h with rfl | h
      · exact .inl (by simpa using hn)
      · rcases splitT_mem c r [] h hn with z | z
        · cases z
        · exact .inr (List.mem_cons_of_mem _ z)
    · rw [if_neg e] at h
      rcases splitT_mem c r (a :: acc) h hn with z | z
      · rcases List.mem_cons.mp z with rfl | z
        · exact .inr List.mem_cons_self
        · exact .inl z
      · exact .inr (List.mem_cons_of_mem _ z)
theorem mp_split : MP g X "str.split" .split := by
  intro dx dy h
  cases dx <;> (try exact absurd rfl h)
  rename_i x
  cases dy <;> (try exact absurd rfl h)
  rename_i y
  match y, h with
  | [ch], h =>
    obtain ⟨hb, he⟩ := ifB_ne h
    rw [Bool.and_eq_true, decide_eq_true_eq, decide_eq_true_eq] at hb
    refine ⟨⟨x, rfl⟩, _, mt_split, fun G H v u Q e rx ry kk => ?_⟩
    obtain ⟨rfl, t1⟩ := rx
    obtain ⟨rfl, t2⟩ := ry
    have kk := kk.to he
    refine ⟨txS x, txS [ch], rfl, rfl, rfl, by rw [txS_len, ← bigL]; exact hb.1, fun p n => ?_⟩
    have es : Txt.split (txS x) (txS [ch]) = (splitT ch [] x).map txS := by
      apply TL.map_tl_inj
      rw [TL.split_spl _ _ (by simp [txS]) (TL.kind_ok (by simp [txS, hb.2]))]
      rw [List.map_map, splitT_spl]
      show TL.spl [ch] 0 [] x = List.map (fun z => z) _
      rw [List.map_id']
      rfl
    rw [es]
    refine kk.newL e (reps_txs G fun p hp => ?_) n
    unfold txOk
    refine List.all_eq_true.mpr fun m hm => ?_
    rcases splitT_mem ch x [] hp hm with z | z
    · cases z
    · exact List.all_eq_true.mp t1 m z
  | [], h => exact absurd rfl h
  | _ :: _ :: _, h => exact absurd rfl h
theorem joinT_eq (s : Tx) : ∀ xs : List Tx, joinT s xs = TL.joinL s xs
  | [] => rfl
  | [x] => rfl
  | x :: y :: r => by
    simp only [joinT, TL.joinL, ← joinT_eq s (y :: r), List.append_assoc]
theorem txOk_join {s : Tx} (t : txOk s = true) : ∀ {xs : List Tx}, (∀ x ∈ xs, txOk x = true) → txOk (joinT s xs) = true
  | [], _ => rfl
  | [x], h => h x List.mem_cons_self
  | x :: y :: r, h => by
    show txOk (x ++ s ++ joinT s (y :: r)) = true
    exact txOk_app (txOk_app (h x List.mem_cons_self) t) (txOk_join t fun z hz => h z (List.mem_cons_of_mem _ hz))
theorem mp_join : MP g X "str.join" .join := by
  intro dx dy h
  cases dx <;> (try exact absurd rfl h)
  rename_i x
  cases dy <;> (try exact absurd rfl h)
  rename_i l
  have h : (match txs l with | some xs => ifB (decide ((xs.map List.length).sum + xs.length * x.length ≤ big)) (.val (.str (joinT x xs))) | none => .no) ≠ .no := h
  cases et : txs l with
  | none => rw [et] at h; exact absurd rfl h
  | some xs =>
    rw [et] at h
    obtain ⟨hb, he⟩ := ifB_ne h
    refine ⟨⟨x, rfl⟩, _, mt_join, fun G H v u Q e rx ry kk => ?_⟩
    have kk : Cont g G H (match txs l with | some xs => ifB (decide ((xs.map List.length).sum + xs.length * x.length ≤ big)) (.val (.str (joinT x xs))) | none => .no) Q := kk
    rw [et] at kk
    have kk := kk.to he
    obtain ⟨rfl, t1⟩ := rx
    obtain ⟨p, ws, rfl, s1, r1⟩ := ry
    obtain ⟨rfl, t2⟩ := txs_rep et r1
    refine ⟨txS x, p, xs.map txS, rfl, rfl, .inl (.inl (rd_same e s1)), ?_, ?_⟩
    · rw [List.map_map, List.length_map, txS_len]
      have z : (fun s : Str => s.length) ∘ txS = List.length := funext fun z => txS_len z
      show (xs.map ((fun s : Str => s.length) ∘ txS)).sum + _ ≤ _
      rw [z]
      exact of_decide_eq_true hb
    · have ej : Txt.join (txS x) (xs.map txS) = txS (joinT x xs) := by
        apply txS_of_tl
        rw [TL.join_eq]
        show TL.tl _ = _
        rw [TL.tl_join, joinT_eq, List.map_map]
        show TL.joinL x (xs.map fun z => z) = _
        rw [List.map_id']
      rw [ej]
      exact kk.val e ⟨rfl, txOk_join t1 t2⟩
theorem mp_strip : MP g X "str.strip" .strip := by
  intro dx dy h
  cases dx <;> (try exact absurd rfl h)
  rename_i x
  cases dy <;> (try exact absurd rfl h)
  rename_i y
  obtain ⟨hb, he⟩ := ifB_ne h
  refine ⟨⟨x, rfl⟩, _, mt_stripChars, fun G H v u Q e rx ry kk => ?_⟩
  obtain ⟨rfl, t1⟩ := rx
  obtain ⟨rfl, t2⟩ := ry
  have kk := kk.to he
  refine ⟨txS x, txS y, rfl, rfl, by rw [txS_len, ← bigL]; exact of_decide_eq_true hb, ?_⟩
  have es : Txt.stripChars (txS x) (txS y) = txS (stripT y x) := by
    apply txS_of_tl
    show TL.tl (Txt.stripBy _ true true _) = _
    rw [PyProof.Rows.stripBy_eq, TL.tl_strSub]
    have ec : (txS y).cps.contains = y.contains := by
      funext n
      show y.toArray.contains n = y.contains n
      simp
    unfold PySem.stripHi PySem.stripLo stripT
    rw [ec]
    simp only [if_true, txS_len]
    rfl
  rw [es]
  refine kk.val e ⟨rfl, ?_⟩
  unfold txOk stripT
  refine List.all_eq_true.mpr fun n hn => List.all_eq_true.mp t1 n ?_
  exact List.mem_of_mem_drop (List.mem_of_mem_take hn)
end
end Mr

/-! Names, constants, displays, tests. -/
namespace Mr
open PySem L2
section
variable {g : Gs} {W : WX} {X : Cx} {B : Addr → Prop} {pn : List Nat} {a b c node : Expr} {as : List Expr} {sc : Scope} {N : List Str} {k : Nat} {pos p2 : Pos} {T : Tb} {ea eb ec : E} {es : List E} {cn : Cn} {K : PySem.W.Frag} {G H : Hp} {ρ : Rho} {σ : L2.St}
theorem set_own {i j : Nat} {d e : D} (h : (ρ.set i (.val d))[j]? = some (.own e)) : ρ[j]? = some (.own e) ∧ j ≠ i := by
  by_cases hj : i = j
  · subst hj
    rw [List.getElem?_set] at h
    simp at h
  · rw [List.getElem?_set_ne hj] at h
    exact ⟨h, fun z => hj z.symm⟩
theorem EnvR.freeze {i : Nat} {d : D} {a : Addr} (E : EnvR cn K B pn G H ρ σ) (h : ρ[i]? = some (.own d)) (hs : σ[i]? = some (some (.ref a))) : EnvR cn K B pn (know G H a) H (ρ.set i (.val d)) σ := by
  obtain ⟨a', h1, o, _⟩ := E.own i d h
  rw [hs] at h1
  cases h1
  refine ⟨know_sub E.sub, by rw [List.length_set]; exact E.len, fun j e hj => ?_, fun j e hj => ?_, fun j l e f b h1 h2 => E.inj j l e f b (set_own h1).1 (set_own h2).1⟩
  · by_cases hji : i = j
    · subst hji
      have hl : i < ρ.length := (List.getElem?_eq_some_iff.mp h).1
      rw [List.getElem?_set_self hl] at hj
      cases hj
      exact ⟨_, hs, o.rep⟩
    · rw [List.getElem?_set_ne hji] at hj
      obtain ⟨v, q1, q2⟩ := E.val j e hj
      exact ⟨v, q1, q2.mono (same_know o.1)⟩
  · obtain ⟨q, hji⟩ := set_own hj
    obtain ⟨b, q1, q2, q3⟩ := E.own j e q
    have hb : b ≠ a := fun z => hji (E.inj j i e d a q h (z ▸ q1) hs)
    exact ⟨b, q1, q2.keep (same_know o.1) (by rw [know_ne hb]; exact q2.1) (fun _ z => z), q3⟩
theorem Grow.freeze {i : Nat} {d : D} {a : Addr} (E : EnvR cn K B pn G H ρ σ) (h : ρ[i]? = some (.own d)) (hs : σ[i]? = some (some (.ref a))) : Grow (ownA ρ σ) G H (know G H a) H := by
  obtain ⟨a', h1, o, _⟩ := E.own i d h
  rw [hs] at h1
  cases h1
  refine ⟨same_know o.1, know_sub E.sub, fun _ _ z _ => z, fun _ u z => ⟨u, z⟩, fun b u q => ?_⟩
  by_cases hb : b = a
  · exact .inr (.inr (.inr ⟨i, d, h, hb ▸ hs⟩))
  · rw [know_ne hb] at q
    exact .inl q
theorem var_ok (C : Ctx g sc N k W X) {i : Nat} {x : Str} {p : Pos} (hN : N[i]? = some x) (hv : Vis sc x) (hd : (x == ("__debug__" : Str)) = false) (hcd : (x == ("__classdict__" : Str)) = false) :
    EvOk g W X B pn (.Name x p) (evalE T (.var i)) := by
  intro ρ σ G H E
  have hvar : PE X (.Name x p) (tVar i) := pe_var (by rw [C.hN]; exact hN) (by rw [C.hs]; exact hv) hd hcd
  simp only [evalE]
  cases e : ρ[i]? with
  | none => trivial
  | some s =>
    cases s with
    | no => trivial
    | val d =>
      obtain ⟨v, h1, h2⟩ := E.val i d e
      exact fun Q kk => we_of hvar ⟨v, h1, kk v G H (.refl E.sub) E (.refl ρ) h2⟩
    | own d =>
      obtain ⟨a, h1, o, _⟩ := E.own i d e
      exact fun Q kk => we_of hvar ⟨.ref a, h1, kk _ _ H (.freeze E e h1) (E.freeze e h1) (fun j f q => ⟨f, (set_own q).1⟩) o.rep⟩
theorem pure_ok {d : D} {v : V} (p : PE X a (tC v)) (h : ∀ G, Rep g.c g.K G d v) : EvOk g W X B pn a fun ρ => .ok (.val d, ρ) := fun ρ σ G H E Q kk => we_of p (kk v G H (.refl E.sub) E (.refl ρ) (h G))
/-- a constant of the text -/
def cstOk : Const → D → Bool
  | .int i, .int j => i == j
  | .bool b, .bl b' => b == b'
  | .none, .non => true
  | .str x, .str y => x == txS y && txOk y
  | _, _ => false
theorem cst_ok {cc : Const} {j : Nat} {d : D} (h : cstOk cc d = true) : EvOk g W X B pn (.Constant cc j pos) (evalE T (.cst d)) := by
  refine EvOk.to (f := fun ρ => .ok (.val d, ρ)) ?_ fun ρ => by simp only [evalE]
  cases cc with
  | int i =>
    cases d <;> simp [cstOk] at h
    subst h
    exact pure_ok pe_int fun _ => rfl
  | bool b =>
    cases d <;> simp [cstOk] at h
    subst h
    exact pure_ok pe_bl fun _ => rfl
  | none =>
    cases d <;> simp [cstOk] at h
    exact pure_ok pe_non fun _ => rfl
  | str x =>
    cases d <;> simp [cstOk] at h
    obtain ⟨h1, h2⟩ := h
    subst h1
    exact pure_ok pe_str fun _ => ⟨rfl, h2⟩
  | _ => cases d <;> simp [cstOk] at h
/-- a constant of the module -/
theorem gl_ok {x : Str} {p : Pos} {n : Nat} {d : D} {u : Value} {v : V} (hg : Gl X x) (hm : X.mg x = some u) (r : RelV v u) (hd : (x == ("__debug__" : Str)) = false) (hr : ∀ G, Rep g.c g.K G d v) : EvOk g W X B pn (.Name x p) (evalE T (.gl n d)) :=
  (pure_ok (pe_glob hg hm r hd) hr).to fun ρ => by simp only [evalE]
theorem len_big {n : Nat} (h : n ≤ 1000) : n ≤ sizeLine := Nat.le_trans h (by decide)
theorem tup_ok {x1 : Nat} (hl : as.length ≤ 1000) (hle : es.length = as.length) (ha : EaOk g W X B pn as (evalDs T es)) (hlen : ∀ ρ ds ρ', evalDs T es ρ = .ok (ds, ρ') → ds.length = es.length) : EvOk g W X B pn (.Tuple as x1 pos) (evalE T (.tup es)) := by
  intro ρ σ G H E
  have q := ha ρ σ G H E
  simp only [evalE]
  cases e : evalDs T es ρ with
  | stk => trivial
  | exc t fs ds =>
    rw [e] at q
    exact fun w Q => we_of (pe_tup (pa_w X as)) (q w _)
  | ok p =>
    obtain ⟨ds, ρ1⟩ := p
    rw [e] at q
    intro Q kk
    refine we_of (pe_tup (pa_w X as)) (q _ fun vs G1 H1 gr E1 le r => ⟨?_, fun p n => ?_⟩)
    · rw [r.length, hlen ρ ds ρ1 e, hle]
      exact len_big hl
    · exact (fin_op (s := .val (.tup ds)) gr E1 le kk).newT E1.sub r n
theorem lst_ok (hl : as.length ≤ 1000) (hle : es.length = as.length) (ha : EaOk g W X B pn as (evalDs T es)) (hlen : ∀ ρ ds ρ', evalDs T es ρ = .ok (ds, ρ') → ds.length = es.length) : EvOk g W X B pn (.List as pos) (evalE T (.lst es)) := by
  intro ρ σ G H E
  have q := ha ρ σ G H E
  simp only [evalE]
  cases e : evalDs T es ρ with
  | stk => trivial
  | exc t fs ds =>
    rw [e] at q
    exact fun w Q => we_of (pe_lst (pa_w X as)) (q w _)
  | ok p =>
    obtain ⟨ds, ρ1⟩ := p
    rw [e] at q
    intro Q kk
    refine we_of (pe_lst (pa_w X as)) (q _ fun vs G1 H1 gr E1 le r => ⟨?_, fun p n => ?_⟩)
    · rw [r.length, hlen ρ ds ρ1 e, hle]
      exact len_big hl
    · exact (fin_op (s := .own (.lst ds)) gr E1 le kk).newL E1.sub r n
theorem evalDs_len (T : Tb) : ∀ (es : List E) (ρ : Rho) (ds : List D) (ρ' : Rho), evalDs T es ρ = .ok (ds, ρ') → ds.length = es.length
  | [], ρ, ds, ρ', h => by
    simp only [evalDs] at h
    cases h
    rfl
  | e :: es, ρ, ds, ρ', h => by
    simp only [evalDs] at h
    cases e1 : toD (evalE T e ρ) with
    | stk => rw [e1] at h; cases h
    | exc _ _ _ => rw [e1] at h; cases h
    | ok p =>
      obtain ⟨d, ρ1⟩ := p
      rw [e1] at h
      simp only [R.bind] at h
      cases e2 : evalDs T es ρ1 with
      | stk => rw [e2] at h; cases h
      | exc _ _ _ => rw [e2] at h; cases h
      | ok p =>
        obtain ⟨dr, ρ2⟩ := p
        rw [e2] at h
        cases h
        rw [List.length_cons, List.length_cons, evalDs_len T es ρ1 dr ρ2 e2]
theorem newK_ok : EvOk g W X B pn (.Dict [] [] pos) (evalE T .newK) := by
  intro ρ σ G H E
  simp only [evalE]
  intro Q kk
  refine we_of pe_dnewK fun p n => ?_
  exact kk _ G _ (.newH E.sub n) (E.grow (Grow.newH (own := fun _ => False) E.sub n) fun _ _ z => z) (.refl ρ) ⟨p, rfl, ⟨Same.free E.sub n, [], upd_same, rfl, rfl, rfl⟩, n⟩
theorem newT_ok : EvOk g W X B pn (.Dict [] [] pos) (evalE T .newT) := by
  intro ρ σ G H E
  simp only [evalE]
  intro Q kk
  refine we_of pe_dnewT fun p n => ?_
  exact kk _ G _ (.newH E.sub n) (E.grow (Grow.newH (own := fun _ => False) E.sub n) fun _ _ z => z) (.refl ρ) ⟨p, rfl, ⟨Same.free E.sub n, [], upd_same, rfl, rfl, rfl⟩, n⟩
/-! ### tests -/
theorem truth_v {d : D} {v : V} {t : Bool} (e : Same G H) (h : truth d = some t) (r : Rep cn K G d v) : TruV K v H t := by
  cases d with
  | non => cases h; cases r; rfl
  | bl b => cases h; cases r; rfl
  | int i => cases h; cases r; rfl
  | str x =>
    obtain ⟨rfl, _⟩ := r
    have h : (if x.length ≤ big then some (!x.isEmpty) else none) = some t := h
    by_cases hz : x.length ≤ big
    · rw [if_pos hz] at h
      cases h
      refine ⟨by rw [txS_len, ← bigL]; exact hz, ?_⟩
      rw [txS_len]
      cases x <;> rfl
    · rw [if_neg hz] at h
      cases h
  | tup l =>
    cases h
    obtain ⟨a, vs, rfl, s, r⟩ := r
    refine .inr (.inl ⟨vs, sqT_same e (Rep.sqT s r), ?_⟩)
    have := r.length
    cases l <;> cases vs <;> simp at this ⊢
  | lst l =>
    cases h
    obtain ⟨a, vs, rfl, s, r⟩ := r
    refine .inl ⟨vs, .inl (rd_same e s), ?_⟩
    have := r.length
    cases l <;> cases vs <;> simp at this ⊢
  | dk ks l => cases h
  | dt ks l => cases h
  | obj _ _ _ => cases h
abbrev tE (T : Tb) (e : E) : Rho → R (Bool × Rho) := fun ρ => toT (evalE T e ρ)
/-- behind a part: its truth -/
theorem toT_run {f : Rho → R (Sl × Rho)} (C : Ctx g sc N k W X) (ha : EvOk g W X B pn a f) (E : EnvR g.c g.K B pn G H ρ σ) :
    match toT (f ρ) with
    | .stk => True
    | .ok (t, ρ') => ∃ d, toD (f ρ) = .ok (d, ρ') ∧ truth d = some t ∧ ∀ Q : VK, (∀ v G' H', Grow (ownA ρ σ) G H G' H' → EnvR g.c g.K B pn G' H' ρ' σ → OwnLe ρ' ρ → Rep g.c g.K G' d v → TruV X.K v H' t → Q v H') → WE X a σ H Q
    | .exc t fs ds => (∀ d H', ExcR g (ownA ρ σ) G H t fs ds d H' → W (.ref (g.c.cA t)) d σ H') → ∀ Q : VK, WE X a σ H Q := by
  have q := ha.d ρ σ G H E
  unfold toT
  cases e : toD (f ρ) with
  | stk => trivial
  | exc t fs ds =>
    simp only at q
    rw [e] at q
    exact q
  | ok p =>
    obtain ⟨d, ρ1⟩ := p
    simp only at q
    rw [e] at q
    simp only [R.bind]
    cases et : truth d with
    | none => trivial
    | some t => exact ⟨d, rfl, et, fun Q kk => q Q fun v G' H' gr E' le r => kk v G' H' gr E' le r (by rw [C.hK]; exact truth_v E'.sub et r)⟩
theorem plain_test (C : Ctx g sc N k W X) (hp : plainT a = true) (ha : EvOk g W X B pn a (evalE T ea)) : EtOk g W X B pn a (tE T ea) := by
  intro ρ σ G H E
  have q := toT_run C ha E
  show match toT (evalE T ea ρ) with | .stk => True | .ok (s, ρ') => _ | .exc t fs ds => _
  cases e : toT (evalE T ea ρ) with
  | stk => trivial
  | exc t fs ds =>
    rw [e] at q
    exact fun w Q => wt_of (pt_truth (pe_w X a) fun wh => plain_t hp wh) (q w _)
  | ok p =>
    obtain ⟨t, ρ1⟩ := p
    rw [e] at q
    obtain ⟨d, _, _, q⟩ := q
    exact fun Q kk => wt_of (pt_truth (pe_w X a) fun wh => plain_t hp wh) (q _ fun v G' H' gr E' le r tv => ⟨t, tv, kk G' H' gr E' le⟩)
theorem not_ok (C : Ctx g sc N k W X) (ha : EvOk g W X B pn a (evalE T ea)) (hat : EtOk g W X B pn a (tE T ea)) : EvOk g W X B pn (.UnaryOp .Not a pos) (evalE T (.not ea)) ∧ EtOk g W X B pn (.UnaryOp .Not a pos) (tE T (.not ea)) := by
  refine ⟨fun ρ σ G H E => ?_, fun ρ σ G H E => ?_⟩
  · have q := toT_run C ha E
    simp only [evalE]
    cases e : toT (evalE T ea ρ) with
    | stk => trivial
    | exc t fs ds =>
      rw [e] at q
      exact fun w Q => we_of (pe_notT (pe_w X a)) (q w _)
    | ok p =>
      obtain ⟨t, ρ1⟩ := p
      rw [e] at q
      obtain ⟨d, _, _, q⟩ := q
      exact fun Q kk => we_of (pe_notT (pe_w X a)) (q _ fun v G' H' gr E' le r tv => ⟨t, tv, kk _ G' H' gr E' le rfl⟩)
  · have q := hat ρ σ G H E
    show match toT (evalE T (.not ea) ρ) with | .stk => True | .ok (s, ρ') => _ | .exc t fs ds => _
    simp only [evalE]
    simp only [tE] at q
    cases e : toT (evalE T ea ρ) with
    | stk => trivial
    | exc t fs ds =>
      rw [e] at q
      exact fun w Q => wt_of (pt_not (pt_w X a)) (q w _)
    | ok p =>
      obtain ⟨t, ρ1⟩ := p
      rw [e] at q
      exact fun Q kk => wt_of (pt_not (pt_w X a)) (q _ fun G' H' gr E' le => kk G' H' gr E' le)
theorem ifx_ok (hc : EtOk g W X B pn c (tE T ec)) (ha : EvOk g W X B pn a (evalE T ea)) (hb : EvOk g W X B pn b (evalE T eb)) : EvOk g W X B pn (.IfExp c a b pos) (evalE T (.ifx ec ea eb)) := by
  intro ρ σ G H E
  have q := hc ρ σ G H E
  simp only [evalE]
  simp only [tE] at q
  cases e : toT (evalE T ec ρ) with
  | stk => trivial
  | exc t fs ds =>
    rw [e] at q
    exact fun w Q => we_of (pe_ifExp (pt_w X c) (pe_w X a) (pe_w X b)) (q w _)
  | ok p =>
    obtain ⟨t, ρ1⟩ := p
    rw [e] at q
    simp only [R.bind]
    have go : ∀ {x : Expr} {ex : Mr.E}, EvOk g W X B pn x (evalE T ex) → (∀ Q H1, WE X x σ H1 Q → if t = true then WE X a σ H1 Q else WE X b σ H1 Q) →
        match evalE T ex ρ1 with
        | .stk => True
        | .ok (s, ρ') => ∀ Q : VK, (∀ v G' H', Grow (ownA ρ σ) G H G' H' → EnvR g.c g.K B pn G' H' ρ' σ → OwnLe ρ' ρ → ResR g.c g.K H G' H' s v → Q v H') → WE X (.IfExp c a b pos) σ H Q
        | .exc t fs ds => (∀ d H', ExcR g (ownA ρ σ) G H t fs ds d H' → W (.ref (g.c.cA t)) d σ H') → ∀ Q : VK, WE X (.IfExp c a b pos) σ H Q := by
      intro x ex hx sel
      cases e2 : evalE T ex ρ1 with
      | stk => trivial
      | exc t fs ds =>
        intro w Q
        refine we_of (pe_ifExp (pt_w X c) (pe_w X a) (pe_w X b)) (q _ fun G1 H1 gr E1 le => sel _ _ ?_)
        have q2 := hx ρ1 σ G1 H1 E1
        rw [e2] at q2
        exact q2 (fun d H' xx => w d H' (xx.after gr fun a z => .inl (le.ownA z))) Q
      | ok pp =>
        obtain ⟨s, ρ2⟩ := pp
        intro Q kk
        refine we_of (pe_ifExp (pt_w X c) (pe_w X a) (pe_w X b)) (q _ fun G1 H1 gr E1 le => sel _ _ ?_)
        have q2 := hx ρ1 σ G1 H1 E1
        rw [e2] at q2
        refine q2 Q fun v G2 H2 gr2 E2 le2 r => kk v G2 H2 (gr.trans gr2 fun a z => .inl (le.ownA z)) E2 (le.trans le2) ?_
        cases s with
        | no => exact r
        | val d => exact r
        | own d =>
          obtain ⟨p, h1, h2, h3⟩ := r
          exact ⟨p, h1, h2, gr.free h3⟩
    cases t with
    | true => exact go ha fun Q H1 h => by rw [if_pos rfl]; exact h
    | false => exact go hb fun Q H1 h => by rw [if_neg Bool.false_ne_true]; exact h
end
end Mr

/-! and, or, chains, what is only looked at. -/
namespace Mr
open PySem L2
section
variable {g : Gs} {W : WX} {X : Cx} {B : Addr → Prop} {pn : List Nat} {a b c node : Expr} {as : List Expr} {sc : Scope} {N : List Str} {k : Nat} {pos p2 : Pos} {T : Tb} {ea eb ec : E} {es : List E} {cn : Cn} {K : PySem.W.Frag} {G H : Hp} {ρ : Rho} {σ : L2.St}
/-- as a test whatever its whole is -/
def EwOk (g : Gs) (W : WX) (X : Cx) (B : Addr → Prop) (pn : List Nat) (ast : Expr) (f : Rho → R (Bool × Rho)) : Prop := ∀ ρ σ G H, EnvR g.c g.K B pn G H ρ σ →
  match f ρ with
  | .stk => True
  | .ok (b, ρ') => ∀ Q : Bool → Hp → Prop, (∀ G' H', Grow (ownA ρ σ) G H G' H' → EnvR g.c g.K B pn G' H' ρ' σ → OwnLe ρ' ρ → Q b H') → WW X ast σ H Q
  | .exc t fs ds => (∀ d H', ExcR g (ownA ρ σ) G H t fs ds d H' → W (.ref (g.c.cA t)) d σ H') → ∀ Q : Bool → Hp → Prop, WW X ast σ H Q
theorem EwOk.et {f : Rho → R (Bool × Rho)} (h : EwOk g W X B pn a f) : EtOk g W X B pn a f := by
  intro ρ σ G H E
  have q := h ρ σ G H E
  cases e : f ρ with
  | stk => trivial
  | exc t fs ds =>
    rw [e] at q
    exact fun w Q => wt_of (PW.pt (pw_w X a)) (q w Q)
  | ok p =>
    obtain ⟨t, ρ1⟩ := p
    rw [e] at q
    exact fun Q kk => wt_of (PW.pt (pw_w X a)) (q Q kk)
def bop : Bool → BoolOp
  | true => .And
  | false => .Or
inductive Each (g : Gs) (W : WX) (X : Cx) (B : Addr → Prop) (pn : List Nat) (T : Tb) : List Expr → List E → Prop where
  | nil : Each g W X B pn T [] []
  | cons {a : Expr} {e : E} {as : List Expr} {es : List E} : EvOk g W X B pn a (evalE T e) → EtOk g W X B pn a (tE T e) → Each g W X B pn T as es → Each g W X B pn T (a :: as) (e :: es)
theorem evalB_two (T : Tb) (i : Bool) (e e' : E) (es : List E) (ρ : Rho) : evalB T i (e :: e' :: es) ρ = (toD (evalE T e ρ)).bind fun x => match truth x.1 with | some t => if t == i then evalB T i (e' :: es) x.2 else .ok (.val x.1, x.2) | none => .stk := by
  rfl
theorem toT_evalB (T : Tb) (i : Bool) (e e' : E) (es : List E) (ρ : Rho) : toT (evalB T i (e :: e' :: es) ρ) = (toT (evalE T e ρ)).bind fun x => if x.1 == i then toT (evalB T i (e' :: es) x.2) else .ok (x.1, x.2) := by
  rw [evalB_two]
  simp only [toT]
  cases h : toD (evalE T e ρ) with
  | stk => rfl
  | exc _ _ _ => rfl
  | ok p =>
    obtain ⟨d, ρ1⟩ := p
    simp only [R.bind]
    cases ht : truth d with
    | none => rfl
    | some t =>
      simp only [R.bind]
      by_cases hi : (t == i) = true
      · rw [if_pos hi, if_pos hi]
      · rw [if_neg hi, if_neg hi]
        simp only [toD, R.bind, ht]
theorem bool_w {i : Bool} (h : Each g W X B pn T as es) : as ≠ [] → EwOk g W X B pn (.BoolOp (bop i) as pos) fun ρ => toT (evalB T i es ρ) := by
  induction h with
  | nil => exact fun z => absurd rfl z
  | @cons a e as es hv ht hr ih =>
    intro _
    cases hr with
    | nil =>
      intro ρ σ G H E
      have q := ht ρ σ G H E
      have e0 : evalB T i [e] ρ = evalE T e ρ := by rw [evalB]
      show match toT (evalB T i [e] ρ) with | .stk => True | .ok (s, ρ') => _ | .exc t fs ds => _
      rw [e0]
      simp only [tE] at q
      have pw : PW X (.BoolOp (bop i) [a] pos) (WT X a) := by
        cases i
        · exact pw_or1 (pt_w X a)
        · exact pw_and1 (pt_w X a)
      cases e1 : toT (evalE T e ρ) with
      | stk => trivial
      | exc t fs ds =>
        rw [e1] at q
        exact fun w Q => ww_of pw (q w Q)
      | ok p =>
        obtain ⟨t, ρ1⟩ := p
        rw [e1] at q
        exact fun Q kk => ww_of pw (q Q kk)
    | @cons a' e' as es hv' ht' hr' =>
      have ih := ih (by simp)
      intro ρ σ G H E
      have q := ht ρ σ G H E
      show match toT (evalB T i (e :: e' :: es) ρ) with | .stk => True | .ok (s, ρ') => _ | .exc t fs ds => _
      rw [toT_evalB]
      simp only [tE] at q
      have pw : PW X (.BoolOp (bop i) (a :: a' :: as) pos) (fun σ H Q => WT X a σ H fun c H1 => if (c == i) = true then WW X (.BoolOp (bop i) (a' :: as) pos) σ H1 Q else Q c H1) := by
        cases i
        · refine ⟨fun wh pins s σ H Q I h => (pw_or (pt_w X a) (pw_w X _)).run wh pins s σ H Q I ?_⟩
          refine wt_mono h fun c H1 z => ?_
          cases c <;> exact z
        · refine ⟨fun wh pins s σ H Q I h => (pw_and (pt_w X a) (pw_w X _)).run wh pins s σ H Q I ?_⟩
          refine wt_mono h fun c H1 z => ?_
          cases c <;> exact z
      cases e1 : toT (evalE T e ρ) with
      | stk => trivial
      | exc t fs ds =>
        rw [e1] at q
        exact fun w Q => ww_of pw (q w _)
      | ok p =>
        obtain ⟨t, ρ1⟩ := p
        rw [e1] at q
        simp only [R.bind]
        by_cases hi : (t == i) = true
        · rw [if_pos hi]
          cases e2 : toT (evalB T i (e' :: es) ρ1) with
          | stk => trivial
          | exc t fs ds =>
            intro w Q
            refine ww_of pw (q _ fun G1 H1 gr E1 le => ?_)
            rw [if_pos hi]
            have q2 := ih ρ1 σ G1 H1 E1
            simp only at q2
            rw [e2] at q2
            exact q2 (fun d H' xx => w d H' (xx.after gr fun a z => .inl (le.ownA z))) Q
          | ok pp =>
            obtain ⟨t2, ρ2⟩ := pp
            intro Q kk
            refine ww_of pw (q _ fun G1 H1 gr E1 le => ?_)
            rw [if_pos hi]
            have q2 := ih ρ1 σ G1 H1 E1
            simp only at q2
            rw [e2] at q2
            exact q2 Q fun G2 H2 gr2 E2 le2 => kk G2 H2 (gr.trans gr2 fun a z => .inl (le.ownA z)) E2 (le.trans le2)
        · rw [if_neg hi]
          intro Q kk
          refine ww_of pw (q _ fun G1 H1 gr E1 le => ?_)
          rw [if_neg hi]
          exact kk G1 H1 gr E1 le
theorem ResR.back {own : Addr → Prop} {G H G1 H1 G2 H2 : Hp} {s : Sl} {v : V} (gr : Grow own G H G1 H1) (r : ResR cn K H1 G2 H2 s v) : ResR cn K H G2 H2 s v := by
  cases s with
  | no => exact r
  | val d => exact r
  | own d =>
    obtain ⟨p, h1, h2, h3⟩ := r
    exact ⟨p, h1, h2, gr.free h3⟩
theorem bool_v (C : Ctx g sc N k W X) {i : Bool} (h : Each g W X B pn T as es) : as ≠ [] → EvOk g W X B pn (.BoolOp (bop i) as pos) (evalB T i es) := by
  induction h with
  | nil => exact fun z => absurd rfl z
  | @cons a e as es hv ht hr ih =>
    intro _
    cases hr with
    | nil =>
      intro ρ σ G H E
      have q := hv ρ σ G H E
      have e0 : evalB T i [e] ρ = evalE T e ρ := by rw [evalB]
      rw [e0]
      cases e1 : evalE T e ρ with
      | stk => trivial
      | exc t fs ds =>
        rw [e1] at q
        exact fun w Q => we_of (pe_one (pe_w X a)) (q w Q)
      | ok p =>
        obtain ⟨t, ρ1⟩ := p
        rw [e1] at q
        exact fun Q kk => we_of (pe_one (pe_w X a)) (q Q kk)
    | @cons a' e' as es hv' ht' hr' =>
      have ih := ih (by simp)
      intro ρ σ G H E
      have q := toT_run C hv E
      have pv : PE X (.BoolOp (bop i) (a :: a' :: as) pos) (fun σ H Q => WE X a σ H fun x H1 => ∃ t, TruV X.K x H1 t ∧ if (t == i) = true then WE X (.BoolOp (bop i) (a' :: as) pos) σ H1 Q else Q x H1) := by
        cases i
        · refine ⟨fun pins s σ H Q I h => (pe_orT (pe_w X a) (pe_w X _)).run pins s σ H Q I ?_⟩
          refine we_mono h fun v H1 ⟨t, z1, z2⟩ => ⟨t, z1, ?_⟩
          cases t <;> exact z2
        · refine ⟨fun pins s σ H Q I h => (pe_andT (pe_w X a) (pe_w X _)).run pins s σ H Q I ?_⟩
          refine we_mono h fun v H1 ⟨t, z1, z2⟩ => ⟨t, z1, ?_⟩
          cases t <;> exact z2
      rw [evalB_two]
      cases e1 : toD (evalE T e ρ) with
      | stk => trivial
      | exc t fs ds =>
        have e2 : toT (evalE T e ρ) = .exc t fs ds := by unfold toT; rw [e1]; rfl
        rw [e2] at q
        exact fun w Q => we_of pv (q w _)
      | ok p =>
        obtain ⟨d, ρ1⟩ := p
        simp only [R.bind]
        cases et : truth d with
        | none => trivial
        | some t =>
          have e2 : toT (evalE T e ρ) = .ok (t, ρ1) := by unfold toT; rw [e1]; simp only [R.bind, et]
          rw [e2] at q
          obtain ⟨d', hd, _, q⟩ := q
          rw [e1] at hd
          cases hd
          by_cases hi : (t == i) = true
          · simp only [hi, if_true]
            cases e3 : evalB T i (e' :: es) ρ1 with
            | stk => trivial
            | exc t fs ds =>
              intro w Q
              refine we_of pv (q _ fun v G1 H1 gr E1 le r tv => ⟨_, tv, ?_⟩)
              rw [if_pos hi]
              have q2 := ih ρ1 σ G1 H1 E1
              rw [e3] at q2
              exact q2 (fun d H' xx => w d H' (xx.after gr fun a z => .inl (le.ownA z))) Q
            | ok pp =>
              obtain ⟨s2, ρ2⟩ := pp
              intro Q kk
              refine we_of pv (q _ fun v G1 H1 gr E1 le r tv => ⟨_, tv, ?_⟩)
              rw [if_pos hi]
              have q2 := ih ρ1 σ G1 H1 E1
              rw [e3] at q2
              exact q2 Q fun u G2 H2 gr2 E2 le2 ru => kk u G2 H2 (gr.trans gr2 fun a z => .inl (le.ownA z)) E2 (le.trans le2) (ru.back gr)
          · simp only [hi]
            intro Q kk
            refine we_of pv (q _ fun v G1 H1 gr E1 le r tv => ⟨_, tv, ?_⟩)
            rw [if_neg hi]
            exact kk v G1 H1 gr E1 le r
end
end Mr

/-! chains; what is only looked at. -/
namespace Mr
open PySem L2
section
variable {g : Gs} {W : WX} {X : Cx} {B : Addr → Prop} {pn : List Nat} {a b c node : Expr} {as : List Expr} {sc : Scope} {N : List Str} {k : Nat} {pos p2 : Pos} {T : Tb} {ea eb ec : E} {es : List E} {cn : Cn} {K : PySem.W.Frag} {G H : Hp} {ρ : Rho} {σ : L2.St}
theorem evalE_chain (T : Tb) (p q : Pr) (ea eb ec : E) (ρ : Rho) : evalE T (.chain p q ea eb ec) ρ = (two (vE T ea) (vE T eb) ρ).bind fun x => match pr p [x.1.1, x.1.2] with
    | .val (.bl true) => (vE T ec x.2).bind fun z => match pr q [x.1.2, z.1] with
      | .val (.bl t) => .ok (.val (.bl t), z.2)
      | _ => .stk
    | .val (.bl false) => .ok (.val (.bl false), x.2)
    | _ => .stk := by
  simp only [evalE]
  unfold two vE
  cases toD (evalE T ea ρ) with
  | stk => rfl
  | exc _ _ _ => rfl
  | ok x =>
    obtain ⟨x, ρ1⟩ := x
    simp only [R.bind]
    cases toD (evalE T eb ρ1) with
    | stk => rfl
    | exc _ _ _ => rfl
    | ok y => rfl
theorem chain_run {p q : Pr} {r r' : R2} (hp : P2B g p r) (hq : P2B g q r') (ha : EdOk g W X B pn a (vE T ea)) (hb : EdOk g W X B pn b (vE T eb)) (hc : EdOk g W X B pn c (vE T ec)) (E : EnvR g.c g.K B pn G H ρ σ) :
    match evalE T (.chain p q ea eb ec) ρ with
    | .stk => True
    | .ok (s, ρ') => ∃ t, s = .val (.bl t) ∧ ∀ Q : VK, (∀ G' H', Grow (ownA ρ σ) G H G' H' → EnvR g.c g.K B pn G' H' ρ' σ → OwnLe ρ' ρ → Q (.bl t) H') → tChain r r' (WE X a) (WE X b) (WE X c) σ H Q
    | .exc t fs ds => (∀ d H', ExcR g (ownA ρ σ) G H t fs ds d H' → W (.ref (g.c.cA t)) d σ H') → ∀ Q : VK, tChain r r' (WE X a) (WE X b) (WE X c) σ H Q := by
  have q1 := two_run ha hb E
  rw [evalE_chain]
  cases e : two (vE T ea) (vE T eb) ρ with
  | stk => trivial
  | exc t fs ds =>
    rw [e] at q1
    exact fun w Q => q1 w _
  | ok x =>
    obtain ⟨⟨dx, dy⟩, ρ1⟩ := x
    rw [e] at q1
    simp only [R.bind]
    by_cases hn : pr p [dx, dy] = .no
    · rw [hn]; trivial
    · obtain ⟨t, ht, hr⟩ := hp dx dy hn
      rw [ht]
      cases t with
      | false =>
        refine ⟨false, rfl, fun Q kk => q1 _ fun x y G1 H1 gr E1 le rx ry => hr G1 H1 x y _ E1.sub rx ry ⟨false, rfl, ?_⟩⟩
        exact kk G1 H1 gr E1 le
      | true =>
        show match (vE T ec ρ1).bind fun z => (match pr q [dy, z.1] with | .val (.bl t) => R.ok (Sl.val (.bl t), z.2) | _ => .stk) with | .stk => True | .ok (s, ρ') => _ | .exc t fs ds => _
        cases e2 : vE T ec ρ1 with
        | stk => trivial
        | exc t fs ds =>
          intro w Q
          refine q1 _ fun x y G1 H1 gr E1 le rx ry => hr G1 H1 x y _ E1.sub rx ry ⟨true, rfl, ?_⟩
          have q2 := hc ρ1 σ G1 H1 E1
          rw [e2] at q2
          exact q2 (fun d H' xx => w d H' (xx.after gr fun a z => .inl (le.ownA z))) _
        | ok z =>
          obtain ⟨dz, ρ2⟩ := z
          simp only [R.bind]
          by_cases hn2 : pr q [dy, dz] = .no
          · rw [hn2]; trivial
          · obtain ⟨t2, ht2, hr2⟩ := hq dy dz hn2
            rw [ht2]
            refine ⟨t2, rfl, fun Q kk => q1 _ fun x y G1 H1 gr E1 le rx ry => hr G1 H1 x y _ E1.sub rx ry ⟨true, rfl, ?_⟩⟩
            have q2 := hc ρ1 σ G1 H1 E1
            rw [e2] at q2
            exact q2 _ fun z G2 H2 gr2 E2 le2 rz => hr2 G2 H2 y z Q E2.sub (ry.mono gr2.gg) rz (kk G2 H2 (gr.trans gr2 fun a z => .inl (le.ownA z)) E2 (le.trans le2))
theorem chain_ok {p q : Pr} {op op' : CmpOp} {r r' : R2} (hm : notSet c = true) (ho : OpR X (compareOp op) r) (hp : P2B g p r) (ho' : OpR X (compareOp op') r') (hq : P2B g q r') (ha : EdOk g W X B pn a (vE T ea)) (hb : EdOk g W X B pn b (vE T eb)) (hc : EdOk g W X B pn c (vE T ec)) :
    EvOk g W X B pn (.Compare a [op, op'] [b, c] pos) (evalE T (.chain p q ea eb ec)) ∧ EtOk g W X B pn (.Compare a [op, op'] [b, c] pos) (tE T (.chain p q ea eb ec)) := by
  have hl : lastMarks [op, op'] [b, c] = false := marks_ok hm
  refine ⟨fun ρ σ G H E => ?_, fun ρ σ G H E => ?_⟩
  · have h := chain_run hp hq ha hb hc E
    cases e : evalE T (.chain p q ea eb ec) ρ with
    | stk => trivial
    | exc t fs ds =>
      rw [e] at h
      exact fun w Q => we_of (pe_chain ho ho' (pe_w X a) (pe_w X b) (pe_w X c) hl) (h w Q)
    | ok x =>
      obtain ⟨s, ρ1⟩ := x
      rw [e] at h
      obtain ⟨t, rfl, h⟩ := h
      exact fun Q kk => we_of (pe_chain ho ho' (pe_w X a) (pe_w X b) (pe_w X c) hl) (h Q fun G' H' gr E' le => kk _ G' H' gr E' le rfl)
  · have h := chain_run hp hq ha hb hc E
    show match toT (evalE T (.chain p q ea eb ec) ρ) with | .stk => True | .ok (s, ρ') => _ | .exc t fs ds => _
    cases e : evalE T (.chain p q ea eb ec) ρ with
    | stk => trivial
    | exc t fs ds =>
      rw [e] at h
      exact fun w Q => wt_of (pt_chain ho ho' (pe_w X a) (pe_w X b) (pe_w X c) hl) (h w _)
    | ok x =>
      obtain ⟨s, ρ1⟩ := x
      rw [e] at h
      obtain ⟨t, rfl, h⟩ := h
      exact fun Q kk => wt_of (pt_chain ho ho' (pe_w X a) (pe_w X b) (pe_w X c) hl) (h _ fun G' H' gr E' le => ⟨t, rfl, kk G' H' gr E' le⟩)
/-! ### what is only looked at -/
/-- all own things told as they stand -/
noncomputable def knowAll (ρ : Rho) (σ : L2.St) (G H : Hp) : Hp := open Classical in fun b => if ownA ρ σ b then H b else G b
theorem fz_get (ρ : Rho) (i : Nat) : (fzAll ρ)[i]? = (ρ[i]?).map Sl.fz := by
  unfold fzAll
  rw [List.getElem?_map]
theorem EnvR.look (E : EnvR cn K B pn G H ρ σ) : EnvR cn K B pn (knowAll ρ σ G H) H (fzAll ρ) σ ∧ Same G (knowAll ρ σ G H) := by
  have sm : Same G (knowAll ρ σ G H) := fun b o e => by
    unfold knowAll
    split
    · exact E.sub b o e
    · exact e
  refine ⟨⟨fun b o q => ?_, by unfold fzAll; rw [List.length_map]; exact E.len, fun i d h => ?_, fun i d h => ?_, fun i j d e a h => ?_⟩, sm⟩
  · unfold knowAll at q
    split at q
    · exact q
    · exact E.sub b o q
  · rw [fz_get] at h
    cases e : ρ[i]? with
    | none => rw [e] at h; cases h
    | some s =>
      rw [e] at h
      cases s with
      | no => cases h
      | val d' =>
        cases h
        obtain ⟨v, h1, h2⟩ := E.val i _ e
        exact ⟨v, h1, h2.mono sm⟩
      | own d' =>
        cases h
        obtain ⟨p, h1, h2, _⟩ := E.own i _ e
        refine ⟨_, h1, h2.rep.mono fun b o q => ?_⟩
        unfold knowAll
        by_cases hb : b = p
        · subst hb
          rw [know_same] at q
          rw [if_pos ⟨i, _, e, h1⟩]
          exact q
        · rw [know_ne hb] at q
          split
          · exact E.sub b o q
          · exact q
  · rw [fz_get] at h
    cases e : ρ[i]? with
    | none => rw [e] at h; cases h
    | some s =>
      rw [e] at h
      cases s <;> cases h
  · rw [fz_get] at h
    cases e : ρ[i]? with
    | none => rw [e] at h; cases h
    | some s =>
      rw [e] at h
      cases s <;> cases h
theorem no_own_fz {a : Addr} : ¬ ownA (fzAll ρ) σ a := by
  rintro ⟨i, d, h, _⟩
  rw [fz_get] at h
  cases e : ρ[i]? with
  | none => rw [e] at h; cases h
  | some s =>
    rw [e] at h
    cases s <;> cases h
/-- back from looking: nothing is told anew -/
theorem look_back {G' H' : Hp} (E : EnvR cn K B pn G H ρ σ) (gr : Grow (ownA (fzAll ρ) σ) (knowAll ρ σ G H) H G' H') : Grow (ownA ρ σ) G H G H' ∧ EnvR cn K B pn G H' ρ σ := by
  have kp : ∀ a o, H a = some o → H' a = some o := fun a o h => gr.keep a o h no_own_fz
  have g1 : ∀ own, Grow own G H G H' := fun own => ⟨.refl _, fun b o h => kp b o (E.sub b o h), fun a o h _ => kp a o h, fun a o h => ⟨o, kp a o h⟩, fun _ _ h => .inl h⟩
  exact ⟨g1 _, E.grow (g1 fun _ => False) fun _ _ z => z⟩
theorem look_exc {t : Nat} {fs : List Nat} {ds : List D} {d : Option Addr} {H' : Hp} (E : EnvR g.c g.K B pn G H ρ σ) (x : ExcR g (ownA (fzAll ρ) σ) (knowAll ρ σ G H) H t fs ds d H') : ExcR g (ownA ρ σ) G H t fs ds d H' := by
  obtain ⟨G', gr, x⟩ := x
  refine ⟨G', ⟨E.look.2.trans gr.gg, gr.gh, fun a o h _ => gr.keep a o h no_own_fz, gr.there, fun a o h => ?_⟩, x⟩
  rcases gr.new a o h with q | q | q | q
  · unfold knowAll at q
    split at q
    · rename_i ho
      exact .inr (.inr (.inr ho))
    · exact .inl q
  · exact .inr (.inl q)
  · exact .inr (.inr (.inl q))
  · exact absurd q no_own_fz
theorem bor_ok (ha : EdOk g W X B pn a (vE T ea)) : EvOk g W X B pn a (evalE T (.bor ea)) := by
  intro ρ σ G H E
  obtain ⟨E1, sm⟩ := E.look
  have q := ha (fzAll ρ) σ _ H E1
  simp only [evalE]
  simp only [vE] at q
  cases e : toD (evalE T ea (fzAll ρ)) with
  | stk => trivial
  | exc t fs ds =>
    rw [e] at q
    exact fun w Q => q (fun d H' x => w d H' (look_exc E x)) Q
  | ok p =>
    obtain ⟨d, ρ1⟩ := p
    rw [e] at q
    simp only [R.bind]
    by_cases hs : isScal d = true
    · rw [if_pos hs]
      intro Q kk
      refine q Q fun v G' H' gr E' le r => ?_
      obtain ⟨g2, E2⟩ := look_back E gr
      refine kk v G H' g2 E2 (.refl ρ) ?_
      cases d <;> simp [isScal] at hs <;> exact r
    · rw [if_neg hs]
      trivial
theorem borT_ok (hat : EtOk g W X B pn a (tE T ea)) : EtOk g W X B pn a (tE T (.borT ea)) := by
  intro ρ σ G H E
  obtain ⟨E1, sm⟩ := E.look
  have q := hat (fzAll ρ) σ _ H E1
  show match toT (evalE T (.borT ea) ρ) with | .stk => True | .ok (s, ρ') => _ | .exc t fs ds => _
  simp only [evalE]
  simp only [tE] at q
  cases e : toT (evalE T ea (fzAll ρ)) with
  | stk => trivial
  | exc t fs ds =>
    rw [e] at q
    exact fun w Q => q (fun d H' x => w d H' (look_exc E x)) Q
  | ok p =>
    obtain ⟨t, ρ1⟩ := p
    rw [e] at q
    intro Q kk
    refine q Q fun G' H' gr E' le => ?_
    obtain ⟨g2, E2⟩ := look_back E gr
    exact kk G H' g2 E2 (.refl ρ)
end
end Mr

/-! What a def promises; arguments; what is lent. -/
namespace Mr
open PySem L2
/-- what is lent, at the end -/
def BackR (c : Cn) (K : PySem.W.Frag) (G' H' : Hp) (as os : List Sl) (vs : List V) : Prop := as.length ≤ os.length ∧ ∀ (i : Nat) d, as[i]? = some (.own d) → ∃ a s, vs[i]? = some (V.ref a) ∧ os[i]? = some s ∧ match s with
  | .val e => Rep c K G' e (.ref a)
  | .own e => OwnAt c K G' H' e a
  | .no => True
abbrev Here (H : Hp) : Addr → Prop := fun a => (H a).isSome = true
/-- a def's promise at these arguments: it answers as the small language says -/
def spOf (g : Gs) (as : List Sl) (r : R (Sl × List Sl)) : Sp := fun vs H Q E => ∃ G, EnvR g.c g.K (Here H) (pinsOf 0 as) G H as (vs.map some) ∧ match r with
  | .stk => False
  | .ok (s, os) => ∀ v G' H', Grow (ownA as (vs.map some)) G H G' H' → BackR g.c g.K G' H' as os vs → ResR g.c g.K H G' H' s v → Q v H'
  | .exc t fs ds => ∀ d H', ExcR g (ownA as (vs.map some)) G H t fs ds d H' → E (.ref (g.c.cA t)) d H'
/-- the values of the arguments -/
inductive AR (c : Cn) (K : PySem.W.Frag) (G : Hp) (σ : L2.St) : List (Option Nat) → List D → List V → Prop where
  | nil : AR c K G σ [] [] []
  | dat {d : D} {v : V} {ms : List (Option Nat)} {ds : List D} {vs : List V} : Rep c K G d v → AR c K G σ ms ds vs → AR c K G σ (none :: ms) (d :: ds) (v :: vs)
  | lent {j : Nat} {v : V} {ms : List (Option Nat)} {ds : List D} {vs : List V} : σ[j]? = some (some v) → AR c K G σ ms ds vs → AR c K G σ (some j :: ms) ds (v :: vs)
section
variable {g : Gs} {W : WX} {X : Cx} {B : Addr → Prop} {pn : List Nat} {a b c node : Expr} {as : List Expr} {sc : Scope} {N : List Str} {k : Nat} {pos p2 : Pos} {T : Tb} {ea eb ec : E} {es : List E} {cn : Cn} {K : PySem.W.Frag} {G H : Hp} {ρ : Rho} {σ : L2.St}
theorem AR.mono {G' : Hp} {ms : List (Option Nat)} {ds : List D} {vs : List V} (e : Same G G') (h : AR cn K G σ ms ds vs) : AR cn K G' σ ms ds vs := by
  induction h with
  | nil => exact .nil
  | dat r _ ih => exact .dat (r.mono e) ih
  | lent r _ ih => exact .lent r ih
theorem AR.get {ms : List (Option Nat)} {ds : List D} {vs : List V} (h : AR cn K G σ ms ds vs) : ∀ {as : List Sl}, argSl ms ds ρ = some as → as.length = ms.length ∧ vs.length = ms.length ∧ ∀ (i : Nat),
    (∀ d, as[i]? = some (.val d) → ∃ v, vs[i]? = some v ∧ Rep cn K G d v) ∧ (∀ d, as[i]? = some (.own d) → ∃ j v, ms[i]? = some (some j) ∧ ρ[j]? = some (.own d) ∧ vs[i]? = some v ∧ σ[j]? = some (some v)) ∧
    (∀ j, ms[i]? = some (some j) → ∃ d, as[i]? = some (.own d)) := by
  induction h with
  | nil =>
    intro as e
    simp only [argSl] at e
    cases e
    exact ⟨rfl, rfl, fun i => ⟨fun d h => by simp at h, fun d h => by simp at h, fun j h => by simp at h⟩⟩
  | @dat d v ms ds vs r _ ih =>
    intro as e
    simp only [argSl] at e
    cases e1 : argSl ms ds ρ with
    | none => rw [e1] at e; cases e
    | some as' =>
      rw [e1] at e
      cases e
      obtain ⟨h1, h2, h3⟩ := ih e1
      refine ⟨by simp [h1], by simp [h2], fun i => ?_⟩
      cases i with
      | zero => exact ⟨fun d' h => (by cases h; exact ⟨v, rfl, r⟩), fun d' h => (by cases h), fun j h => (by cases h)⟩
      | succ i => simpa using h3 i
  | @lent j v ms ds vs r _ ih =>
    intro as e
    simp only [argSl] at e
    cases e0 : ρ[j]? with
    | none => rw [e0] at e; cases e
    | some s =>
      rw [e0] at e
      cases s with
      | no => cases e
      | val _ => cases e
      | own d =>
        simp only at e
        cases e1 : argSl ms ds ρ with
        | none => rw [e1] at e; cases e
        | some as' =>
          rw [e1] at e
          cases e
          obtain ⟨h1, h2, h3⟩ := ih e1
          refine ⟨by simp [h1], by simp [h2], fun i => ?_⟩
          cases i with
          | zero => exact ⟨fun d' h => (by cases h), fun d' h => (by cases h; exact ⟨j, v, rfl, e0, rfl, r⟩), fun j' h => ⟨d, rfl⟩⟩
          | succ i => simpa using h3 i
theorem pins_mem : ∀ (as : List Sl) (k i : Nat) (d : D), as[i]? = some (.own d) → k + i ∈ pinsOf k as
  | [], k, i, d, h => by simp at h
  | .own e :: r, k, 0, d, h => by simp [pinsOf]
  | .own e :: r, k, i + 1, d, h => by
    have q := pins_mem r (k + 1) i d (by simpa using h)
    simp only [pinsOf]
    rw [show k + (i + 1) = k + 1 + i by omega]
    exact List.mem_cons_of_mem _ q
  | .val e :: r, k, 0, d, h => by cases h
  | .val e :: r, k, i + 1, d, h => by
    have q := pins_mem r (k + 1) i d (by simpa using h)
    simp only [pinsOf]
    rw [show k + (i + 1) = k + 1 + i by omega]
    exact q
  | .no :: r, k, 0, d, h => by cases h
  | .no :: r, k, i + 1, d, h => by
    have q := pins_mem r (k + 1) i d (by simpa using h)
    simp only [pinsOf]
    rw [show k + (i + 1) = k + 1 + i by omega]
    exact q
theorem lent_mem : ∀ {ms : List (Option Nat)} {i j : Nat}, ms[i]? = some (some j) → j ∈ ms.filterMap id
  | _, i, j, h => List.mem_filterMap.mpr ⟨some j, List.mem_of_getElem? h, rfl⟩
theorem lent_inj : ∀ {ms : List (Option Nat)} {i i' j : Nat}, (ms.filterMap id).Nodup → ms[i]? = some (some j) → ms[i']? = some (some j) → i = i'
  | [], i, i', j, _, h, _ => by simp at h
  | none :: ms, 0, i', j, _, h, _ => by cases h
  | none :: ms, i + 1, 0, j, _, _, h => by cases h
  | none :: ms, i + 1, i' + 1, j, n, h, h' => by
    have := lent_inj (ms := ms) (i := i) (i' := i') (j := j) (by simpa using n) (by simpa using h) (by simpa using h')
    omega
  | some m :: ms, 0, 0, j, _, _, _ => rfl
  | some m :: ms, 0, i' + 1, j, n, h, h' => by
    cases h
    have n : (m :: ms.filterMap id).Nodup := by simpa using n
    exact absurd (lent_mem (ms := ms) (i := i') (by simpa using h')) (List.nodup_cons.mp n).1
  | some m :: ms, i + 1, 0, j, n, h, h' => by
    cases h'
    have n : (m :: ms.filterMap id).Nodup := by simpa using n
    exact absurd (lent_mem (ms := ms) (i := i) (by simpa using h)) (List.nodup_cons.mp n).1
  | some m :: ms, i + 1, i' + 1, j, n, h, h' => by
    have n : (m :: ms.filterMap id).Nodup := by simpa using n
    have := lent_inj (ms := ms) (i := i) (i' := i') (j := j) (List.nodup_cons.mp n).2 (by simpa using h) (by simpa using h')
    omega
theorem map_some_get {vs : List V} {i : Nat} {v : V} : (vs.map some)[i]? = some (some v) ↔ vs[i]? = some v := by
  rw [List.getElem?_map]
  cases vs[i]? <;> simp
theorem AR.env {ms : List (Option Nat)} {ds : List D} {vs : List V} {as : List Sl} (h : AR cn K G σ ms ds vs) (e : argSl ms ds ρ = some as) (n : lentOk ms = true) (E : EnvR cn K B pn G H ρ σ) :
    EnvR cn K (Here H) (pinsOf 0 as) G H as (vs.map some) ∧ ∀ a, ownA as (vs.map some) a → ownA ρ σ a := by
  obtain ⟨h1, h2, h3⟩ := h.get e
  have n : (ms.filterMap id).Nodup := by simpa [lentOk] using n
  refine ⟨⟨E.sub, by rw [List.length_map, h1, h2], fun i d hi => ?_, fun i d hi => ?_, fun i i' d e' a hi hi' hs hs' => ?_⟩, fun a => ?_⟩
  · obtain ⟨v, q1, q2⟩ := (h3 i).1 d hi
    exact ⟨v, map_some_get.mpr q1, q2⟩
  · obtain ⟨j, v, q1, q2, q3, q4⟩ := (h3 i).2.1 d hi
    obtain ⟨a, o1, o2, o3⟩ := E.own j d q2
    rw [q4] at o1
    cases o1
    refine ⟨a, map_some_get.mpr q3, o2, .inl ?_⟩
    have := pins_mem as 0 i d hi
    rwa [Nat.zero_add] at this
  · obtain ⟨j, v, q1, q2, q3, q4⟩ := (h3 i).2.1 d hi
    obtain ⟨j', v', q1', q2', q3', q4'⟩ := (h3 i').2.1 e' hi'
    rw [map_some_get] at hs hs'
    rw [q3] at hs
    rw [q3'] at hs'
    cases hs
    cases hs'
    have hj := E.inj j j' d e' a q2 q2' q4 q4'
    subst hj
    exact lent_inj n q1 q1'
  · rintro ⟨i, d, hi, hs⟩
    obtain ⟨j, v, q1, q2, q3, q4⟩ := (h3 i).2.1 d hi
    rw [map_some_get, q3] at hs
    cases hs
    exact ⟨j, d, q2, q4⟩
theorem backSl_get : ∀ {ms : List (Option Nat)} {os : List Sl} {ρ : Rho} {k : Nat} {s : Sl}, ms.length ≤ os.length → (backSl ms os ρ)[k]? = some s → (∃ i : Nat, ms[i]? = some (some k) ∧ os[i]? = some s) ∨ ((∀ i : Nat, ms[i]? ≠ some (some k)) ∧ ρ[k]? = some s)
  | [], os, ρ, k, s, _, h => .inr ⟨fun i z => by simp at z, h⟩
  | m :: ms, [], ρ, k, s, hl, h => by simp at hl
  | none :: ms, o :: os, ρ, k, s, hl, h => by
    simp only [backSl] at h
    rcases backSl_get (by simpa using hl) h with ⟨i, q1, q2⟩ | ⟨q1, q2⟩
    · exact .inl ⟨i + 1, by simpa using q1, by simpa using q2⟩
    · refine .inr ⟨fun i => ?_, q2⟩
      cases i with
      | zero => simp
      | succ i => simpa using q1 i
  | some j :: ms, o :: os, ρ, k, s, hl, h => by
    simp only [backSl] at h
    rcases backSl_get (by simpa using hl) h with ⟨i, q1, q2⟩ | ⟨q1, q2⟩
    · exact .inl ⟨i + 1, by simpa using q1, by simpa using q2⟩
    · by_cases hj : j = k
      · subst hj
        by_cases hb : j < ρ.length
        · rw [List.getElem?_set_self hb] at q2
          exact .inl ⟨0, rfl, q2⟩
        · rw [List.getElem?_eq_none (by simpa using hb)] at q2
          cases q2
      · rw [List.getElem?_set_ne hj] at q2
        refine .inr ⟨fun i => ?_, q2⟩
        cases i with
        | zero => simpa using hj
        | succ i => simpa using q1 i
theorem backSl_len : ∀ {ms : List (Option Nat)} {os : List Sl} {ρ : Rho}, (backSl ms os ρ).length = ρ.length
  | [], os, ρ => by unfold backSl; rfl
  | none :: ms, [], ρ => by simp only [backSl]
  | some j :: ms, [], ρ => by simp only [backSl]
  | none :: ms, o :: os, ρ => by simp only [backSl]; exact backSl_len
  | some j :: ms, o :: os, ρ => by
    simp only [backSl]
    rw [backSl_len, List.length_set]
theorem AR.back {ms : List (Option Nat)} {ds : List D} {vs : List V} {as os : List Sl} {G' H' : Hp} (h : AR cn K G σ ms ds vs) (e : argSl ms ds ρ = some as) (n : lentOk ms = true) (E : EnvR cn K B pn G H ρ σ)
    (gr : Grow (ownA as (vs.map some)) G H G' H') (bk : BackR cn K G' H' as os vs) : EnvR cn K B pn G' H' (backSl ms os ρ) σ ∧ OwnLe (backSl ms os ρ) ρ ∧ Grow (ownA ρ σ) G H G' H' := by
  obtain ⟨h1, h2, h3⟩ := h.get e
  obtain ⟨_, le⟩ := h.env e n E
  have n : (ms.filterMap id).Nodup := by simpa [lentOk] using n
  obtain ⟨b1, b2⟩ := bk
  rw [h1] at b1
  have lent : ∀ {i j : Nat} {s : Sl}, ms[i]? = some (some j) → os[i]? = some s → ∃ d a, ρ[j]? = some (.own d) ∧ σ[j]? = some (some (.ref a)) ∧ match s with | .val e => Rep cn K G' e (.ref a) | .own e => OwnAt cn K G' H' e a | .no => True := by
    intro i j s q1 q2
    obtain ⟨d, hd⟩ := (h3 i).2.2 j q1
    obtain ⟨j', v, r1, r2, r3, r4⟩ := (h3 i).2.1 d hd
    rw [q1] at r1
    cases r1
    obtain ⟨a, s', t1, t2, t3⟩ := b2 i d hd
    rw [q2] at t2
    cases t2
    rw [r3] at t1
    cases t1
    exact ⟨d, a, r2, r4, t3⟩
  have ole : OwnLe (backSl ms os ρ) ρ := fun i d hi => by
    rcases backSl_get b1 hi with ⟨l, q1, q2⟩ | ⟨_, q2⟩
    · obtain ⟨d', a, r1, _⟩ := lent q1 q2
      exact ⟨d', r1⟩
    · exact ⟨d, q2⟩
  refine ⟨⟨gr.gh, by rw [backSl_len]; exact E.len, fun i d hi => ?_, fun i d hi => ?_, fun i j d e' a hi hj hs hs' => ?_⟩, ole, gr.mono le⟩
  · rcases backSl_get b1 hi with ⟨l, q1, q2⟩ | ⟨_, q2⟩
    · obtain ⟨d', a, r1, r2, r3⟩ := lent q1 q2
      exact ⟨_, r2, r3⟩
    · obtain ⟨v, r1, r2⟩ := E.val i d q2
      exact ⟨v, r1, r2.mono gr.gg⟩
  · rcases backSl_get b1 hi with ⟨l, q1, q2⟩ | ⟨nl, q2⟩
    · obtain ⟨d', a, r1, r2, r3⟩ := lent q1 q2
      obtain ⟨a', t1, _, t3⟩ := E.own i d' r1
      rw [r2] at t1
      cases t1
      exact ⟨a, r2, r3, t3⟩
    · obtain ⟨a, t1, t2, t3⟩ := E.own i d q2
      have no : ¬ ownA as (vs.map some) a := by
        rintro ⟨l, d', hl, hs⟩
        obtain ⟨j', v, r1, r2, r3, r4⟩ := (h3 l).2.1 d' hl
        rw [map_some_get, r3] at hs
        cases hs
        have := E.inj i j' d d' a q2 r2 t1 r4
        subst this
        exact nl l r1
      refine ⟨a, t1, t2.keep gr.gg ?_ (fun o q => gr.keep a o q no), t3⟩
      cases eg : G' a with
      | none => rfl
      | some o =>
        obtain ⟨o', q, nt⟩ := t2.ex
        rcases gr.new a o eg with z | z | ⟨xs, z⟩ | z
        · rw [t2.1] at z; cases z
        · rw [q] at z; cases z
        · have w := gr.gh a o eg
          rw [gr.keep a o' q no] at w
          cases w
          exact absurd z (nt xs)
        · exact absurd z no
  · obtain ⟨d1, q1⟩ := ole i d hi
    obtain ⟨d2, q2⟩ := ole j e' hj
    exact E.inj i j d1 d2 a q1 q2 hs hs'
/-! ### arguments -/
inductive MArgs (g : Gs) (W : WX) (X : Cx) (B : Addr → Prop) (pn : List Nat) (T : Tb) (N : List Str) (sc : Scope) : List Expr → List (Option Nat) → List E → Prop where
  | nil : MArgs g W X B pn T N sc [] [] []
  | dat {a : Expr} {e : E} {as : List Expr} {ms : List (Option Nat)} {es : List E} : notStar a = true → EvOk g W X B pn a (evalE T e) → MArgs g W X B pn T N sc as ms es → MArgs g W X B pn T N sc (a :: as) (none :: ms) (e :: es)
  | lent {x : Str} {p : Pos} {j : Nat} {as : List Expr} {ms : List (Option Nat)} {es : List E} : N[j]? = some x → Vis sc x → (x == ("__debug__" : Str)) = false → (x == ("__classdict__" : Str)) = false → MArgs g W X B pn T N sc as ms es → MArgs g W X B pn T N sc (.Name x p :: as) (some j :: ms) es
theorem MArgs.star {ms : List (Option Nat)} (h : MArgs g W X B pn T N sc as ms es) : as.all notStar = true := by
  induction h with
  | nil => rfl
  | dat hs _ _ ih => rw [List.all_cons, hs, ih]; rfl
  | lent _ _ _ _ _ ih => rw [List.all_cons, ih]; rfl
theorem lentK_some {ms : List (Option Nat)} (E : EnvR cn K B pn G H ρ σ) (h : lentK ms ρ = true) : ∀ j, some j ∈ ms → ∃ v, σ[j]? = some (some v) := fun j hj => by
  have q := List.all_eq_true.mp h (some j) hj
  simp only [known] at q
  cases e : ρ[j]? with
  | none => rw [e] at q; cases q
  | some s =>
    cases s with
    | no => rw [e] at q; cases q
    | val d => obtain ⟨v, h1, _⟩ := E.val j d e; exact ⟨v, h1⟩
    | own d => obtain ⟨a, h1, _⟩ := E.own j d e; exact ⟨_, h1⟩
theorem margs_run {ms : List (Option Nat)} (C : Ctx g sc N k W X) (h : MArgs g W X B pn T N sc as ms es) : ∀ {ρ : Rho} {G H : Hp}, EnvR g.c g.K B pn G H ρ σ → (∀ j, some j ∈ ms → ∃ v, σ[j]? = some (some v)) →
    match evalDs T es ρ with
    | .stk => True
    | .ok (ds, ρ') => ∀ Q : List V → Hp → Prop, (∀ vs G' H', Grow (ownA ρ σ) G H G' H' → EnvR g.c g.K B pn G' H' ρ' σ → OwnLe ρ' ρ → AR g.c g.K G' σ ms ds vs → Q vs H') → WA X as σ H Q
    | .exc t fs ds => (∀ d H', ExcR g (ownA ρ σ) G H t fs ds d H' → W (.ref (g.c.cA t)) d σ H') → ∀ Q : List V → Hp → Prop, WA X as σ H Q := by
  induction h with
  | nil =>
    intro ρ G H E hk
    simp only [evalDs]
    exact fun Q kk => wa_of pa_nil (kk [] G H (.refl E.sub) E (.refl ρ) .nil)
  | @dat a e as ms es hs ha hr ih =>
    intro ρ G H E hk
    have q := ha.d ρ σ G H E
    simp only [evalDs]
    simp only at q
    cases e1 : toD (evalE T e ρ) with
    | stk => trivial
    | exc t fs ds =>
      rw [e1] at q
      exact fun w Q => wa_of (pa_cons (pe_w X a) (pa_w X as) (star_ok hs)) (q w _)
    | ok p =>
      obtain ⟨d, ρ1⟩ := p
      rw [e1] at q
      simp only [R.bind]
      cases e2 : evalDs T es ρ1 with
      | stk => trivial
      | exc t fs ds =>
        intro w Q
        refine wa_of (pa_cons (pe_w X a) (pa_w X as) (star_ok hs)) (q _ fun v G1 H1 gr E1 le rx => ?_)
        have q2 := ih E1 fun j hj => hk j (List.mem_cons_of_mem _ hj)
        rw [e2] at q2
        exact q2 (fun d H' x => w d H' (x.after gr fun a z => .inl (le.ownA z))) _
      | ok p =>
        obtain ⟨ds, ρ2⟩ := p
        intro Q kk
        refine wa_of (pa_cons (pe_w X a) (pa_w X as) (star_ok hs)) (q _ fun v G1 H1 gr E1 le rx => ?_)
        have q2 := ih E1 fun j hj => hk j (List.mem_cons_of_mem _ hj)
        rw [e2] at q2
        exact q2 _ fun us G2 H2 gr2 E2 le2 ry => kk (v :: us) G2 H2 (gr.trans gr2 fun a z => .inl (le.ownA z)) E2 (le.trans le2) (.dat (rx.mono gr2.gg) ry)
  | @lent x p j as ms es hN hv hd hcd hr ih =>
    intro ρ G H E hk
    have hvar : PE X (.Name x p) (tVar j) := pe_var (by rw [C.hN]; exact hN) (by rw [C.hs]; exact hv) hd hcd
    obtain ⟨v, hv'⟩ := hk j List.mem_cons_self
    have q2 := ih E fun j hj => hk j (List.mem_cons_of_mem _ hj)
    cases e2 : evalDs T es ρ with
    | stk => trivial
    | exc t fs ds =>
      rw [e2] at q2
      exact fun w Q => wa_of (pa_cons hvar (pa_w X as) (star_ok rfl)) ⟨v, hv', q2 w _⟩
    | ok p =>
      obtain ⟨ds, ρ2⟩ := p
      rw [e2] at q2
      exact fun Q kk => wa_of (pa_cons hvar (pa_w X as) (star_ok rfl)) ⟨v, hv', q2 _ fun us G2 H2 gr2 E2 le2 ry => kk (v :: us) G2 H2 gr2 E2 le2 (.lent hv' ry)⟩
end
end Mr

/-! Calls of defs and methods, making, properties. -/
namespace Mr
open PySem L2
/-- what the row gives the small language -/
structure TOk (g : Gs) (kk : Nat) (T : Tb) (fa : Nat → Addr) : Prop where
  call : ∀ f as, FnR g.P g.w g.K g.mg g.base (L2.CX g.P g.w) kk (fa f) (spOf g as (T.call f as))
  fI : ∀ i j, g.c.fN i = g.c.fN j → i = j
  meth : ∀ c m f, T.meth c m = some f → Meth g.K (g.c.cA c) (g.c.fN m) (fa f) ∧ Cls g.K (g.c.cA c)
  prop : ∀ c m f, T.prop c m = some f → (∃ p, PropOf g.K (g.c.cA c) (g.c.fN m) p (fa f)) ∧ Cls g.K (g.c.cA c)
  init : ∀ c f, T.init c = some f → Mk g.K (g.c.cA c) (fa f)
  eqm : ∀ c f, T.eqm c = some f → PySem.W.findIn g.K (.ref (g.c.cA c)) "__eq__" = some (some (.ref (fa f))) ∧ PySem.W.isFn g.K (.ref (fa f)) = true
  ty : ∀ c f, T.init c = some f → Cls g.K (g.c.cA c) ∧ PySem.W.findIn g.K (.ref (g.c.cA c)) "__class__" = some (some (.builtin "object.__class__")) ∧ PySem.W.specialIn g.K (.builtin "object.__class__") "__get__" = some (some (.builtin "getset_descriptor.__get__")) ∧ PySem.W.takesIn g.K (.builtin "object.__class__") = some true ∧ PySem.W.mroIn g.K (g.c.cA c) (.type "object") = some true
  fld : ∀ c f, T.fld c f = true → NoAttr g.K (g.c.cA c) (g.c.fN f) ∧ Cls g.K (g.c.cA c)
section
variable {g : Gs} {W : WX} {X : Cx} {B : Addr → Prop} {pn : List Nat} {a b c node o : Expr} {as : List Expr} {sc : Scope} {N : List Str} {k kk : Nat} {pos p2 apos : Pos} {T : Tb} {ea eb ec eo : E} {es : List E} {cn : Cn} {K : PySem.W.Frag} {G H : Hp} {ρ : Rho} {σ : L2.St} {fa : Nat → Addr}
theorem evalArgs_any {f : Value} {args : List Expr} {env : Env} {M : Model} {A : Around} {E : Value → Shared → Prop} {s : Shared} {Q : Args → Shared → Prop} (hs : args.all notStar = true) (h : wpAny M A (spliced (backTo pos (starEach args env))) (fun vs s' => Q ⟨vs, []⟩ s') E s) : wpAny M A (evalArgs f true (backTo pos (starEach args env)) []) Q E s := by
  cases args with
  | nil =>
    unfold evalArgs
    show wpAny M A (spliced [] >>= _) Q E s
    refine wpAny_bind (wpAny_mono h (fun vs s' h' => ?_) fun _ _ x => x)
    refine wpAny_holding ?_
    exact wpAny_bind (wpAny_pure (wpAny_bind (wpAny_pure (wpAny_pure h'))))
  | cons a r =>
    rw [List.all_cons, Bool.and_eq_true] at hs
    rw [star_ok hs.1] at h ⊢
    exact Calls.evalArgs_plain h
theorem callWith_KA {f : Value} {first : List Value} {args : List Expr} {env : Env} {M : Model} {A : Around} {E : Value → Shared → Prop} {s : Shared} {Q : Value → Shared → Prop} (hk : PySem.W.keepIn K f = true) (hs : args.all notStar = true)
    (h : wpAny M A (spliced (backTo pos (starEach args env))) (fun vs s₁ => K.In s₁.heap ∧ wpAny M A (call f (first ++ vs)) Q E s₁) E s) : wpAny M A (callWith pos f first (backTo pos (starEach args env)) []) Q E s :=
  PySem.W.callWith_of (by rw [plain_args hs]; rfl) (PySem.W.keeps_K hk) (evalArgs_any hs h)
theorem run_fnRS {pins : List (Addr × Obj)} {H : Hp} {s : Shared} {CX : CXT} {k : Nat} {f : Addr} {sp : Sp} {E : XK} {Q : VK} {us : List Value} {vs : List V} (F : FnR X.prog X.w X.K X.mg X.base CX k f sp) (hr : Room k X.A) (hx : PassesAt CX X σ E) (I : Inv X pins σ H s) (r : Vals vs us) (h : sp vs H Q E) :
    wpAny (model X.prog X.w) X.A (call (.ref f) us) (EP X pins σ Q) X.xe s := by
  refine wpAny_call (codeAny_mono (F X.A X.stack s H us vs Q E hr I.env0 r h) fun r s' hq => ?_)
  cases r with
  | error e => exact hx pins H s e s' I hq
  | ok fl =>
    cases fl with
    | ret u => exact I.after hq
    | next => exact False.elim hq
    | brk => exact False.elim hq
    | cont => exact False.elim hq
/-- f(..) -/
theorem pe_callR {CX : CXT} {f : Addr} {sp : Sp} {E : L2.St → XK} {x : Str} {p : Pos} {t : TA} (F : FnR X.prog X.w X.K X.mg X.base CX k f sp) (hr : Room k X.A) (hg : Gl X x) (hm : X.mg x = some (.ref f)) (hk : PySem.W.keepIn X.K (.ref f) = true) (hx : ∀ σ, PassesAt CX X σ (E σ))
    (ha : PA X as t) (hdb : (x == ("__debug__" : Str)) = false) (hs : as.all notStar = true) : PE X (.Call (.Name x p) as [] pos) (fun σ H Q => t σ H fun vs H1 => sp vs H1 Q (E σ)) := by
  refine ⟨fun pins s σ H Q I h => ?_⟩
  refine wpAny_Call_Name_kw (ld_glob I hg hm ?_ hdb)
  refine callWith_KA hk hs (thn (ha.run pos pins s σ H _ I h) fun us s1 ⟨vs, H1, I1, r, q⟩ => ⟨I1.kIn, ?_⟩)
  exact run_fnRS F hr (hx σ) I1 r q
theorem noSp {CX : CXT} {f : Addr} : FnR X.prog X.w X.K X.mg X.base CX k f (fun _ _ _ _ => False) := fun _ _ _ _ _ _ _ _ _ _ _ h => h.elim
theorem Ctx.pass (C : Ctx g sc N k W X) (σ : L2.St) : PassesAt (L2.CX X.prog X.w) X σ (L2.WE W σ) := L2.passAt C.tk σ
theorem Ctx.fn (C : Ctx g sc N k W X) (TO : TOk g kk T fa) (f : Nat) (as : List Sl) : FnR X.prog X.w X.K X.mg X.base (L2.CX X.prog X.w) kk (fa f) (spOf g as (T.call f as)) := by
  rw [C.hP, C.hw, C.hK, C.hm, C.hb]
  exact TO.call f as
/-- behind the arguments: the call itself -/
theorem callR_run {ms : List (Option Nat)} {ds : List D} {vs : List V} {as : List Sl} {ρ1 : Rho} {G1 H1 : Hp} {f : Nat} (gr : Grow (ownA ρ σ) G H G1 H1) (E1 : EnvR g.c g.K B pn G1 H1 ρ1 σ) (le : OwnLe ρ1 ρ) (ar : AR g.c g.K G1 σ ms ds vs) (ea : argSl ms ds ρ1 = some as) :
    match callR T f ms as ρ1 with
    | .stk => True
    | .ok (s, ρ') => ∀ (Q : VK) (E : XK), (∀ v G' H', Grow (ownA ρ σ) G H G' H' → EnvR g.c g.K B pn G' H' ρ' σ → OwnLe ρ' ρ → ResR g.c g.K H G' H' s v → Q v H') → spOf g as (T.call f as) vs H1 Q E
    | .exc t fs ds => ∀ (Q : VK) (E : XK), (∀ d H', ExcR g (ownA ρ σ) G H t fs ds d H' → E (.ref (g.c.cA t)) d H') → spOf g as (T.call f as) vs H1 Q E := by
  unfold callR
  by_cases hl : lentOk ms = true
  · rw [if_pos hl]
    obtain ⟨Ec, lec⟩ := ar.env ea hl E1
    cases e : T.call f as with
    | stk => trivial
    | exc t fs ds => exact fun Q E kk => ⟨G1, Ec, fun d H' x => kk d H' (x.after gr fun a z => .inl (le.ownA (lec a z)))⟩
    | ok p =>
      obtain ⟨s, os⟩ := p
      refine fun Q E kk => ⟨G1, Ec, fun v G' H' g2 bk r => ?_⟩
      obtain ⟨E2, le2, g3⟩ := ar.back ea hl E1 g2 bk
      exact kk v G' H' (gr.trans g3 fun a z => .inl (le.ownA z)) E2 (le.trans le2) (r.back gr)
  · rw [if_neg hl]
    trivial
theorem call_ok {x : Str} {p : Pos} {ms : List (Option Nat)} {f : Nat} (C : Ctx g sc N k W X) (TO : TOk g kk T fa) (hkk : kk ≤ k) (hg : Gl X x) (hm : g.mg x = some (.ref (fa f))) (hk : PySem.W.keepIn g.K (.ref (fa f)) = true) (hdb : (x == ("__debug__" : Str)) = false) (h : MArgs g W X B pn T N sc as ms es) :
    EvOk g W X B pn (.Call (.Name x p) as [] pos) (evalE T (.call f ms es)) := by
  intro ρ σ G H E
  simp only [evalE]
  by_cases hl : lentK ms ρ = true
  · rw [if_pos hl]
    have q := margs_run C h E (lentK_some E hl)
    have rule : ∀ {sp : Sp}, FnR X.prog X.w X.K X.mg X.base (L2.CX X.prog X.w) kk (fa f) sp → PE X (.Call (.Name x p) as [] pos) (fun σ H Q => WA X as σ H fun vs H1 => sp vs H1 Q (L2.WE W σ)) := fun F =>
      pe_callR F (C.room.mono hkk) hg (by rw [C.hm]; exact hm) (by rw [C.hK]; exact hk) C.pass (pa_w X as) hdb h.star
    cases e : evalDs T es ρ with
    | stk => trivial
    | exc t fs ds =>
      rw [e] at q
      exact fun w Q => we_of (rule noSp) (q w _)
    | ok p =>
      obtain ⟨ds, ρ1⟩ := p
      rw [e] at q
      simp only [R.bind]
      cases ea : argSl ms ds ρ1 with
      | none => trivial
      | some sl =>
        simp only
        cases er : callR T f ms sl ρ1 with
        | stk => trivial
        | exc t fs ds' =>
          refine fun w Q => we_of (rule (C.fn TO f sl)) (q _ fun vs G1 H1 gr E1 le ar => ?_)
          have z := callR_run (T := T) (f := f) gr E1 le ar ea
          rw [er] at z
          exact z Q _ w
        | ok pp =>
          obtain ⟨s, ρ2⟩ := pp
          refine fun Q w => we_of (rule (C.fn TO f sl)) (q _ fun vs G1 H1 gr E1 le ar => ?_)
          have z := callR_run (T := T) (f := f) gr E1 le ar ea
          rw [er] at z
          exact z Q _ w
  · rw [if_neg hl]
    trivial
/-! ### methods -/
theorem form_ok {args : List Expr} {env : Env} (hs : args.all notStar = true) (hn : args.length < 30) : methodCallForm (args.length + ([] : List Keyword).length) (backTo pos (starEach args env)) (backToKw pos (keywordEach [] env)) = true := by
  unfold methodCallForm
  have h1 : (backTo pos (starEach args env)).all (fun x => !x.1) = true := by
    have z := plain_args (pos := pos) (env := env) hs
    rw [List.all_eq_true]
    intro x hx
    rw [List.any_eq_false] at z
    simpa using z x hx
  rw [h1]
  simp [backToKw, keywordEach]
  exact hn
theorem meth_form {m : Str} {env : Env} (hu : notSup o = true) (hs : as.all notStar = true) (hn : as.length < 30) (hl : (apos.endLine == pos.line) = true) : eval (.Call (.Attribute o m apos) as [] pos) env = (do
      let ov ← eval o env
      standAt apos.atName
      let (f, first) ← holding [ov] (getMethod ov m (do return (← importBound o env).getD true))
      callWith pos f first (backTo pos (starEach as env)) (backToKw pos (keywordEach [] env))) := by
  have h1 : ∀ ov, calleeOf true o env ov m = getMethod ov m (do return (← importBound o env).getD true) := fun _ => rfl
  have h2 : methodCallPos true o env apos pos = pure pos := by
    unfold methodCallPos
    rw [hl]
    rfl
  rw [arm_eval_Call, base_ok hu]
  unfold methodCall
  rw [form_ok hs hn, h2]
  simp only [h1, pure_bind]
theorem pe_methRS {CX : CXT} {f C : Addr} {m : Str} {sp : Sp} {E : L2.St → XK} {ta : TE} {t : TA} (he : PE X o ta) (c : Cls X.K C) (hm : Meth X.K C m f)
    (F : FnR X.prog X.w X.K X.mg X.base CX k f sp) (hr : Room k X.A) (hx : ∀ σ, PassesAt CX X σ (E σ)) (ha : PA X as t) (hu : notSup o = true) (hs : as.all notStar = true) (hn : as.length < 30) (hl : (apos.endLine == pos.line) = true) :
    PE X (.Call (.Attribute o m apos) as [] pos) (fun σ H Q => ta σ H fun x H1 => ∃ a dx fs, x = .ref a ∧ H1 a = some (.ins C dx fs) ∧ fs.lookup m = none ∧ t σ H1 fun vs H2 => sp (x :: vs) H2 Q (E σ)) := by
  refine ⟨fun pins s σ H Q I h => ?_⟩
  refine PySem.W.methodCall_KW (thn (he.run pins s σ H _ I h) fun u s1 ⟨x, H1, I1, rx, a, dx, fs, ex, ea, l, q⟩ => ?_) (meth_form hu hs hn hl)
  subst ex
  obtain rfl : u = Value.ref a := rx
  refine getmeth_ok I1 ea c hm l ?_
  refine callWith_KA (first := [.ref a]) hm.kp hs (thn (ha.run pos pins s1 σ H1 _ I1 q) fun us s2 ⟨vs, H2, I2, r, q2⟩ => ⟨I2.kIn, ?_⟩)
  exact run_fnRS (us := .ref a :: us) (vs := .ref a :: vs) F hr (hx σ) I2 (.cons rfl r) q2
theorem fvs_look {fs : List Nat} (fI : ∀ i j, cn.fN i = cn.fN j → i = j) (f : Nat) : ∀ {l : List D} {vs : List V}, Reps cn K G l vs → fs.length = l.length → match lookF fs l f with | none => (fvs cn fs vs).lookup (cn.fN f) = none | some d => ∃ v, (fvs cn fs vs).lookup (cn.fN f) = some v ∧ Rep cn K G d v := by
  induction fs with
  | nil =>
    intro l vs r hl
    cases l with
    | nil => exact rfl
    | cons _ _ => cases hl
  | cons i fs ih =>
    intro l vs r hl
    cases l with
    | nil => cases hl
    | cons d l =>
      obtain ⟨v, r', rfl, h1, h2⟩ := r
      have ih := ih h2 (by simpa using hl)
      have e0 : lookF (i :: fs) (d :: l) f = if i = f then some d else lookF fs l f := rfl
      rw [e0]
      by_cases hf : i = f
      · subst hf
        rw [if_pos rfl]
        refine ⟨v, ?_, h1⟩
        show List.lookup _ ((cn.fN i, v) :: _) = _
        rw [List.lookup_cons]
        simp
      · rw [if_neg hf]
        have e1 : (fvs cn (i :: fs) (v :: r')).lookup (cn.fN f) = (fvs cn fs r').lookup (cn.fN f) := by
          show List.lookup _ ((cn.fN i, v) :: fvs cn fs r') = _
          rw [List.lookup_cons]
          have : (cn.fN f == cn.fN i) = false := by
            rw [beq_eq_false_iff_ne]
            exact fun z => hf (fI _ _ z).symm
          rw [this]
        rw [e1]
        exact ih
theorem methF_some {m f : Nat} {x : D} (h : methF T m x = some f) : ∃ c fs vs, x = .obj c fs vs ∧ lookF fs vs m = none ∧ T.meth c m = some f := by
  unfold methF at h
  cases x <;> try cases h
  rename_i c fs vs
  simp only at h
  by_cases hn : (lookF fs vs m).isNone = true
  · rw [if_pos hn] at h
    exact ⟨c, fs, vs, rfl, by simpa using hn, h⟩
  · rw [if_neg hn] at h
    cases h
theorem meth_ok {ms : List (Option Nat)} {m : Nat} {y : Str} (C : Ctx g sc N k W X) (TO : TOk g kk T fa) (hkk : kk ≤ k) (hy : y = g.c.fN m) (ho : EvOk g W X B pn o (evalE T eo)) (h : MArgs g W X B pn T N sc as ms es) (hu : notSup o = true) (hn : as.length < 30) (hl : (apos.endLine == pos.line) = true) :
    EvOk g W X B pn (.Call (.Attribute o y apos) as [] pos) (evalE T (.meth m ms eo es)) := by
  subst hy
  intro ρ σ G H E
  simp only [evalE]
  by_cases hlk : lentK ms ρ = true
  · rw [if_pos hlk]
    have q0 := ho.d ρ σ G H E
    simp only at q0
    have rule0 : PE X (.Call (.Attribute o (g.c.fN m) apos) as [] pos) (fun σ H Q => WE X o σ H fun _ _ => False) := by
      refine ⟨fun pins s σ H Q I h' => PySem.W.methodCall_KW (thn ((pe_w X o).run pins s σ H _ I h') fun u s1 ⟨x, H1, I1, rx, q⟩ => q.elim) (meth_form hu h.star hn hl)⟩
    cases e0 : toD (evalE T eo ρ) with
    | stk => trivial
    | exc t fs ds =>
      rw [e0] at q0
      exact fun w Q => we_of rule0 (q0 w _)
    | ok p =>
      obtain ⟨x, ρ0⟩ := p
      rw [e0] at q0
      simp only [R.bind]
      cases em : methF T m x with
      | none => trivial
      | some f =>
        simp only
        obtain ⟨c, fs, dvs, rfl, hlf, hmt⟩ := methF_some em
        obtain ⟨hM, hC⟩ := TO.meth c m f hmt
        have rule : ∀ {sp : Sp}, FnR X.prog X.w X.K X.mg X.base (L2.CX X.prog X.w) kk (fa f) sp → PE X (.Call (.Attribute o (g.c.fN m) apos) as [] pos) _ := fun {sp} F =>
          pe_methRS (sp := sp) (C := g.c.cA c) (pe_w X o) (by rw [C.hK]; exact hC) (by rw [C.hK]; exact hM) F (C.room.mono hkk) C.pass (pa_w X as) hu h.star hn hl
        have hk0 : ∀ j, some j ∈ ms → ∃ v, σ[j]? = some (some v) := lentK_some E hlk
        -- the receiver
        have recv : ∀ {G0 H0 : Hp} {v : V}, Same G0 H0 → Rep g.c g.K G0 (.obj c fs dvs) v → ∃ a dx fs', v = .ref a ∧ H0 a = some (.ins (g.c.cA c) dx fs') ∧ fs'.lookup (g.c.fN m) = none := fun {G0 H0 v} sm r => by
          obtain ⟨a, dx, vs, rfl, h1, h2, h3⟩ := r
          refine ⟨a, dx, _, rfl, sm _ _ h1, ?_⟩
          have z := fvs_look TO.fI m h2 h3
          rw [hlf] at z
          exact z
        cases e : evalDs T es ρ0 with
        | stk => trivial
        | exc t fs ds =>
          refine fun w Q => we_of (rule noSp) (q0 _ fun v G0 H0 gr E0 le r => ?_)
          obtain ⟨a, dx, fs', rfl, h1, h2⟩ := recv E0.sub r
          refine ⟨a, dx, fs', rfl, h1, h2, ?_⟩
          have q := margs_run C h E0 hk0
          rw [e] at q
          exact q (fun d H' x => w d H' (x.after gr fun a z => .inl (le.ownA z))) _
        | ok p =>
          obtain ⟨ds, ρ1⟩ := p
          simp only [R.bind]
          cases ea : argSl ms ds ρ1 with
          | none => trivial
          | some sl =>
            simp only
            have ea' : argSl (none :: ms) (.obj c fs dvs :: ds) ρ1 = some (.val (.obj c fs dvs) :: sl) := by
              simp only [argSl, ea]
              rfl
            cases er : callR T f (none :: ms) (.val (.obj c fs dvs) :: sl) ρ1 with
            | stk => trivial
            | exc t fs' ds' =>
              refine fun w Q => we_of (rule (C.fn TO f (.val (.obj c fs dvs) :: sl))) (q0 _ fun v G0 H0 gr E0 le r => ?_)
              obtain ⟨a, dx, fs', rfl, h1, h2⟩ := recv E0.sub r
              refine ⟨a, dx, fs', rfl, h1, h2, ?_⟩
              have q := margs_run C h E0 hk0
              rw [e] at q
              refine q _ fun vs G1 H1 gr1 E1 le1 ar => ?_
              have z := callR_run (T := T) (f := f) (gr.trans gr1 fun a z => .inl (le.ownA z)) E1 (le.trans le1) (.dat (r.mono gr1.gg) ar) ea'
              rw [er] at z
              exact z Q _ w
            | ok pp =>
              obtain ⟨s, ρ2⟩ := pp
              refine fun Q w => we_of (rule (C.fn TO f (.val (.obj c fs dvs) :: sl))) (q0 _ fun v G0 H0 gr E0 le r => ?_)
              obtain ⟨a, dx, fs', rfl, h1, h2⟩ := recv E0.sub r
              refine ⟨a, dx, fs', rfl, h1, h2, ?_⟩
              have q := margs_run C h E0 hk0
              rw [e] at q
              refine q _ fun vs G1 H1 gr1 E1 le1 ar => ?_
              have z := callR_run (T := T) (f := f) (gr.trans gr1 fun a z => .inl (le.ownA z)) E1 (le.trans le1) (.dat (r.mono gr1.gg) ar) ea'
              rw [er] at z
              exact z Q _ w
  · rw [if_neg hlk]
    trivial
end
end Mr

/-! Making, attributes, properties, own equality, isinstance. -/
namespace Mr
open PySem L2
section
variable {g : Gs} {W : WX} {X : Cx} {B : Addr → Prop} {pn : List Nat} {a b c node o : Expr} {as : List Expr} {sc : Scope} {N : List Str} {k kk : Nat} {pos p2 apos : Pos} {T : Tb} {ea eb ec eo : E} {es : List E} {cn : Cn} {K : PySem.W.Frag} {G H : Hp} {ρ : Rho} {σ : L2.St} {fa : Nat → Addr}
theorem run_makeR {pins : List (Addr × Obj)} {H : Hp} {s : Shared} {Q : VK} {us : List Value} {vs : List V} {C f : Addr} {CX : CXT} {sp : Sp} {E : XK} (M : Mk X.K C f) (F : FnR X.prog X.w X.K X.mg X.base CX k f sp) (hr : Room (k + 1) X.A)
    (hx : PassesAt CX X σ E) (I : Inv X pins σ H s) (r : Vals vs us)
    (h : ∀ x dx, H x = none → H dx = none → dx ≠ x → sp (.ref x :: vs) (upd (upd H dx (.own x)) x (.ins C dx [])) (fun v H2 => v = .non ∧ Q (.ref x) H2) E) :
    wpAny (model X.prog X.w) X.A (call (.ref C) us) (EP X pins σ Q) X.xe s := by
  have hq := h (s.heap.objs.size + 1) s.heap.objs.size (I.hok.fresh (Nat.le_succ _)) (I.hok.fresh (Nat.le_refl _)) (Nat.ne_of_lt (Nat.lt_succ_self _))
  have I2 := Inv.made (C := C) I
  have r2 : Vals (V.ref (s.heap.objs.size + 1) :: vs) (Value.ref (s.heap.objs.size + 1) :: us) := .cons rfl r
  refine wpAny_call (make_map (f := f) I.kIn M.makes M.init (beq_iff_eq.mp M.fn) (codeAny_mono (F _ X.stack _ _ (Value.ref (s.heap.objs.size + 1) :: us) _ _ E (hr.make C us [])
    (I2.env0.make C us []) r2 hq) fun r s' hq' => ?_))
  cases r with
  | error e => exact hx pins _ _ e s' I2 hq'
  | ok fl =>
    cases fl with
    | ret u =>
      obtain ⟨v, H', I3, rv, ev, q3⟩ := I2.after hq'
      subst ev
      exact ⟨rv, ⟨V.ref (s.heap.objs.size + 1), H', I3, rfl, q3⟩⟩
    | next => exact False.elim hq'
    | brk => exact False.elim hq'
    | cont => exact False.elim hq'
theorem pe_makeR {CX : CXT} {C f : Addr} {sp : Sp} {E : L2.St → XK} {x : Str} {p : Pos} {t : TA} (M : Mk X.K C f) (F : FnR X.prog X.w X.K X.mg X.base CX k f sp) (hr : Room (k + 1) X.A) (hg : Gl X x) (hm : X.mg x = some (.ref C)) (hx : ∀ σ, PassesAt CX X σ (E σ))
    (ha : PA X as t) (hdb : (x == ("__debug__" : Str)) = false) (hs : as.all notStar = true) : PE X (.Call (.Name x p) as [] pos) (fun σ H Q => t σ H fun vs H1 => ∀ x dx, H1 x = none → H1 dx = none → dx ≠ x →
  sp (.ref x :: vs) (upd (upd H1 dx (.own x)) x (.ins C dx [])) (fun v H2 => v = .non ∧ Q (.ref x) H2) (E σ)) := by
  refine ⟨fun pins s σ H Q I h => ?_⟩
  refine wpAny_Call_Name_kw (ld_glob I hg hm ?_ hdb)
  refine callWith_KA M.kp hs (thn (ha.run pos pins s σ H _ I h) fun us s1 ⟨vs, H1, I1, r, q⟩ => ⟨I1.kIn, ?_⟩)
  exact run_makeR M F hr (hx σ) I1 r q
theorem reps_val : ∀ {ds : List D} {vs : List V}, Reps cn K G ds vs → ∀ (i : Nat) d, (ds.map Sl.val)[i]? = some (.val d) → ∃ v, vs[i]? = some v ∧ Rep cn K G d v := fun {ds vs} r i d h => by
  rw [List.getElem?_map] at h
  cases e : ds[i]? with
  | none => rw [e] at h; cases h
  | some d' =>
    rw [e] at h
    cases h
    exact r.get e
theorem vals_own {ds : List D} {i : Nat} {d : D} (h : (ds.map Sl.val)[i]? = some (.own d)) : False := by
  rw [List.getElem?_map] at h
  cases e : ds[i]? <;> rw [e] at h <;> cases h
theorem make_run {ds : List D} {vs : List V} {ρ1 : Rho} {G1 H1 : Hp} {f c : Nat} {x dx : Addr} (gr : Grow (ownA ρ σ) G H G1 H1) (E1 : EnvR g.c g.K B pn G1 H1 ρ1 σ) (le : OwnLe ρ1 ρ) (r : Reps g.c g.K G1 ds vs) (nx : H1 x = none) (nd : H1 dx = none) (ne : dx ≠ x) (hi : T.init c = some f) :
    match makeR T c ds ρ1 with
    | .stk => True
    | .ok (s, ρ') => ∀ (Q : VK) (E : XK), (∀ v G' H', Grow (ownA ρ σ) G H G' H' → EnvR g.c g.K B pn G' H' ρ' σ → OwnLe ρ' ρ → ResR g.c g.K H G' H' s v → Q v H') → spOf g (.own (.obj c [] []) :: ds.map .val) (T.call f (.own (.obj c [] []) :: ds.map .val)) (.ref x :: vs) (upd (upd H1 dx (.own x)) x (.ins (g.c.cA c) dx [])) (fun v H2 => v = .non ∧ Q (.ref x) H2) E
    | .exc t fs ds' => ∀ (Q : VK) (E : XK), (∀ d H', ExcR g (ownA ρ σ) G H t fs ds' d H' → E (.ref (g.c.cA t)) d H') → spOf g (.own (.obj c [] []) :: ds.map .val) (T.call f (.own (.obj c [] []) :: ds.map .val)) (.ref x :: vs) (upd (upd H1 dx (.own x)) x (.ins (g.c.cA c) dx [])) (fun v H2 => v = .non ∧ Q (.ref x) H2) E := by
  have s1 : Same G1 (upd H1 dx (.own x)) := (Grow.newH (own := fun _ => False) E1.sub nd).gh
  have nx' : upd H1 dx (.own x) x = none := by rw [upd_ne ne.symm]; exact nx
  have gn : Grow (fun _ => False) G1 H1 G1 (upd (upd H1 dx (.own x)) x (.ins (g.c.cA c) dx [])) := (Grow.newH E1.sub nd).trans (Grow.newH (own := fun _ => False) s1 nx') fun _ z => z.elim
  have Ec : EnvR g.c g.K (Here (upd (upd H1 dx (.own x)) x (.ins (g.c.cA c) dx []))) (pinsOf 0 (.own (.obj c [] []) :: ds.map .val)) G1 (upd (upd H1 dx (.own x)) x (.ins (g.c.cA c) dx [])) (.own (.obj c [] []) :: ds.map .val) ((V.ref x :: vs).map some) := by
    refine ⟨gn.gh, by simp [r.length], fun i d h => ?_, fun i d h => ?_, fun i j d e b h1 h2 _ _ => ?_⟩
    · cases i with
      | zero => cases h
      | succ i =>
        obtain ⟨v, q1, q2⟩ := reps_val r i d (by simpa using h)
        exact ⟨v, map_some_get.mpr (by simpa using q1), q2⟩
    · cases i with
      | zero =>
        cases h
        exact ⟨x, rfl, ⟨Same.free E1.sub nx, dx, [], upd_same, rfl, rfl⟩, .inl (by simp [pinsOf])⟩
      | succ i => exact (vals_own (ds := ds) (i := i) (d := d) (by simpa using h)).elim
    · cases i with
      | succ i => exact (vals_own (ds := ds) (i := i) (d := d) (by simpa using h1)).elim
      | zero =>
        cases j with
        | zero => rfl
        | succ j => exact (vals_own (ds := ds) (i := j) (d := e) (by simpa using h2)).elim
  have oc : ∀ {b : Addr}, ownA (.own (.obj c [] []) :: ds.map .val) ((V.ref x :: vs).map some) b → b = x := fun {b} => by
    rintro ⟨i, d, h1, h2⟩
    cases i with
    | zero => cases h2; rfl
    | succ i => exact (vals_own (ds := ds) (i := i) (d := d) (by simpa using h1)).elim
  unfold makeR
  rw [hi]
  simp only
  cases e : T.call f (.own (.obj c [] []) :: ds.map .val) with
  | stk => trivial
  | exc t fs ds' =>
    refine fun Q E kk => ⟨G1, Ec, fun d H' xx => kk d H' ((xx.after (gn.mono (own' := fun b => b = x) fun _ z => z.elim) fun b z => .inl (oc z)).after gr fun b z => .inr (by rw [z]; exact gr.free nx))⟩
  | ok p =>
    obtain ⟨z, os⟩ := p
    simp only [R.bind]
    cases z with
    | no => trivial
    | own _ => trivial
    | val z =>
      cases z <;> try trivial
      cases os with
      | nil => trivial
      | cons s os =>
        have fin : ∀ (s : Sl), s ≠ .no → ∀ (Q : VK) (E : XK), (∀ v G' H', Grow (ownA ρ σ) G H G' H' → EnvR g.c g.K B pn G' H' ρ1 σ → OwnLe ρ1 ρ → ResR g.c g.K H G' H' s v → Q v H') → spOf g (.own (.obj c [] []) :: ds.map .val) (.ok (.val .non, s :: os)) (.ref x :: vs) (upd (upd H1 dx (.own x)) x (.ins (g.c.cA c) dx [])) (fun v H2 => v = .non ∧ Q (.ref x) H2) E := by
          intro s hs Q E kk
          refine ⟨G1, Ec, fun v G' H' g2 bk rv => ⟨rv, ?_⟩⟩
          have g3 : Grow (fun b => b = x) G1 H1 G' H' := (gn.mono fun _ z => z.elim).trans g2 fun b z => .inl (oc z)
          have E3 : EnvR g.c g.K B pn G' H' ρ1 σ := E1.grow g3 fun b z e => by
            obtain ⟨u, q⟩ := own_there E1 z
            rw [e, nx] at q; cases q
          refine kk _ G' H' (gr.trans g3 fun b z => .inr (by rw [z]; exact gr.free nx)) E3 le ?_
          obtain ⟨a', s', t1, t2, t3⟩ := bk.2 0 _ rfl
          cases t1
          cases t2
          cases s with
          | no => exact absurd rfl hs
          | val e => exact t3
          | own e => exact ⟨x, rfl, t3, gr.free nx⟩
        cases s with
        | no => trivial
        | val d => exact fin (.val d) (fun z => by cases z)
        | own d => exact fin (.own d) (fun z => by cases z)
theorem make_ok {x : Str} {p : Pos} {c f : Nat} (C : Ctx g sc N k W X) (TO : TOk g kk T fa) (hkk : kk + 1 ≤ k) (hi : T.init c = some f) (hg : Gl X x) (hm : g.mg x = some (.ref (g.c.cA c))) (hdb : (x == ("__debug__" : Str)) = false) (hs : as.all notStar = true) (ha : EaOk g W X B pn as (evalDs T es)) :
    EvOk g W X B pn (.Call (.Name x p) as [] pos) (evalE T (.make c es)) := by
  intro ρ σ G H E
  simp only [evalE]
  have q := ha ρ σ G H E
  have M : Mk X.K (g.c.cA c) (fa f) := by rw [C.hK]; exact TO.init c f hi
  have rule : ∀ {sp : Sp}, FnR X.prog X.w X.K X.mg X.base (L2.CX X.prog X.w) kk (fa f) sp → PE X (.Call (.Name x p) as [] pos) _ := fun {sp} F =>
    pe_makeR (sp := sp) M F (C.room.mono hkk) hg (by rw [C.hm]; exact hm) C.pass (pa_w X as) hdb hs
  cases e : evalDs T es ρ with
  | stk => trivial
  | exc t fs ds =>
    rw [e] at q
    exact fun w Q => we_of (rule noSp) (q w _)
  | ok p =>
    obtain ⟨ds, ρ1⟩ := p
    rw [e] at q
    simp only [R.bind]
    cases er : makeR T c ds ρ1 with
    | stk => trivial
    | exc t fs ds' =>
      refine fun w Q => we_of (rule (C.fn TO f (.own (.obj c [] []) :: ds.map .val))) (q _ fun vs G1 H1 gr E1 le r x dx nx nd ne => ?_)
      have z := make_run (T := T) gr E1 le r nx nd ne hi
      rw [er] at z
      exact z Q _ w
    | ok pp =>
      obtain ⟨s, ρ2⟩ := pp
      refine fun Q w => we_of (rule (C.fn TO f (.own (.obj c [] []) :: ds.map .val))) (q _ fun vs G1 H1 gr E1 le r x dx nx nd ne => ?_)
      have z := make_run (T := T) gr E1 le r nx nd ne hi
      rw [er] at z
      exact z Q _ w
/-! ### attributes -/
theorem getprop_R {pins : List (Addr × Obj)} {H : Hp} {s : Shared} {Q : VK} {b : Bool} {E' : Value → Shared → Prop} {a C dx p gq : Addr} {fs : List (Str × V)} {f : Str} {sp : Sp} (I : Inv X pins σ H s) (ea : H a = some (.ins C dx fs)) (c : Cls X.K C) (hp : PropOf X.K C f p gq)
    (F : FnR X.prog X.w X.K X.mg X.base (L2.CX X.prog X.w) k gq sp) (hr : Room (k + 1) X.A) (h : sp [.ref a] H Q E0) :
    wpAny (model X.prog X.w) X.A (getAttr (.ref a) f b) (EP X pins σ Q) E' s := by
  obtain ⟨mA, O, _, _, _, _⟩ := ins_get I.hok ea
  obtain ⟨od, J, _⟩ := O.look
  obtain ⟨rest, hrec⟩ := hp.rec_
  have I1 := I.tok (s.toks + 1)
  have hc : (PySem.W.clsIn X.K C).isSome = true := by
    obtain ⟨cd, hc, _⟩ := PySem.W.any_some c.hd
    rw [hc]
    rfl
  refine PySem.W.get_bind I.kIn J (PySem.W.plainGet_of (c.get f)).1 (PySem.W.findObj_data hc hp.at_ hp.get hp.tak) (PySem.W.plainGet_of (c.get f)).2 (wpAny_call (PySem.W.prop_get (s := { s with toks := s.toks + 1 }) I.kIn hrec ?_))
  refine codeAny_mono (F X.A.in1 X.stack { s with toks := s.toks + 1 } H [.ref a] [.ref a] Q E0 hr.in1 I1.env0.in1 (.cons rfl .nil) h) fun r s' hq => ?_
  cases r with
  | error er =>
    obtain ⟨_, _, _, _, _, _, _, _, _, _, _, _, z⟩ := hq
    exact z.elim
  | ok fl =>
    cases fl with
    | ret u =>
      obtain ⟨v, H', I3, rv, q3⟩ := I1.after hq
      show wpAny _ _ (handedOut u) _ _ _
      rw [PySem.W.handedOut_of (handed_of rv)]
      exact wpAny_pure ⟨v, H', I3, rv, q3⟩
    | next => exact False.elim hq
    | brk => exact False.elim hq
    | cont => exact False.elim hq
theorem pe_propR {C p gq : Addr} {f : Str} {sp : Sp} {ta : TE} (he : PE X a ta) (c : Cls X.K C) (hp : PropOf X.K C f p gq) (F : FnR X.prog X.w X.K X.mg X.base (L2.CX X.prog X.w) k gq sp) (hr : Room (k + 1) X.A)
    (hab : attributeBase a f X.env (eval a X.env) = eval a X.env) : PE X (.Attribute a f pos) (fun σ H Q => ta σ H fun x H1 => ∃ b dx fs, x = .ref b ∧ H1 b = some (.ins C dx fs) ∧ sp [.ref b] H1 Q E0) := by
  refine ⟨fun pins s σ H Q I h => ?_⟩
  refine attr_of hab (thn (he.run pins s σ H _ I h) fun u s1 ⟨x, H1, I1, rx, a, dx, fs, ex, ea, q⟩ => ?_)
  subst ex
  obtain rfl : u = Value.ref a := rx
  exact getprop_R I1 ea c hp F hr q
/-- no thing of ours is handed over -/
theorem plain_env {ds : List D} {vs : List V} (sm : Same G H) (r : Reps cn K G ds vs) : EnvR cn K (Here H) (pinsOf 0 (ds.map .val)) G H (ds.map .val) (vs.map some) ∧ ∀ a, ¬ ownA (ds.map .val) (vs.map some) a := by
  refine ⟨⟨sm, by simp [r.length], fun i d h => ?_, fun i d h => (vals_own h).elim, fun i j d e a h => (vals_own h).elim⟩, fun a => ?_⟩
  · obtain ⟨v, q1, q2⟩ := reps_val r i d h
    exact ⟨v, map_some_get.mpr q1, q2⟩
  · rintro ⟨i, d, h, _⟩
    exact vals_own h
theorem attr_rule {f : Nat} {dx : D} (C : Ctx g sc N k W X) (TO : TOk g kk T fa) (hkk : kk + 1 ≤ k) (hu : notSup a = true) (h : attrS T f dx ≠ .no) : ∃ r : V → Hp → VK → Prop, (∀ {ta : TE}, PE X a ta → PE X (.Attribute a (g.c.fN f) pos) fun σ H Q => ta σ H fun x H1 => r x H1 Q) ∧
    ∀ G H x Q, Same G H → Rep g.c g.K G dx x → Cont g G H (attrS T f dx) Q → r x H Q := by
  cases dx <;> try exact absurd rfl h
  rename_i c fs vs
  unfold attrS at h ⊢
  simp only at h ⊢
  cases el : lookF fs vs f with
  | some d =>
    rw [el] at h
    simp only at h ⊢
    by_cases hf : T.fld c f = true
    · rw [if_pos hf]
      obtain ⟨na, cl⟩ := TO.fld c f hf
      refine ⟨_, fun p => pe_fld p (base_ok hu), fun G H x Q sm r kk => ?_⟩
      obtain ⟨p, dx, ws, rfl, h1, h2, h3⟩ := r
      have z := fvs_look TO.fI f h2 h3
      rw [el] at z
      obtain ⟨v, z1, z2⟩ := z
      exact ⟨p, _, dx, _, v, rfl, sm _ _ h1, by rw [C.hK]; exact cl, by rw [C.hK]; exact na, z1, kk v G H (.refl sm) z2⟩
    · rw [if_neg hf] at h
      exact absurd rfl h
  | none =>
    rw [el] at h
    simp only at h ⊢
    cases ep : T.prop c f with
    | none => rw [ep] at h; exact absurd rfl h
    | some q =>
      rw [ep] at h
      simp only at h ⊢
      obtain ⟨⟨p, hp⟩, cl⟩ := TO.prop c f q ep
      refine ⟨_, fun pp => pe_propR (C := g.c.cA c) pp (by rw [C.hK]; exact cl) (by rw [C.hK]; exact hp) (C.fn TO q [.val (.obj c fs vs)]) (C.room.mono hkk) (base_ok hu), fun G H x Q sm r kk => ?_⟩
      obtain ⟨p, dx, ws, rfl, h1, h2, h3⟩ := id r
      refine ⟨p, dx, _, rfl, sm _ _ h1, ?_⟩
      obtain ⟨Ec, no⟩ := plain_env sm (Reps.one r)
      refine ⟨G, Ec, ?_⟩
      cases e : T.call q [.val (.obj c fs vs)] with
      | stk => rw [e] at h; exact absurd rfl h
      | exc _ _ _ => rw [e] at h; exact absurd rfl h
      | ok y =>
        obtain ⟨s, os⟩ := y
        rw [e] at kk
        exact fun v G' H' gr bk rv => kk v G' H' (gr.mono fun a z => no a z) rv
theorem attr_ok {f : Nat} {y : Str} (C : Ctx g sc N k W X) (TO : TOk g kk T fa) (hkk : kk + 1 ≤ k) (hy : y = g.c.fN f) (hu : notSup a = true) (ha : EvOk g W X B pn a (evalE T ea)) : EvOk g W X B pn (.Attribute a y pos) (evalE T (.attr f ea)) := by
  subst hy
  refine (EvOk.one (node := .Attribute a (g.c.fN f) pos) ha.d (attrS T f) (r0 := fun _ _ _ => False) (fun σ H Q h => ?_) fun dx hk => ?_).to fun ρ => ?_
  · exact we_of (⟨fun pins s σ H Q I h' => attr_of (base_ok hu) (thn ((pe_w X a).run pins s σ H _ I h') fun u s1 ⟨x, H1, I1, rx, q⟩ => q.elim)⟩ : PE X (.Attribute a (g.c.fN f) pos) fun σ H Q => WE X a σ H fun _ _ => False) h
  · obtain ⟨r, h1, h2⟩ := attr_rule (pos := pos) C TO hkk hu hk
    exact ⟨r, fun σ H Q h => we_of (h1 (pe_w X a)) h, h2⟩
  · simp only [evalE]
theorem attrV_ok {i f : Nat} {x y : Str} {p : Pos} (C : Ctx g sc N k W X) (TO : TOk g kk T fa) (hkk : kk + 1 ≤ k) (hy : y = g.c.fN f) (hN : N[i]? = some x) (hv : Vis sc x) (hd : (x == ("__debug__" : Str)) = false) (hcd : (x == ("__classdict__" : Str)) = false) :
    EvOk g W X B pn (.Attribute (.Name x p) y pos) (evalE T (.attrV f i)) := by
  subst hy
  intro ρ σ G H E
  have hvar : PE X (.Name x p) (tVar i) := pe_var (by rw [C.hN]; exact hN) (by rw [C.hs]; exact hv) hd hcd
  simp only [evalE]
  cases e : ρ[i]? with
  | none => trivial
  | some s =>
    cases s with
    | no => trivial
    | val d =>
      simp only
      obtain ⟨v, h1, h2⟩ := E.val i d e
      by_cases hk : attrS T f d = .no
      · rw [hk]; trivial
      · rw [slR_ne ρ hk]
        obtain ⟨r, q1, q2⟩ := attr_rule (a := .Name x p) (pos := pos) C TO hkk rfl hk
        refine fun Q kk => we_of (q1 hvar) ⟨v, h1, q2 G H v Q E.sub h2 (fin_op (.refl E.sub) E (.refl ρ) kk)⟩
    | own d =>
      obtain ⟨ad, h1, o, _⟩ := E.own i d e
      cases d <;> try trivial
      rename_i c fs vs
      simp only
      by_cases hf : T.fld c f = true
      · rw [if_pos hf]
        obtain ⟨na, cl⟩ := TO.fld c f hf
        cases el : lookF fs vs f with
        | none => trivial
        | some d =>
          obtain ⟨_, dx, ws, h3, h4, h5⟩ := o
          have z := fvs_look TO.fI f h4 h5
          rw [el] at z
          obtain ⟨v, z1, z2⟩ := z
          exact fun Q kk => we_of (pe_fld hvar (base_ok rfl)) ⟨.ref ad, h1, ad, _, dx, _, v, rfl, h3, by rw [C.hK]; exact cl, by rw [C.hK]; exact na, z1, kk v G H (.refl E.sub) E (.refl ρ) z2⟩
      · rw [if_neg hf]
        trivial
/-! ### own equality -/
/-- a comparison whose rule may lay new things -/
def CmpOk2 (g : Gs) (X : Cx) (node a b : Expr) (k : D → D → Sl) : Prop := (∃ r0, TrC X node a b r0) ∧ ∀ dx dy, k dx dy ≠ .no → ∃ (r : R2) (t : Bool), k dx dy = .val (.bl t) ∧ TrC X node a b r ∧ ∀ G H x y Q, Same G H → Rep g.c g.K G dx x → Rep g.c g.K G dy y → Cont g G H (.val (.bl t)) Q → r x y H Q
theorem CmpOk2.ev {k : D → D → Sl} (h : CmpOk2 g X node a b k) {f1 f2 : Rho → R (D × Rho)} (ha : EdOk g W X B pn a f1) (hb : EdOk g W X B pn b f2) : EvOk g W X B pn node fun ρ => (Mr.two f1 f2 ρ).bind fun (p, ρ1) => slR (k p.1 p.2) ρ1 := by
  obtain ⟨⟨r0, h0⟩, h⟩ := h
  refine EvOk.two ha hb k h0.v fun dx dy hk => ?_
  obtain ⟨r, t, e, tr, q⟩ := h dx dy hk
  refine ⟨r, tr.v, fun G H x y Q e' rx ry kk => q G H x y Q e' rx ry ?_⟩
  rw [e] at kk
  exact kk
theorem CmpOk2.et {k : D → D → Sl} (h : CmpOk2 g X node a b k) {f1 f2 : Rho → R (D × Rho)} (ha : EdOk g W X B pn a f1) (hb : EdOk g W X B pn b f2) : EtOk g W X B pn node fun ρ => toT ((Mr.two f1 f2 ρ).bind fun (p, ρ1) => slR (k p.1 p.2) ρ1) := by
  obtain ⟨⟨r0, h0⟩, h⟩ := h
  intro ρ σ G H E
  have q := two_run ha hb E
  show match toT ((Mr.two f1 f2 ρ).bind fun (p, ρ1) => slR (k p.1 p.2) ρ1) with | .stk => True | .ok (s, ρ') => _ | .exc t fs ds => _
  cases e : Mr.two f1 f2 ρ with
  | stk => trivial
  | exc t fs ds =>
    rw [e] at q
    exact fun w Q => h0.t σ H Q (q w _)
  | ok p =>
    obtain ⟨⟨dx, dy⟩, ρ1⟩ := p
    rw [e] at q
    show match toT (slR (k dx dy) ρ1) with | .stk => True | .ok (s, ρ') => _ | .exc t fs ds => _
    by_cases hk : k dx dy = .no
    · rw [hk]
      trivial
    · obtain ⟨r, t, e2, tr, h2⟩ := h dx dy hk
      rw [e2]
      intro Q kk
      refine tr.t σ H Q (q _ fun x y G1 H1 gr E1 le rx ry => h2 G1 H1 x y _ E1.sub rx ry fun v G2 H2 g2 rv => ?_)
      cases rv
      exact ⟨t, rfl, kk G2 H2 (gr.trans g2 fun _ z => z.elim) (E1.grow g2 fun _ _ z => z) le⟩
theorem CmpOk.two {k : D → D → Sl} (h : CmpOk g X node a b k) : CmpOk2 g X node a b k := by
  obtain ⟨h0, h⟩ := h
  refine ⟨h0, fun dx dy hk => ?_⟩
  obtain ⟨r, t, e, tr, q⟩ := h dx dy hk
  exact ⟨r, t, e, tr, fun G H x y Q sm rx ry kk => q G H x y Q sm rx ry (kk _ G H (.refl sm) rfl)⟩
/-- what == of two objects of one class with an own __eq__ asks -/
def rOwnEq (C : Addr) (sp : Sp) : R2 := fun x y H Q => ∃ a b dx dy fs gs, x = .ref a ∧ y = .ref b ∧ H a = some (.ins C dx fs) ∧ H b = some (.ins C dy gs) ∧ sp [.ref a, .ref b] H (fun v H' => ∃ t, v = .bl t ∧ Q (.bl t) H') E0
theorem op_ownEq {C f : Addr} {sp : Sp} (F : FnR X.prog X.w X.K X.mg X.base (L2.CX X.prog X.w) k f sp) (hr : Room k X.A) (hs : PySem.W.findIn X.K (.ref C) "__eq__" = some (some (.ref f))) (hf : PySem.W.isFn X.K (.ref f) = true) : OpR X (compareOp .Eq) (rOwnEq C sp) := by
  intro pins s σ H x y u v Q I rx ry h
  obtain ⟨p, q, dx, dy, fs, gs, rfl, rfl, ha, hb, hsp⟩ := h
  cases rx
  cases ry
  show wpAny (model X.prog X.w) X.A (richCompare .Eq _ _) (EP X pins σ Q) X.xe s
  obtain ⟨mA, J, _⟩ := ins_get I.hok ha
  obtain ⟨mB, J', _⟩ := ins_get I.hok hb
  obtain ⟨od, J, _⟩ := J.look
  obtain ⟨od', J', _⟩ := J'.look
  obtain ⟨m, hF⟩ := I.fr
  refine PySem.W.cmp_K (op := .Eq) (tb := .ref C) hr.units0 hF I.ok.mod.kin J J'.type (by simp [PySem.W.notFirst]) hs hf ?_
  refine wpAny_call (codeAny_mono (F X.A X.stack s H [.ref p, .ref q] [.ref p, .ref q] _ E0 hr I.env0 (.cons rfl (.cons rfl .nil)) hsp) fun r s' hq => ?_)
  cases r with
  | error er =>
    obtain ⟨_, _, _, _, _, _, _, _, _, _, _, _, z⟩ := hq
    exact z.elim
  | ok fl =>
    cases fl with
    | ret w =>
      obtain ⟨z, H', I', rz, t, ez, ex⟩ := I.after hq
      subst ez
      cases rz
      exact ⟨.bl t, H', I', rfl, ex⟩
    | next => exact False.elim hq
    | brk => exact False.elim hq
    | cont => exact False.elim hq
theorem eqS_ne {ne : Bool} {x y : D} (h : ∀ c fs vs, x ≠ .obj c fs vs) : eqS T ne x y = pr (if ne then .ne else .eq) [x, y] := by
  cases x <;> first | rfl | exact absurd rfl (h _ _ _)
theorem eq_ok (C : Ctx g sc N k W X) (TO : TOk g kk T fa) (hkk : kk ≤ k) (hm : notSet b = true) : CmpOk2 g X (.Compare a [.Eq] [b] pos) a b (eqS T false) := by
  have base : CmpOk2 g X (.Compare a [.Eq] [b] pos) a b fun x y => pr .eq [x, y] := (cmp_ok hm (by have z := op_eqD C.u64; rw [C.hK] at z; exact z) p2_eq).two
  refine ⟨base.1, fun dx dy hk => ?_⟩
  by_cases ho : ∃ c fs vs, dx = .obj c fs vs
  · obtain ⟨c, fs, vs, rfl⟩ := ho
    cases dy <;> try exact absurd rfl hk
    rename_i c' fs' vs'
    unfold eqS at hk ⊢
    simp only at hk ⊢
    by_cases hc : c' = c ∧ True
    · rw [if_pos hc] at hk ⊢
      obtain ⟨rfl, _⟩ := hc
      cases eq : T.eqm c' with
      | none => rw [eq] at hk; exact absurd rfl hk
      | some f =>
        rw [eq] at hk
        simp only at hk ⊢
        cases ec : T.call f [.val (.obj c' fs vs), .val (.obj c' fs' vs')] with
        | stk => rw [ec] at hk; exact absurd rfl hk
        | exc _ _ _ => rw [ec] at hk; exact absurd rfl hk
        | ok y =>
          obtain ⟨s, os⟩ := y
          rw [ec] at hk
          cases s with
          | no => exact absurd rfl hk
          | own _ => exact absurd rfl hk
          | val d =>
            cases d <;> try exact absurd rfl hk
            rename_i t
            obtain ⟨hs, hf⟩ := TO.eqm c' f eq
            refine ⟨_, t, rfl, trC_op hm (op_ownEq (C := g.c.cA c') (C.fn TO f [.val (.obj c' fs vs), .val (.obj c' fs' vs')]) (C.room.mono hkk) (by rw [C.hK]; exact hs) (by rw [C.hK]; exact hf)), fun G H x y Q sm rx ry kk => ?_⟩
            obtain ⟨p, dx, ws, rfl, h1, _⟩ := id rx
            obtain ⟨q, dy, us, rfl, h2, _⟩ := id ry
            refine ⟨p, q, dx, dy, _, _, rfl, rfl, sm _ _ h1, sm _ _ h2, ?_⟩
            obtain ⟨Ec, no⟩ := plain_env sm (Reps.cons rx (Reps.one ry))
            refine ⟨G, Ec, ?_⟩
            rw [ec]
            intro v G' H' gr bk rv
            exact ⟨t, rv, kk _ G' H' (gr.mono fun a z => no a z) rfl⟩
    · rw [if_neg hc] at hk
      exact absurd rfl hk
  · have e := eqS_ne (T := T) (ne := false) (y := dy) fun c fs vs z => ho ⟨c, fs, vs, z⟩
    rw [e] at hk ⊢
    exact base.2 dx dy hk
theorem ne_ok (C : Ctx g sc N k W X) (hm : notSet b = true) : CmpOk2 g X (.Compare a [.NotEq] [b] pos) a b (eqS T true) := by
  have base : CmpOk2 g X (.Compare a [.NotEq] [b] pos) a b fun x y => pr .ne [x, y] := (cmp_ok hm (by have z := op_neD C.u64; rw [C.hK] at z; exact z) p2_ne).two
  refine ⟨base.1, fun dx dy hk => ?_⟩
  by_cases ho : ∃ c fs vs, dx = .obj c fs vs
  · obtain ⟨c, fs, vs, rfl⟩ := ho
    cases dy <;> try exact absurd rfl hk
    rename_i c' fs' vs'
    exact absurd (by unfold eqS; simp) hk
  · have e := eqS_ne (T := T) (ne := true) (y := dy) fun c fs vs z => ho ⟨c, fs, vs, z⟩
    rw [e] at hk ⊢
    exact base.2 dx dy hk
/-! ### isinstance -/
theorem isi_ok {c : Nat} {x : Str} {p1 p3 : Pos} (C : Ctx g sc N k W X) (TO : TOk g kk T fa) (hg : Gl X "isinstance") (hmi : X.mg "isinstance" = none) (hgx : Gl X x) (hm : g.mg x = some (.ref (g.c.cA c))) (hdb : (x == ("__debug__" : Str)) = false) (hs : notStar a = true) (ha : EvOk g W X B pn a (evalE T ea)) :
    EvOk g W X B pn (.Call (.Name "isinstance" p1) [a, .Name x p3] [] pos) (evalE T (.isi c ea)) := by
  have hx : PE X (.Name x p3) (tC (.ref (g.c.cA c))) := pe_glob hgx (by rw [C.hm]; exact hm) rfl hdb
  have tr : ∀ {r}, CallR X (.builtin "isinstance") r → ∀ σ H Q, WE X a σ H (fun v H1 => r [v, .ref (g.c.cA c)] H1 Q) → WE X (.Call (.Name "isinstance" p1) [a, .Name x p3] [] pos) σ H Q := fun hc σ H Q h =>
    we_of (pe_callB hc hg hmi (by decide +kernel) (pa_cons (pe_w X a) (pa_cons hx pa_nil (star_ok rfl)) (star_ok hs)) (by decide) (by decide) (star_ok hs) (plain_args rfl)) h
  refine (EvOk.one ha.d (isiS T c) (r0 := fun _ _ _ => False) (tr (r := fun _ _ _ => False) fun _ _ _ _ _ _ _ _ _ h => h.elim) fun dx hk => ?_).to fun ρ => by simp only [evalE]
  refine ⟨_, tr call_isi, fun G H v Q sm r kk => ?_⟩
  cases dx <;> try exact absurd rfl hk
  rename_i c' fs vs
  unfold isiS at hk kk
  simp only at hk kk
  by_cases hc : c' = c ∧ (T.init c).isSome = true
  · rw [if_pos hc] at kk
    obtain ⟨rfl, hi⟩ := hc
    obtain ⟨f, hi⟩ := Option.isSome_iff_exists.mp hi
    obtain ⟨cl, t1, t2, t3, t4⟩ := TO.ty c' f hi
    obtain ⟨p, dx, ws, rfl, h1, _⟩ := r
    refine ⟨.ref p, .ref (g.c.cA c'), .ref (g.c.cA c'), .ref (g.c.cA c'), true, rfl, .own _, .base (.ins (sm _ _ h1) (by rw [C.hK]; exact cl) (by rw [C.hK]; exact t1) (by rw [C.hK]; exact t2) (by rw [C.hK]; exact t3) (by rw [C.hK]; exact t4)), ?_, kk _ G H (.refl sm) rfl⟩
    unfold PySem.W.kitOne
    rw [if_pos (by simp)]
  · rw [if_neg hc] at hk
    exact absurd rfl hk
end
end Mr

/-! Targets and what is walked. -/
namespace Mr
open PySem L2
def WG (X : Cx) (tg : Expr) : TG := fun v σ H Q => ∀ (pins : List (Addr × Obj)) (s : Shared) (u : Value), Inv X pins σ H s → RelV v u → wpAny (model X.prog X.w) X.A (assign tg X.env u) (fun _ s' => ∃ σ' H', Inv X pins σ' H' s' ∧ Q σ' H') X.xe s
def WI (X : Cx) (tg iter : Expr) : TI := fun σ H R => ∀ (pins : List (Addr × Obj)) (s : Shared), Inv X pins σ H s → wpAny (model X.prog X.w) X.A (eval iter X.env) (fun v s1 => wpAny (model X.prog X.w) X.A (pyIter v) (PIE X pins σ tg R) X.xe s1) X.xe s
/-- the names that may be stored -/
def StOk (X : Cx) (stn : Str → Bool) : Prop := ∀ x, stn x = true → Loc X.env.scope x ∧ (X.fn x = true ∨ X.env.scope.names.lookup x = some .local)
def namesOk (N : List Str) (stn : Str → Bool) : List Expr → List Nat → Bool
  | [], [] => true
  | .Name x _ :: es, i :: is => decide (N[i]? = some x) && stn x && namesOk N stn es is
  | _, _ => false
def tgOk (N : List Str) (stn : Str → Bool) : Expr → Tg → Bool
  | .Name x _, .one i => decide (N[i]? = some x) && stn x
  | .Tuple es _ _, .tup is => namesOk N stn es is && decide (is.length ≤ 1000)
  | _, _ => false
def Tg.slots : Tg → List Nat
  | .one i => [i]
  | .tup is => is
section
variable {g : Gs} {W : WX} {X : Cx} {B : Addr → Prop} {pn : List Nat} {a b c node o tg iter : Expr} {as : List Expr} {sc : Scope} {N : List Str} {k kk : Nat} {pos p2 apos : Pos} {T : Tb} {ea eb ec eo : E} {es : List E} {cn : Cn} {K : PySem.W.Frag} {G H : Hp} {ρ : Rho} {σ : L2.St} {fa : Nat → Addr} {stn : Str → Bool}
theorem pg_w : PG X tg (WG X tg) := ⟨fun pins s _ _ _ u _ I r h => h pins s u I r⟩
theorem wg_of {t : TG} {v : V} {Q : L2.St → Hp → Prop} (p : PG X tg t) (h : t v σ H Q) : WG X tg v σ H Q := fun pins s u I r => p.run pins s σ H v u Q I r h
theorem pi_wi : PI X tg iter (WI X tg iter) := ⟨fun pins s _ _ _ I h => h pins s I⟩
theorem wi_of {t : TI} {R : It → Hp → Prop} (p : PI X tg iter t) (h : t σ H R) : WI X tg iter σ H R := fun pins s I => p.run pins s σ H R I h
theorem EnvR.setV {i : Nat} {d : D} {v : V} (E : EnvR cn K B pn G H ρ σ) (r : Rep cn K G d v) : EnvR cn K B pn G H (ρ.set i (.val d)) (σ.set i (some v)) := by
  have back : ∀ {j : Nat} {e : D}, (ρ.set i (.val d))[j]? = some (Sl.own e) → ρ[j]? = some (Sl.own e) ∧ (σ.set i (some v))[j]? = σ[j]? := fun {j e} h => by
    obtain ⟨h1, h2⟩ := set_own h
    exact ⟨h1, List.getElem?_set_ne fun z => h2 z.symm⟩
  refine ⟨E.sub, by rw [List.length_set, List.length_set]; exact E.len, fun j e h => ?_, fun j e h => ?_, fun j l e f b h1 h2 s1 s2 => ?_⟩
  · by_cases hj : i = j
    · subst hj
      by_cases hl : i < ρ.length
      · rw [List.getElem?_set_self hl] at h
        cases h
        rw [List.getElem?_set_self (by rw [← E.len]; exact hl)]
        exact ⟨v, rfl, r⟩
      · rw [List.getElem?_eq_none (by simpa using hl)] at h
        cases h
    · rw [List.getElem?_set_ne hj] at h ⊢
      exact E.val j e h
  · obtain ⟨h1, h2⟩ := back h
    rw [h2]
    exact E.own j e h1
  · obtain ⟨q1, q2⟩ := back h1
    obtain ⟨q3, q4⟩ := back h2
    rw [q2] at s1
    rw [q4] at s2
    exact E.inj j l e f b q1 q3 s1 s2
theorem names_bind (C : Ctx g sc N k W X) (so : StOk X stn) : ∀ {es : List Expr} {is : List Nat}, namesOk N stn es is = true → (assignEach es X.env).length = is.length ∧ (assignEach es X.env).findIdx? (·.1) = none ∧ ∃ t, PGs X es t ∧
    ∀ {ds : List D} {vs : List V} {ρ ρ' : Rho} {σ : L2.St} {Q : L2.St → Hp → Prop}, EnvR cn K B pn G H ρ σ → Reps cn K G ds vs → bindN is ds ρ = some ρ' → (∀ σ', EnvR cn K B pn G H ρ' σ' → (∀ j : Nat, j ∉ is → σ'[j]? = σ[j]?) → Q σ' H) → t vs σ H Q
  | [], [], _ => ⟨rfl, rfl, _, pgs_nil, fun {ds vs ρ ρ' σ Q} E r hb kk => by
      cases ds with
      | cons _ _ => cases hb
      | nil =>
        cases hb
        exact ⟨r, kk σ E fun _ _ => rfl⟩⟩
  | .Name x p :: es, i :: is, h => by
    simp only [namesOk, Bool.and_eq_true, decide_eq_true_eq] at h
    obtain ⟨⟨h1, h2⟩, h3⟩ := h
    obtain ⟨l, f, t, pt, run⟩ := names_bind C so h3
    obtain ⟨lc, fn⟩ := so x h2
    have e : assignEach (.Name x p :: es) X.env = (false, assign (.Name x p) X.env) :: assignEach es X.env := by first | rfl | simp [assignEach]
    refine ⟨by rw [e, List.length_cons, List.length_cons, l], by rw [e, List.findIdx?_cons]; simp only; rw [f]; rfl, _, pgs_cons (pg_name C.nd (by rw [C.hN]; exact h1) lc fn) pt (by rw [e]; rfl), fun {ds vs ρ ρ' σ Q} E r hb kk => ?_⟩
    cases ds with
    | nil => cases hb
    | cons d ds =>
      obtain ⟨v, vr, rfl, r1, r2⟩ := r
      simp only [bindN] at hb
      refine ⟨v, vr, rfl, run (E.setV (i := i) r1) r2 hb fun σ' E' hs => kk σ' E' fun j hj => ?_⟩
      rw [hs j fun z => hj (List.mem_cons_of_mem _ z), List.getElem?_set_ne fun z => hj (by rw [z]; exact List.mem_cons_self)]
/-- a datum is bound to the target's names -/
theorem bind_ok {tgt : Tg} {d : D} {v : V} {ρ' : Rho} {Q : L2.St → Hp → Prop} (C : Ctx g sc N k W X) (so : StOk X stn) (h : tgOk N stn tg tgt = true) (E : EnvR g.c g.K B pn G H ρ σ) (r : Rep g.c g.K G d v) (hb : bindT tgt d ρ = some ρ')
    (kk : ∀ σ', EnvR g.c g.K B pn G H ρ' σ' → (∀ j : Nat, j ∉ tgt.slots → σ'[j]? = σ[j]?) → Q σ' H) : WG X tg v σ H Q := by
  unfold tgOk at h
  split at h
  · simp only [Bool.and_eq_true, decide_eq_true_eq] at h
    obtain ⟨lc, fn⟩ := so _ h.2
    cases hb
    refine wg_of (pg_name C.nd (by rw [C.hN]; exact h.1) lc fn) (kk _ (E.setV r) fun j hj => List.getElem?_set_ne fun z => hj (by rw [z]; exact List.mem_cons_self))
  · simp only [Bool.and_eq_true, decide_eq_true_eq] at h
    obtain ⟨l, f, t, pt, run⟩ := names_bind (cn := g.c) (K := g.K) (B := B) (pn := pn) (G := G) (H := H) C so h.1
    rename_i is
    have lenOk : ∀ {is : List Nat} {ds : List D} {ρ ρ' : Rho}, bindN is ds ρ = some ρ' → ds.length = is.length := by
      intro is
      induction is with
      | nil => intro ds ρ ρ' hb; cases ds with | nil => rfl | cons _ _ => cases hb
      | cons i is ih =>
        intro ds ρ ρ' hb
        cases ds with
        | nil => cases hb
        | cons d ds =>
          simp only [bindN] at hb
          rw [List.length_cons, List.length_cons, ih hb]
    cases d with
    | tup ds =>
      obtain ⟨ad, vs, rfl, s1, r1⟩ := r
      have hb : bindN is ds ρ = some ρ' := hb
      refine wg_of (pg_tup C.calm pt l f) ⟨ad, vs, rfl, by rw [C.hK]; exact sqT_same E.sub (Rep.sqT s1 r1), by rw [r1.length]; exact lenOk hb, run E r1 hb kk⟩
    | lst ds =>
      obtain ⟨ad, vs, rfl, s1, r1⟩ := r
      have hb : bindN is ds ρ = some ρ' := hb
      refine wg_of (pg_lst C.calm pt l f) ⟨ad, vs, rfl, .inl (rd_same E.sub s1), by rw [r1.length]; exact lenOk hb, run E r1 hb kk⟩
    | _ => cases hb
  · cases h
/-! ### what is walked -/
structure ItR (g : Gs) (J : It) (G0 : Hp) (items : List D) : Prop where
  go : ∀ (i : Nat) (G H : Hp), Same G0 G → Same G H → i < items.length → J.go i H
  yld : ∀ (i : Nat) (G H : Hp) (x : V) (H' : Hp) (d : D), Same G0 G → Same G H → items[i]? = some d → J.yld i H x H' → ∃ G', Grow (fun _ => False) G H G' H' ∧ Rep g.c g.K G' d x
  stop : ∀ (i : Nat) (G H : Hp), Same G0 G → Same G H → items.length ≤ i → J.stop i H
theorem ItR.mono {J : It} {G0 G1 : Hp} {items : List D} (h : ItR g J G0 items) (e : Same G0 G1) : ItR g J G1 items :=
  ⟨fun i G H a b => h.go i G H (e.trans a) b, fun i G H x H' d a b => h.yld i G H x H' d (e.trans a) b, fun i G H a b => h.stop i G H (e.trans a) b⟩
def itE (T : Tb) (ik : IK) (ia : List E) (ρ : Rho) : R (List D × Rho) := (evalDs T ia ρ).bind fun x => match iterD ik x.1 with | some items => .ok (items, x.2) | none => .stk
def ItOk (g : Gs) (W : WX) (X : Cx) (B : Addr → Prop) (pn : List Nat) (tg iter : Expr) (f : Rho → R (List D × Rho)) : Prop := ∀ ρ σ G H, EnvR g.c g.K B pn G H ρ σ →
  match f ρ with
  | .stk => True
  | .ok (items, ρ') => ∀ R : It → Hp → Prop, (∀ J G' H', Grow (ownA ρ σ) G H G' H' → EnvR g.c g.K B pn G' H' ρ' σ → OwnLe ρ' ρ → ItR g J G' items → R J H') → WI X tg iter σ H R
  | .exc t fs ds => (∀ d H', ExcR g (ownA ρ σ) G H t fs ds d H' → W (.ref (g.c.cA t)) d σ H') → ∀ R : It → Hp → Prop, WI X tg iter σ H R
/-- one iterable, by its datum -/
theorem it_one {ik : IK} (ha : EvOk g W X B pn a (evalE T ea)) {t0 : TE → TI} (h0 : PI X tg iter (t0 (WE X a))) (z0 : ∀ σ H R, WE X a σ H (fun _ _ => False) → t0 (WE X a) σ H R)
    (h : ∀ d items, iterD ik [d] = some items → ∃ t : TI, PI X tg iter t ∧ ∃ r : V → Hp → (It → Hp → Prop) → Prop, (∀ σ H R, WE X a σ H (fun x H1 => r x H1 R) → t σ H R) ∧ ∀ G H x R, Same G H → Rep g.c g.K G d x → (∀ J, ItR g J G items → R J H) → r x H R) :
    ItOk g W X B pn tg iter (itE T ik [ea]) := by
  intro ρ σ G H E
  have q := ha.d ρ σ G H E
  unfold itE
  rw [evalDs1]
  simp only at q
  cases e : toD (evalE T ea ρ) with
  | stk => trivial
  | exc t fs ds =>
    rw [e] at q
    exact fun w R => wi_of h0 (z0 σ H R (q w _))
  | ok p =>
    obtain ⟨d, ρ1⟩ := p
    rw [e] at q
    simp only [R.bind]
    cases ei : iterD ik [d] with
    | none => trivial
    | some items =>
      obtain ⟨t, pt, r, tr, hr⟩ := h d items ei
      exact fun R kk => wi_of pt (tr σ H R (q _ fun v G1 H1 gr E1 le rv => hr G1 H1 v R E1.sub rv fun J hJ => kk J G1 H1 gr E1 le hJ))
theorem itl_ok {ad : Addr} {l : List D} {vs : List V} (hR : Rd G ad (.lst vs)) (r : Reps g.c g.K G l vs) : ItR g (Itl g.K ad) G l := by
  have sq : ∀ {G' H' : Hp}, Same G G' → Same G' H' → SqL g.K H' ad vs := fun e e' => .inl (rd_same e' (rd_same e hR))
  refine ⟨fun i G' H' e e' hi => ?_, fun i G' H' x H2 d e e' hd hy => ?_, fun i G' H' e e' hi => ⟨vs, sq e e', by rw [r.length]; exact hi⟩⟩
  · obtain ⟨v, h1, h2⟩ := r.get (List.getElem?_eq_getElem hi)
    exact ⟨vs, v, sq e e', h1⟩
  · obtain ⟨rfl, hy⟩ := hy
    obtain ⟨v, h1, h2⟩ := r.get hd
    have := hy vs (sq e e')
    rw [h1] at this
    cases this
    exact ⟨G', .refl e', h2.mono e⟩
theorem itt_ok {ad : Addr} {l : List D} {vs : List V} (hR : SqT g.K G ad vs) (r : Reps g.c g.K G l vs) : ItR g (Itt g.K ad) G l := by
  have sq : ∀ {G' H' : Hp}, Same G G' → Same G' H' → SqT g.K H' ad vs := fun e e' => sqT_same e' (sqT_same e hR)
  refine ⟨fun i G' H' e e' hi => ?_, fun i G' H' x H2 d e e' hd hy => ?_, fun i G' H' e e' hi => ⟨vs, sq e e', by rw [r.length]; exact hi⟩⟩
  · obtain ⟨v, h1, h2⟩ := r.get (List.getElem?_eq_getElem hi)
    exact ⟨vs, v, sq e e', h1⟩
  · obtain ⟨rfl, hy⟩ := hy
    obtain ⟨v, h1, h2⟩ := r.get hd
    have := hy vs (sq e e')
    rw [h1] at this
    cases this
    exact ⟨G', .refl e', h2.mono e⟩
theorem its_ok {x : Tx} (t : txOk x = true) : ItR g (Its (txS x)) G (x.map fun c => .str [c]) := by
  refine ⟨fun i G' H' e e' hi => ?_, fun i G' H' y H2 d e e' hd hy => ?_, fun i G' H' e e' hi => ?_⟩
  · show i < (txS x).cps.size
    simpa [txS] using hi
  · obtain ⟨rfl, c, h1, rfl⟩ := hy
    rw [List.getElem?_map] at hd
    have h1 : x[i]? = some c := by simpa [txS] using h1
    rw [h1] at hd
    cases hd
    refine ⟨G', .refl e', rfl, ?_⟩
    have := List.all_eq_true.mp t c (List.mem_of_getElem? h1)
    unfold txOk
    simpa using this
  · show (txS x).cps.size ≤ i
    simpa [txS] using hi
theorem seq_ok (C : Ctx g sc N k W X) (ha : EvOk g W X B pn a (evalE T ea)) : ItOk g W X B pn tg a (itE T .seq [ea]) := by
  refine it_one ha (t0 := fun t => iStr t) (pi_str (pe_w X a)) (fun σ H R h => we_mono h fun _ _ z => z.elim) fun d items hi => ?_
  cases d with
  | lst l =>
    cases hi
    refine ⟨_, pi_list (pe_w X a), _, fun σ H R h => h, fun G H x R sm r kk => ?_⟩
    obtain ⟨ad, vs, rfl, h1, h2⟩ := r
    exact ⟨ad, rfl, ⟨vs, .inl (rd_same sm h1)⟩, kk _ (by rw [C.hK]; exact itl_ok h1 h2)⟩
  | tup l =>
    cases hi
    refine ⟨_, pi_tup (pe_w X a), _, fun σ H R h => h, fun G H x R sm r kk => ?_⟩
    obtain ⟨ad, vs, rfl, h1, h2⟩ := r
    exact ⟨ad, rfl, ⟨vs, by rw [C.hK]; exact sqT_same sm (Rep.sqT h1 h2)⟩, kk _ (by rw [C.hK]; exact itt_ok (Rep.sqT h1 h2) h2)⟩
  | str x =>
    cases hi
    refine ⟨_, pi_str (pe_w X a), _, fun σ H R h => h, fun G H v R sm r kk => ?_⟩
    obtain ⟨rfl, t⟩ := r
    exact ⟨_, rfl, kk _ (its_ok t)⟩
  | _ => cases hi
theorem rngD_get (lo : Int) : ∀ (n i : Nat) {d : D}, (rngD lo n)[i]? = some d → d = .int (lo + i) := by
  intro n
  induction n generalizing lo with
  | zero => intro i d h; simp [rngD] at h
  | succ n ih =>
    intro i d h
    cases i with
    | zero => simp [rngD] at h; rw [← h]; simp
    | succ i =>
      have := ih (lo + 1) i (d := d) (by simpa [rngD] using h)
      rw [this]
      congr 1
      omega
theorem rngD_len (lo : Int) : ∀ n, (rngD lo n).length = n := by
  intro n
  induction n generalizing lo with
  | zero => rfl
  | succ n ih => simp [rngD, ih]
theorem itr_ok {lo : Int} {n : Nat} : ItR g (Itr lo n) G (rngD lo n) := by
  refine ⟨fun i G' H' e e' hi => ?_, fun i G' H' x H2 d e e' hd hy => ?_, fun i G' H' e e' hi => ?_⟩
  · rw [rngD_len] at hi; exact hi
  · obtain ⟨rfl, rfl⟩ := hy
    rw [rngD_get lo n i hd]
    exact ⟨G', .refl e', rfl⟩
  · rw [rngD_len] at hi; exact hi
theorem rng1_ok {p : Pos} (C : Ctx g sc N k W X) (hg : Gl X "range") (hm : X.mg "range" = none) (hs : notStar a = true) (ha : EvOk g W X B pn a (evalE T ea)) : ItOk g W X B pn tg (.Call (.Name "range" p) [a] [] pos) (itE T .rng1 [ea]) := by
  have pi : PI X tg (.Call (.Name "range" p) [a] [] pos) (iRng1 (tCons (WE X a) tNil)) := pi_range1 hg hm (pa_cons (pe_w X a) pa_nil (star_ok hs)) (star_ok hs)
  refine it_one ha (t0 := fun t => iRng1 (tCons t tNil)) pi (fun σ H R h => we_mono h fun _ _ z => z.elim) fun d items hi => ?_
  cases d with
  | int n =>
    have hi : (if -(2 ^ 62) ≤ n ∧ n < 2 ^ 62 then some (rngD 0 n.toNat) else none) = some items := hi
    by_cases hb : -(2 ^ 62) ≤ n ∧ n < 2 ^ 62
    · rw [if_pos hb] at hi
      cases hi
      refine ⟨_, pi, _, fun σ H R h => h, fun G H x R sm r kk => ?_⟩
      cases r
      exact ⟨n, rfl, hb.1, hb.2, kk _ itr_ok⟩
    · rw [if_neg hb] at hi
      cases hi
  | _ => cases hi
theorem enumD_get : ∀ (l : List D) (k : Int) (i : Nat) {d : D}, (enumD k l)[i]? = some d → ∃ e, l[i]? = some e ∧ d = .tup [.int (k + i), e]
  | [], k, i, d, h => by simp [enumD] at h
  | e :: l, k, 0, d, h => by
    simp [enumD] at h
    exact ⟨e, rfl, by rw [← h]; simp⟩
  | e :: l, k, i + 1, d, h => by
    obtain ⟨e', h1, h2⟩ := enumD_get l (k + 1) i (d := d) (by simpa [enumD] using h)
    refine ⟨e', by simpa using h1, ?_⟩
    rw [h2]
    congr 3
    omega
theorem enumD_len : ∀ (l : List D) (k : Int), (enumD k l).length = l.length
  | [], _ => rfl
  | _ :: l, k => by simp [enumD, enumD_len l]
theorem enum_ok {p tpos : Pos} {elts : List Expr} {kt : Nat} (C : Ctx g sc N k W X) (hg : Gl X "enumerate") (hm : X.mg "enumerate" = none) (hs : notStar a = true) (ha : EvOk g W X B pn a (evalE T ea)) :
    ItOk g W X B pn (.Tuple elts kt tpos) (.Call (.Name "enumerate" p) [a] [] pos) (itE T .enum [ea]) := by
  have pi : PI X (.Tuple elts kt tpos) (.Call (.Name "enumerate" p) [a] [] pos) (iEnum X.K (tCons (WE X a) tNil)) := pi_enum hg hm (pa_cons (pe_w X a) pa_nil (star_ok hs)) (star_ok hs)
  refine it_one ha (t0 := fun t => iEnum X.K (tCons t tNil)) pi (fun σ H R h => we_mono h fun _ _ z => z.elim) fun d items hi => ?_
  cases d with
  | lst l =>
    cases hi
    refine ⟨_, pi, _, fun σ H R h => h, fun G H x R sm r kk => ?_⟩
    obtain ⟨ad, vs, rfl, h1, h2⟩ := r
    have sq : ∀ {G' H' : Hp}, Same G G' → Same G' H' → SqL X.K H' ad vs := fun e e' => .inl (rd_same e' (rd_same e h1))
    refine ⟨ad, vs, rfl, sq (.refl _) sm, kk _ ⟨fun i G' H' e e' hi => ?_, fun i G' H' x H2 d e e' hd hy => ?_, fun i G' H' e e' hi => ⟨vs, sq e e', ?_⟩⟩⟩
    · rw [enumD_len] at hi
      obtain ⟨v, q1, q2⟩ := h2.get (List.getElem?_eq_getElem hi)
      exact ⟨vs, v, sq e e', q1⟩
    · obtain ⟨q, y, rfl, hn, rfl, hy⟩ := hy
      obtain ⟨e0, z1, z2⟩ := enumD_get l 0 i hd
      obtain ⟨v, q1, q2⟩ := h2.get z1
      have := hy vs (sq e e')
      rw [q1] at this
      obtain rfl : v = y := by cases this; rfl
      refine ⟨_, .newG e' hn, ?_⟩
      rw [z2]
      have sg : Same G' (upd G' q (.tup [.int (i : Nat), v])) := (Grow.newG (own := fun _ => False) e' hn).gg
      refine ⟨q, [.int (i : Nat), v], rfl, .inl upd_same, .cons ?_ (.one (q2.mono (e.trans sg)))⟩
      show V.int _ = V.int _
      congr 1
      omega
    · rw [enumD_len] at hi
      rw [h2.length]
      exact hi
  | _ => cases hi
end
end Mr

/-! List comprehensions. -/
namespace Mr
open PySem L2
def W0 : WX := fun _ _ _ _ => False
def stnB (scope : Scope) (x : Str) : Bool := match scope.names.lookup x with
  | some .local => true
  | some .cell => true
  | _ => false
section
variable {g : Gs} {W : WX} {X : Cx} {B : Addr → Prop} {pn : List Nat} {a b c node o tg iter elt : Expr} {as ifs : List Expr} {sc scope : Scope} {N : List Str} {k kk : Nat} {pos p2 apos : Pos} {T : Tb} {ea eb ec eo ee : E} {es ia cs : List E} {cn : Cn} {K : PySem.W.Frag} {G H : Hp} {ρ : Rho} {σ : L2.St} {fa : Nat → Addr} {w : List Nat} {own : List (Str × Nat)} {tgt : Tg} {ik : IK}
theorem forget_len (ρ : Rho) : ∀ w, (forget ρ w).length = ρ.length
  | [] => rfl
  | i :: w => by
    show ((forget ρ w).set i .no).length = _
    rw [List.length_set, forget_len ρ w]
theorem forget_get {i : Nat} {s : Sl} : ∀ {w : List Nat}, (forget ρ w)[i]? = some s → s ≠ .no → i ∉ w ∧ ρ[i]? = some s
  | [], h, _ => ⟨by simp, h⟩
  | j :: w, h, n => by
    have h : ((forget ρ w).set j .no)[i]? = some s := h
    by_cases hj : j = i
    · subst hj
      by_cases hl : j < (forget ρ w).length
      · rw [List.getElem?_set_self hl] at h
        cases h
        exact absurd rfl n
      · rw [List.getElem?_eq_none (by simpa using hl)] at h
        cases h
    · rw [List.getElem?_set_ne hj] at h
      obtain ⟨h1, h2⟩ := forget_get h n
      exact ⟨by simp only [List.mem_cons, not_or]; exact ⟨fun z => hj z.symm, h1⟩, h2⟩
theorem OwnLe.fg (ρ : Rho) (w : List Nat) : OwnLe (forget ρ w) ρ := fun i d h => ⟨d, (forget_get h (by simp)).2⟩
theorem EnvR.fg (E : EnvR cn K B pn G H ρ σ) (w : List Nat) : EnvR cn K B pn G H (forget ρ w) σ := by
  refine ⟨E.sub, by rw [forget_len]; exact E.len, fun i d h => E.val i d (forget_get h (by simp)).2, fun i d h => E.own i d (forget_get h (by simp)).2, fun i j d e a h1 h2 => E.inj i j d e a (forget_get h1 (by simp)).2 (forget_get h2 (by simp)).2⟩
theorem EnvR.fgw (E : EnvR cn K B pn G H ρ σ) (w : List Nat) : EnvR cn K B pn G H (forget ρ w) (wipe σ w) := by
  refine ⟨E.sub, by rw [forget_len, wipe_length]; exact E.len, fun i d h => ?_, fun i d h => ?_, fun i j d e a h1 h2 s1 s2 => E.inj i j d e a (forget_get h1 (by simp)).2 (forget_get h2 (by simp)).2 (wipe_some s1).1 (wipe_some s2).1⟩
  · obtain ⟨h1, h2⟩ := forget_get h (by simp)
    rw [wipe_out h1]
    exact E.val i d h2
  · obtain ⟨h1, h2⟩ := forget_get h (by simp)
    rw [wipe_out h1]
    exact E.own i d h2
theorem Grow.stays {own : Addr → Prop} {G H G' H' : Hp} {a : Addr} {o : HO} (gr : Grow own G H G' H') (n : G a = none) (h : H a = some o) (nt : ∀ xs, o ≠ .tup xs) (no : ¬ own a) : G' a = none ∧ H' a = some o := by
  have k := gr.keep a o h no
  refine ⟨?_, k⟩
  cases eg : G' a with
  | none => rfl
  | some u =>
    rcases gr.new a u eg with z | z | ⟨xs, z⟩ | z
    · rw [n] at z; cases z
    · rw [h] at z; cases z
    · have w := gr.gh a u eg
      rw [k] at w
      cases w
      exact absurd z (nt xs)
    · exact absurd z no
theorem bindN_len : ∀ {is : List Nat} {ds : List D} {ρ ρ' : Rho}, bindN is ds ρ = some ρ' → ρ'.length = ρ.length
  | [], [], ρ, ρ', h => by cases h; rfl
  | [], _ :: _, ρ, ρ', h => by cases h
  | _ :: _, [], ρ, ρ', h => by cases h
  | i :: is, d :: ds, ρ, ρ', h => by
    simp only [bindN] at h
    rw [bindN_len h, List.length_set]
theorem bindN_own : ∀ {is : List Nat} {ds : List D} {ρ ρ' : Rho}, bindN is ds ρ = some ρ' → OwnLe ρ' ρ
  | [], [], ρ, ρ', h => by cases h; exact .refl _
  | [], _ :: _, ρ, ρ', h => by cases h
  | _ :: _, [], ρ, ρ', h => by cases h
  | i :: is, d :: ds, ρ, ρ', h => by
    simp only [bindN] at h
    intro j e hj
    obtain ⟨e', q⟩ := bindN_own h j e hj
    exact ⟨e', (set_own q).1⟩
theorem bindT_len {d : D} {ρ' : Rho} (h : bindT tgt d ρ = some ρ') : ρ'.length = ρ.length := by
  cases tgt with
  | one i => cases h; rw [List.length_set]
  | tup is =>
    cases d with
    | tup ds => exact bindN_len h
    | lst ds => exact bindN_len h
    | _ => cases h
theorem bindT_own {d : D} {ρ' : Rho} (h : bindT tgt d ρ = some ρ') : OwnLe ρ' ρ := by
  cases tgt with
  | one i =>
    cases h
    exact fun j e hj => ⟨e, (set_own hj).1⟩
  | tup is =>
    cases d with
    | tup ds => exact bindN_own h
    | lst ds => exact bindN_own h
    | _ => cases h
theorem wipe_in : ∀ {σ : L2.St} {w : List Nat} {i : Nat}, i ∈ w → i < σ.length → (wipe σ w)[i]? = some none
  | σ, [], i, h, _ => by cases h
  | σ, j :: w, i, h, hl => by
    show ((wipe σ w).set j none)[i]? = _
    by_cases hj : j = i
    · subst hj
      rw [List.getElem?_set_self (by rw [wipe_length]; exact hl)]
    · rw [List.getElem?_set_ne hj]
      exact wipe_in (by rcases List.mem_cons.mp h with z | z; exact absurd z.symm hj; exact z) hl
theorem wipe_eq {σ σ2 : L2.St} {w : List Nat} (hl : σ2.length = σ.length) (h : ∀ j : Nat, j ∉ w → σ2[j]? = σ[j]?) : wipe σ2 w = wipe σ w := by
  apply List.ext_getElem?
  intro i
  by_cases hw : i ∈ w
  · by_cases hi : i < σ.length
    · rw [wipe_in hw hi, wipe_in hw (by omega)]
    · rw [List.getElem?_eq_none (by rw [wipe_length]; omega), List.getElem?_eq_none (by rw [wipe_length]; omega)]
  · rw [wipe_out hw, wipe_out hw, h i hw]
theorem blk_ctx (hkf : scope.kind = .function) (C : Ctx g sc N k W X) (s : Shared) (H : Hp) (Cd : Addr) (cl : List (Str × Addr)) (fp : List Addr) : Ctx g (relS scope sc) N k W0 (X.blk s H scope (compEnvC scope cl Cd X.env) fp) :=
  ⟨C.hP, C.hw, C.hK, C.hm, C.hb, by rw [← C.hs]; rfl, C.hN, C.nd, C.calm, C.room, takes0, PassesOwn.never, hkf⟩
theorem blk_st (s : Shared) (H : Hp) (Cd : Addr) (cl : List (Str × Addr)) (fp : List Addr) : StOk (X.blk s H scope (compEnvC scope cl Cd X.env) fp) (stnB scope) := by
  intro x hx
  unfold stnB at hx
  cases e : scope.names.lookup x with
  | none => rw [e] at hx; cases hx
  | some kd =>
    rw [e] at hx
    cases kd <;> try cases hx
    · have := lookup_relS_keep (sc := X.env.scope) (k := .local) (by decide) e
      exact ⟨.inl this, .inr this⟩
    · have := lookup_relS_keep (sc := X.env.scope) (k := .cell) (by decide) e
      refine ⟨.inr this, .inl ?_⟩
      show (scope.names.lookup x == some .cell) = true
      rw [e]
      rfl
theorem unblk_get {ρ0 ρ : Rho} {i : Nat} {s : Sl} (h : (unblk ρ0 ρ w)[i]? = some s) (n : s ≠ .no) : (i ∈ w ∧ ρ0[i]? = some s) ∨ (i ∉ w ∧ i < ρ0.length ∧ ρ[i]? = some s) := by
  unfold unblk at h
  rw [List.getElem?_mapIdx] at h
  cases e : ρ0[i]? with
  | none => rw [e] at h; cases h
  | some s0 =>
    rw [e] at h
    simp only [Option.map] at h
    by_cases hw : w.contains i = true
    · rw [if_pos hw] at h
      cases h
      exact .inl ⟨by simpa using hw, rfl⟩
    · rw [if_neg hw] at h
      refine .inr ⟨by simpa using hw, (List.getElem?_eq_some_iff.mp e).1, ?_⟩
      cases e2 : ρ[i]? with
      | none => rw [e2] at h; cases h; exact absurd rfl n
      | some s2 => rw [e2] at h; exact h
/-- what a block may change -/
def ownB (w : List Nat) (ρ1 : Rho) (σ : L2.St) (Dd : Addr) (a : Addr) : Prop := (∃ (j : Nat) (d : D), j ∉ w ∧ ρ1[j]? = some (.own d) ∧ σ[j]? = some (some (.ref a))) ∨ a = Dd
theorem unblk_env {ρ1 ρ2 : Rho} {G1 H1 : Hp} {Dd : Addr} (E1 : EnvR cn K B pn G1 H1 ρ1 σ) (nD : H1 Dd = none) (gr : Grow (ownB w ρ1 σ Dd) G1 H1 G H) (E : EnvR cn K B pn G H ρ2 (wipe σ w)) (le : OwnLe ρ2 ρ1) : EnvR cn K B pn G H (unblk ρ1 ρ2 w) σ ∧ OwnLe (unblk ρ1 ρ2 w) ρ1 := by
  have ole : OwnLe (unblk ρ1 ρ2 w) ρ1 := fun i d h => by
    rcases unblk_get h (by simp) with ⟨_, q⟩ | ⟨_, _, q⟩
    · exact ⟨d, q⟩
    · exact le i d q
  refine ⟨⟨E.sub, by unfold unblk; rw [List.length_mapIdx]; exact E1.len, fun i d h => ?_, fun i d h => ?_, fun i j d e a h1 h2 s1 s2 => ?_⟩, ole⟩
  · rcases unblk_get h (by simp) with ⟨_, q⟩ | ⟨hw, _, q⟩
    · obtain ⟨v, h1, h2⟩ := E1.val i d q
      exact ⟨v, h1, h2.mono gr.gg⟩
    · rw [← wipe_out hw]
      exact E.val i d q
  · rcases unblk_get h (by simp) with ⟨hw, q⟩ | ⟨hw, _, q⟩
    · obtain ⟨a, h1, h2, h3⟩ := E1.own i d q
      obtain ⟨o, ho, nt⟩ := h2.ex
      have no : ¬ ownB w ρ1 σ Dd a := by
        rintro (⟨j, e, z1, z2, z3⟩ | z)
        · have := E1.inj i j d e a q z2 h1 z3
          subst this
          exact z1 hw
        · rw [z, nD] at ho
          cases ho
      exact ⟨a, h1, h2.keep gr.gg (gr.stays h2.1 ho nt no).1 (fun u hu => gr.keep a u hu no), h3⟩
    · rw [← wipe_out hw]
      exact E.own i d q
  · obtain ⟨d1, q1⟩ := ole i d h1
    obtain ⟨d2, q2⟩ := ole j e h2
    exact E1.inj i j d1 d2 a q1 q2 s1 s2
def lcStep (T : Tb) (tgt : Tg) (cs : List E) (ee : E) (w : List Nat) (d : D) (ρ' : Rho) : R (Option D × Rho) := match bindT tgt d (forget ρ' w) with
  | some ρ2 => (evalB2 T cs ρ2).bind fun x => if x.1 then (toD (evalE T ee x.2)).bind fun y => .ok (some y.1, forget y.2 w) else .ok (none, forget x.2 w)
  | none => .stk
theorem evalE_lc : evalE T (.lc tgt ik ia cs ee w) ρ = (itE T ik ia ρ).bind fun x => (lcGo (lcStep T tgt cs ee w) x.1 (forget x.2 w)).bind fun y => if y.1.length ≤ big then .ok (.own (.lst y.1), unblk x.2 y.2 w) else .stk := by
  simp only [evalE]
  unfold itE
  cases evalDs T ia ρ with
  | stk => rfl
  | exc _ _ _ => rfl
  | ok p =>
    obtain ⟨ds, ρ1⟩ := p
    simp only [R.bind]
    cases iterD ik ds with
    | none => rfl
    | some items => rfl
theorem lcGo_cons {step : D → Rho → R (Option D × Rho)} {d : D} {r l : List D} {ρf : Rho} (h : lcGo step (d :: r) ρ = .ok (l, ρf)) : ∃ o ρs lr, step d ρ = .ok (o, ρs) ∧ lcGo step r ρs = .ok (lr, ρf) ∧ l = match o with | some x => x :: lr | none => lr := by
  simp only [lcGo] at h
  cases e : step d ρ with
  | stk => rw [e] at h; cases h
  | exc _ _ _ => rw [e] at h; cases h
  | ok p =>
    obtain ⟨o, ρs⟩ := p
    rw [e] at h
    simp only at h
    cases e2 : lcGo step r ρs with
    | stk => rw [e2] at h; cases h
    | exc _ _ _ => rw [e2] at h; cases h
    | ok q =>
      obtain ⟨lr, ρq⟩ := q
      rw [e2] at h
      cases h
      exact ⟨o, ρs, lr, rfl, e2, rfl⟩
/-- the readings of a block's parts, in all its contexts -/
def bE (X : Cx) (scope : Scope) (e : Expr) : TE := fun σ H Q => ∀ (s : Shared) (H0 : Hp) (C : Addr) (cl : List (Str × Addr)) (fp : List Addr), WE (X.blk s H0 scope (compEnvC scope cl C X.env) fp) e σ H Q
def bG (X : Cx) (scope : Scope) (tg : Expr) : TG := fun v σ H Q => ∀ (s : Shared) (H0 : Hp) (C : Addr) (cl : List (Str × Addr)) (fp : List Addr), WG (X.blk s H0 scope (compEnvC scope cl C X.env) fp) tg v σ H Q
def bT (X : Cx) (scope : Scope) : List Expr → TT
  | [] => tYes
  | e :: _ => fun σ H Q => ∀ (s : Shared) (H0 : Hp) (C : Addr) (cl : List (Str × Addr)) (fp : List Addr), WT (X.blk s H0 scope (compEnvC scope cl C X.env) fp) e σ H Q
theorem bE_p (s : Shared) (H0 : Hp) (C : Addr) (cl : List (Str × Addr)) (fp : List Addr) : PE (X.blk s H0 scope (compEnvC scope cl C X.env) fp) a (bE X scope a) := ⟨fun pins s' σ H Q I h => h s H0 C cl fp pins s' I⟩
theorem bG_p (s : Shared) (H0 : Hp) (C : Addr) (cl : List (Str × Addr)) (fp : List Addr) : PG (X.blk s H0 scope (compEnvC scope cl C X.env) fp) a (bG X scope a) := ⟨fun pins s' σ H v u Q I r h => h s H0 C cl fp pins s' u I r⟩
theorem bT_p (hl : ifs.length ≤ 1) (s : Shared) (H0 : Hp) (C : Addr) (cl : List (Str × Addr)) (fp : List Addr) : PTs (X.blk s H0 scope (compEnvC scope cl C X.env) fp) ifs (bT X scope ifs) := by
  match ifs, hl with
  | [], _ => exact pts_nil
  | [e], _ => exact pts_one ⟨fun pins s' σ H Q I h => h s H0 C cl fp pins s' I⟩
/-- a clause's tests -/
def CsOk (g : Gs) (B : Addr → Prop) (pn : List Nat) (T : Tb) (N : List Str) (k : Nat) (sc : Scope) : List Expr → List E → Prop
  | [], [] => True
  | [c], [ec] => ∀ X, Ctx g sc N k W0 X → EtOk g W0 X B pn c (tE T ec)
  | _, _ => False
theorem cs_run {ρ2 : Rho} {σ2 : L2.St} (hC : ∀ (s : Shared) (H0 : Hp) (C : Addr) (cl : List (Str × Addr)) (fp : List Addr), Ctx g sc N k W0 (X.blk s H0 scope (compEnvC scope cl C X.env) fp)) (hcs : CsOk g B pn T N k sc ifs cs) (E : EnvR g.c g.K B pn G H ρ2 σ2) :
    match evalB2 T cs ρ2 with
    | .ok (t, ρ3) => ∀ Q : Bool → Hp → Prop, (∀ G' H', Grow (ownA ρ2 σ2) G H G' H' → EnvR g.c g.K B pn G' H' ρ3 σ2 → OwnLe ρ3 ρ2 → Q t H') → bT X scope ifs σ2 H Q
    | _ => True := by
  match ifs, cs, hcs with
  | [], [], _ =>
    simp only [evalB2]
    exact fun Q kk => kk G H (.refl E.sub) E (.refl _)
  | [c], [ec], h =>
    have e0 : evalB2 T [ec] ρ2 = tE T ec ρ2 := by
      simp only [evalB2, tE]
      cases toT (evalE T ec ρ2) with
      | stk => rfl
      | exc _ _ _ => rfl
      | ok p =>
        obtain ⟨t, ρ3⟩ := p
        cases t <;> rfl
    rw [e0]
    cases e : tE T ec ρ2 with
    | stk => trivial
    | exc _ _ _ => trivial
    | ok p =>
      obtain ⟨t, ρ3⟩ := p
      intro Q kk s H0 C cl fp
      have q := h _ (hC s H0 C cl fp) ρ2 σ2 G H E
      rw [e] at q
      exact q Q kk
/-- one turn of a block -/
theorem turn_run (hkf : scope.kind = .function) {ρ' : Rho} {d x : D} {v : V} (C : Ctx g sc N k W X) (hN : tgOk N (stnB scope) tg tgt = true) (hts : ∀ j, j ∈ tgt.slots → j ∈ w) (E : EnvR g.c g.K B pn G H ρ' (wipe σ w)) (r : Rep g.c g.K G d v) {ρ2 : Rho} (hb : bindT tgt d (forget ρ' w) = some ρ2)
    {Q : L2.St → Hp → Prop} (kk : ∀ σ2, EnvR g.c g.K B pn G H ρ2 σ2 → wipe σ2 w = wipe σ w → (∀ a, ownA ρ2 σ2 a → ∃ (j : Nat) (e : D), j ∉ w ∧ ρ'[j]? = some (.own e) ∧ σ[j]? = some (some (.ref a))) → Q σ2 H) : bG X scope tg v (wipe σ w) H Q := by
  intro s H0 Cd cl fp
  refine bind_ok (blk_ctx hkf C s H0 Cd cl fp) (blk_st s H0 Cd cl fp) hN (E.fg w) r hb fun σ2 E2 hs => ?_
  have hs' : ∀ j : Nat, j ∉ w → σ2[j]? = (wipe σ w)[j]? := fun j hj => hs j fun z => hj (hts j z)
  refine kk σ2 E2 ?_ fun a ho => ?_
  · have hl : σ2.length = (wipe σ w).length := by rw [← E2.len, bindT_len hb, forget_len, E.len]
    rw [wipe_eq hl hs']
    apply wipe_eq (wipe_length σ w)
    exact fun j hj => wipe_out hj
  · obtain ⟨j, e, h1, h2⟩ := ho
    obtain ⟨e', h3⟩ := bindT_own hb j e h1
    obtain ⟨h4, h5⟩ := forget_get h3 (by simp)
    rw [hs' j h4, wipe_out h4] at h2
    exact ⟨j, e', h4, h5, h2⟩
theorem lc_run (hkf : scope.kind = .function) (C : Ctx g sc N k W X) (hw : w = own.map (·.2)) (hts : ∀ j, j ∈ tgt.slots → j ∈ w) (htg : tgOk N (stnB scope) tg tgt = true) (hit : ItOk g W X B pn tg iter (itE T ik ia)) (hcs : CsOk g B pn T N k (relS scope sc) ifs cs)
    (he : ∀ X, Ctx g (relS scope sc) N k W0 X → EvOk g W0 X B pn elt (evalE T ee)) (E : EnvR g.c g.K B pn G H ρ σ) :
    match evalE T (.lc tgt ik ia cs ee w) ρ with
    | .stk => True
    | .ok (s, ρ') => ∀ Q : VK, (∀ v G' H', Grow (ownA ρ σ) G H G' H' → EnvR g.c g.K B pn G' H' ρ' σ → OwnLe ρ' ρ → ResR g.c g.K H G' H' s v → Q v H') → tLc (WI X tg iter) (bG X scope tg) (bT X scope ifs) (bE X scope elt) (own.map (·.2)) σ H Q
    | .exc t fs ds => (∀ d H', ExcR g (ownA ρ σ) G H t fs ds d H' → W (.ref (g.c.cA t)) d σ H') → ∀ Q : VK, tLc (WI X tg iter) (bG X scope tg) (bT X scope ifs) (bE X scope elt) (own.map (·.2)) σ H Q := by
  have q := hit ρ σ G H E
  rw [evalE_lc]
  cases e : itE T ik ia ρ with
  | stk => trivial
  | exc t fs ds =>
    rw [e] at q
    exact fun wi Q => q wi _
  | ok p =>
    obtain ⟨items, ρ1⟩ := p
    rw [e] at q
    simp only [R.bind]
    cases eg : lcGo (lcStep T tgt cs ee w) items (forget ρ1 w) with
    | stk => trivial
    | exc t fs ds =>
      exfalso
      have : ∀ (l : List D) (ρ : Rho) t fs ds, lcGo (lcStep T tgt cs ee w) l ρ ≠ .exc t fs ds := by
        intro l
        induction l with
        | nil => intro ρ t fs ds h; simp [lcGo] at h
        | cons d l ih =>
          intro ρ t fs ds h
          simp only [lcGo] at h
          cases es : lcStep T tgt cs ee w d ρ with
          | stk => rw [es] at h; cases h
          | exc _ _ _ => rw [es] at h; cases h
          | ok p =>
            obtain ⟨o, ρ2⟩ := p
            rw [es] at h
            simp only at h
            cases el : lcGo (lcStep T tgt cs ee w) l ρ2 with
            | stk => rw [el] at h; cases h
            | exc _ _ _ => exact ih _ _ _ _ el
            | ok _ => rw [el] at h; cases h
      exact this _ _ _ _ _ eg
    | ok pp =>
      obtain ⟨l, ρ2⟩ := pp
      simp only
      by_cases hbig : l.length ≤ big
      · rw [if_pos hbig]
        intro Q kk
        refine q _ fun J G1 H1 gr E1 le itr => ?_
        rw [← hw]
        intro Dd nD
        have nG : G1 Dd = none := Same.free E1.sub nD
        let Pv : Nat → Hp → Prop := fun i H => ∃ G ρ' la acc lr, EnvR g.c g.K B pn G H ρ' (wipe σ w) ∧ OwnLe ρ' ρ1 ∧ Grow (ownB w ρ1 σ Dd) G1 H1 G H ∧ H Dd = some (.lst acc) ∧ G Dd = none ∧ Reps g.c g.K G la acc ∧ lcGo (lcStep T tgt cs ee w) (items.drop i) ρ' = .ok (lr, ρ2) ∧ l = la ++ lr
        refine ⟨fun i m H => m = items.length - i ∧ i ≤ items.length ∧ Pv i H, ⟨items.length, by simp, Nat.zero_le _, ?_⟩, ?_⟩
        · refine ⟨G1, forget ρ1 w, [], [], l, (E1.grow (Grow.newH (own := fun _ => False) E1.sub nD) fun _ _ z => z).fgw w, .fg ρ1 w, .newH E1.sub nD, upd_same, nG, rfl, by simpa using eg, rfl⟩
        · rintro i m H ⟨rfl, hi, G, ρ', la, acc, lr, E2, le2, gr2, hD, hGD, rl, hgo, hlen⟩
          by_cases hlt : i < items.length
          · refine .inr ⟨itr.go i G H gr2.gg E2.sub hlt, Pv (i + 1), fun H' p => ⟨items.length - (i + 1), by omega, rfl, hlt, p⟩, fun x H' hy => ?_⟩
            obtain ⟨d, hd⟩ : ∃ d, items[i]? = some d := ⟨_, List.getElem?_eq_getElem hlt⟩
            have hdr : items.drop i = d :: items.drop (i + 1) := by
              rw [List.drop_eq_getElem_cons hlt]
              congr 1
              rw [List.getElem?_eq_getElem hlt] at hd
              cases hd
              rfl
            obtain ⟨G3, gr3, rx⟩ := itr.yld i G H x H' d gr2.gg E2.sub hd hy
            have E3 := E2.grow gr3 fun _ _ z => z
            have gr3' : Grow (ownB w ρ1 σ Dd) G1 H1 G3 H' := gr2.trans gr3 fun _ z => z.elim
            obtain ⟨hGD3, hD3⟩ := gr3.stays hGD hD (fun xs z => by cases z) (fun z => z)
            rw [hdr] at hgo
            obtain ⟨oo, ρs, lr', hst, hgo, hlr⟩ := lcGo_cons hgo
            subst hlr
            unfold lcStep at hst
            cases hb : bindT tgt d (forget ρ' w) with
            | none => rw [hb] at hst; cases hst
            | some ρb =>
              rw [hb] at hst
              simp only at hst
              refine turn_run hkf (x := d) C htg hts E3 rx hb fun σ2 Eb hwp hob => ⟨hwp, ?_⟩
              have q2 := cs_run (T := T) (fun s H0 Cd cl fp => blk_ctx (scope := scope) hkf C s H0 Cd cl fp) hcs Eb
              cases ecs : evalB2 T cs ρb with
              | stk => rw [ecs] at hst; cases hst
              | exc _ _ _ => rw [ecs] at hst; cases hst
              | ok pt =>
                obtain ⟨t, ρ3⟩ := pt
                rw [ecs] at q2 hst
                simp only [R.bind] at hst
                refine q2 _ fun G4 H4 gr4 E4 le4 => ?_
                have inB : ∀ {ρx : Rho} {y : Addr}, OwnLe ρx ρb → ownA ρx σ2 y → ownB w ρ1 σ Dd y := fun {ρx y} lex ho => by
                  obtain ⟨j, e', h1, h2, h3⟩ := hob y (lex.ownA ho)
                  obtain ⟨e'', h4⟩ := le2 j e' h2
                  exact .inl ⟨j, e'', h1, h4, h3⟩
                have noD : ∀ {ρx : Rho}, OwnLe ρx ρb → ¬ ownA ρx σ2 Dd := fun {ρx} lex ho => by
                  obtain ⟨j, e', h1, h2, h3⟩ := hob Dd (lex.ownA ho)
                  obtain ⟨e'', h4⟩ := le2 j e' h2
                  obtain ⟨u, z⟩ := own_there E1 ⟨j, e'', h4, h3⟩
                  rw [nD] at z
                  cases z
                have gr4' : Grow (ownB w ρ1 σ Dd) G1 H1 G4 H4 := gr3'.trans gr4 fun y z => .inl (inB (.refl _) z)
                obtain ⟨hGD4, hD4⟩ := gr4.stays hGD3 hD3 (fun xs z => by cases z) (noD (.refl _))
                have leb : OwnLe ρb ρ1 := ((bindT_own hb).trans (.refl _) |> fun z => OwnLe.trans (OwnLe.fg ρ' w) z |> fun z => le2.trans z)
                cases t with
                | false =>
                  rw [if_neg (by simp)] at hst
                  cases hst
                  rw [if_neg (by simp)]
                  exact ⟨G4, forget ρ3 w, la, acc, lr', by rw [← hwp]; exact E4.fgw w, (leb.trans le4).trans (.fg ρ3 w), gr4', hD4, hGD4, rl.mono (gr3.gg.trans gr4.gg), hgo, hlen⟩
                | true =>
                  rw [if_pos rfl] at hst
                  rw [if_pos rfl]
                  cases ev : toD (evalE T ee ρ3) with
                  | stk => simp [ev] at hst
                  | exc _ _ _ => simp [ev] at hst
                  | ok px =>
                    obtain ⟨y, ρ4⟩ := px
                    simp only [ev] at hst
                    cases hst
                    intro s0 H0 Cd cl fp
                    have q3 := (he _ (blk_ctx hkf C s0 H0 Cd cl fp)).d ρ3 σ2 G4 H4 E4
                    simp only at q3
                    rw [ev] at q3
                    refine q3 _ fun vy G5 H5 gr5 E5 le5 ry => ?_
                    have gr5' : Grow (ownB w ρ1 σ Dd) G1 H1 G5 H5 := gr4'.trans gr5 fun y z => .inl (inB le4 z)
                    obtain ⟨hGD5, hD5⟩ := gr5.stays hGD4 hD4 (fun xs z => by cases z) (noD le4)
                    have hl := rl.length
                    refine ⟨acc, hD5, ?_, G5, forget ρ4 w, la ++ [y], acc ++ [vy], lr', ?_, ((leb.trans le4).trans le5).trans (.fg ρ4 w), ?_, upd_same, hGD5, (rl.mono (gr3.gg.trans (gr4.gg.trans gr5.gg))).app (.one ry), hgo, by rw [hlen]; simp⟩
                    · rw [hl, ← bigL]
                      rw [hlen] at hbig
                      simp at hbig
                      omega
                    · have g6 : Grow (fun z => z = Dd) G5 H5 G5 (upd H5 Dd (.lst (acc ++ [vy]))) := by
                        refine ⟨.refl _, fun b o hb => ?_, fun b o hb hn => ?_, fun b o hb => ?_, fun b o hb => .inl hb⟩
                        · rw [upd_ne fun z => by rw [z, hGD5] at hb; cases hb]
                          exact gr5.gh b o hb
                        · rw [upd_ne hn]; exact hb
                        · by_cases hz : b = Dd
                          · exact ⟨_, by rw [hz, upd_same]⟩
                          · exact ⟨o, by rw [upd_ne hz]; exact hb⟩
                      rw [← hwp]
                      exact (E5.grow g6 fun z hz e => noD (le4.trans le5) (e ▸ hz)).fgw w
                    · refine gr5'.trans (own' := fun z => z = Dd) ⟨.refl _, fun b o hb => ?_, fun b o hb hn => ?_, fun b o hb => ?_, fun b o hb => .inl hb⟩ fun z hz => .inl (.inr hz)
                      · rw [upd_ne fun z => by rw [z, hGD5] at hb; cases hb]
                        exact gr5.gh b o hb
                      · rw [upd_ne hn]; exact hb
                      · by_cases hz : b = Dd
                        · exact ⟨_, by rw [hz, upd_same]⟩
                        · exact ⟨o, by rw [upd_ne hz]; exact hb⟩
          · have hi' : i = items.length := by omega
            subst hi'
            refine .inl ⟨itr.stop _ G H gr2.gg E2.sub (Nat.le_refl _), ?_⟩
            rw [List.drop_length] at hgo
            simp only [lcGo] at hgo
            cases hgo
            rw [List.append_nil] at hlen
            subst hlen
            obtain ⟨Ef, lef⟩ := unblk_env E1 nD gr2 E2 le2
            refine kk _ G H (gr.trans gr2 fun y z => ?_) Ef (le.trans lef) ⟨Dd, rfl, ⟨hGD, acc, hD, rl⟩, gr.free nD⟩
            rcases z with ⟨j, e', _, h2, h3⟩ | z
            · exact .inl (le.ownA ⟨j, e', h2, h3⟩)
            · exact .inr (by rw [z]; exact gr.free nD)
      · rw [if_neg hbig]
        trivial
theorem fsi_ok (h : notSet iter = true) (env : Env) : ∀ x, foldedSetIterable iter env x = pure x := by
  intro x
  cases iter <;> first | rfl | exact absurd h (by simp [notSet])
theorem lc_ok (C : Ctx g sc N k W X) (hbk : blkC N sc scope own = true) (hns : notSet iter = true) (hl1 : ifs.length ≤ 1) (hw : w = own.map (·.2)) (hts : ∀ j, j ∈ tgt.slots → j ∈ w) (htg : tgOk N (stnB scope) tg tgt = true) (hit : ItOk g W X B pn tg iter (itE T ik ia)) (hcs : CsOk g B pn T N k (relS scope sc) ifs cs)
    (he : ∀ X, Ctx g (relS scope sc) N k W0 X → EvOk g W0 X B pn elt (evalE T ee)) : EvOk g W X B pn (.ListComp elt [⟨tg, iter, ifs, 0⟩] scope pos) (evalE T (.lc tgt ik ia cs ee w)) := by
  intro ρ σ G H E
  have q := lc_run (blkOk_by hbk).kind C hw hts htg hit hcs he E
  have rule : PE X (.ListComp elt [⟨tg, iter, ifs, 0⟩] scope pos) (tLc (WI X tg iter) (bG X scope tg) (bT X scope ifs) (bE X scope elt) (own.map (·.2))) :=
    pe_lc C.calm C.nd pi_wi (by rw [C.hN, C.hs]; exact blkOk_by hbk) bG_p (bT_p hl1) bE_p (fsi_ok hns X.env)
  cases e : evalE T (.lc tgt ik ia cs ee w) ρ with
  | stk => trivial
  | exc t fs ds =>
    rw [e] at q
    exact fun wi Q => we_of rule (q wi Q)
  | ok p =>
    obtain ⟨s, ρ1⟩ := p
    rw [e] at q
    exact fun Q kk => we_of rule (q Q kk)
end
end Mr

/-! Dict comprehensions; what is put into dicts and objects. -/
namespace Mr
open PySem L2
section
variable {g : Gs} {W : WX} {X : Cx} {B : Addr → Prop} {pn : List Nat} {a b c node o tg iter elt kx vx : Expr} {as ifs : List Expr} {sc scope : Scope} {N : List Str} {k kk : Nat} {pos p2 apos : Pos} {T : Tb} {ea eb ec eo ee ek ev : E} {es ia cs : List E} {cn : Cn} {K : PySem.W.Frag} {G H : Hp} {ρ : Rho} {σ : L2.St} {fa : Nat → Addr} {w : List Nat} {own : List (Str × Nat)} {tgt : Tg} {ik : IK}
theorem put_gen {κ κ' : Type} [DecidableEq κ] [DecidableEq κ'] (f : κ → κ') (hf : ∀ x y, f x = f y ↔ x = y) {ks : List κ} {ds : List D} {vs : List V} {q : κ} {d : D} {v : V} (r : Reps cn K G ds vs) (hl : ks.length = ds.length) (rd : Rep cn K G d v) :
    ∃ vs', putK ((ks.map f).zip vs) (f q) v = ((put ks ds q d).1.map f).zip vs' ∧ Reps cn K G (put ks ds q d).2 vs' ∧ (put ks ds q d).1.length = (put ks ds q d).2.length ∧ ∀ x ∈ (put ks ds q d).1, x ∈ ks ∨ x = q := by
  have any : ∀ {ks : List κ} {ds : List D} {vs : List V}, Reps cn K G ds vs → ks.length = ds.length → (((ks.map f).zip vs).any fun kv => decide (kv.1 = f q)) = decide (q ∈ ks) := by
    intro ks
    induction ks with
    | nil => intro ds vs _ _; rfl
    | cons x ks ih =>
      intro ds vs r hl
      cases ds with
      | nil => cases hl
      | cons e ds =>
        obtain ⟨u, us, rfl, r1, r2⟩ := r
        have := ih r2 (by simpa using hl)
        simp only [List.map_cons, List.zip_cons_cons, List.any_cons, this]
        by_cases hx : x = q
        · simp [hx]
        · have : ¬ f x = f q := fun z => hx ((hf _ _).mp z)
          have hq : ¬ q = x := fun z => hx z.symm
          simp [this, hx, hq]
  unfold putK put
  rw [any r hl]
  by_cases hq : q ∈ ks
  · rw [if_pos (by simpa using hq), if_pos hq]
    have go : ∀ {ks : List κ} {ds : List D} {vs : List V}, Reps cn K G ds vs → ks.length = ds.length → ∃ vs', ((ks.map f).zip vs).map (fun kv => if kv.1 = f q then (kv.1, v) else kv) = (ks.map f).zip vs' ∧ Reps cn K G (List.zipWith (fun k v => if k = q then d else v) ks ds) vs' := by
      intro ks
      induction ks with
      | nil => intro ds vs _ _; exact ⟨[], rfl, rfl⟩
      | cons x ks ih =>
        intro ds vs r hl
        cases ds with
        | nil => cases hl
        | cons e ds =>
          obtain ⟨u, us, rfl, r1, r2⟩ := r
          obtain ⟨vs', h1, h2⟩ := ih r2 (by simpa using hl)
          simp only [List.map_cons, List.zip_cons_cons, List.zipWith_cons_cons, h1]
          by_cases hx : x = q
          · rw [if_pos ((hf _ _).mpr hx), if_pos hx]
            exact ⟨v :: vs', rfl, .cons rd h2⟩
          · rw [if_neg fun z => hx ((hf _ _).mp z), if_neg hx]
            exact ⟨u :: vs', rfl, .cons r1 h2⟩
    obtain ⟨vs', h1, h2⟩ := go r hl
    exact ⟨vs', h1, h2, by simp [hl], fun x hx => .inl hx⟩
  · rw [if_neg (by simpa using hq), if_neg hq]
    refine ⟨vs ++ [v], ?_, r.app (.one rd), by simp [hl], fun x hx => by simpa using hx⟩
    rw [List.map_append, List.zip_append (by rw [List.length_map, hl, r.length])]
    rfl
theorem putK_k {ks : List Ky} {ds : List D} {vs : List V} {q : Ky} {d : D} {v : V} (r : Reps cn K G ds vs) (hl : ks.length = ds.length) (ok : ks.all kyOk = true) (oq : kyOk q = true) (rd : Rep cn K G d v) :
    ∃ vs', putK (kvK ks vs) (kyK q) v = kvK (put ks ds q d).1 vs' ∧ Reps cn K G (put ks ds q d).2 vs' ∧ (put ks ds q d).1.length = (put ks ds q d).2.length ∧ (put ks ds q d).1.all kyOk = true := by
  obtain ⟨vs', h1, h2, h3, h4⟩ := put_gen kyK (fun x y => kyK_eq) (q := q) r hl rd
  refine ⟨vs', h1, h2, h3, List.all_eq_true.mpr fun x hx => ?_⟩
  rcases h4 x hx with z | z
  · exact List.all_eq_true.mp ok x z
  · rw [z]; exact oq
theorem putK_t {ks : List (List Ky)} {ds : List D} {vs : List V} {q : List Ky} {d : D} {v : V} (r : Reps cn K G ds vs) (hl : ks.length = ds.length) (ok : (ks.all fun k => k.all kyOk) = true) (oq : q.all kyOk = true) (rd : Rep cn K G d v) :
    ∃ vs', putK (kvT ks vs) (q.map kyK) v = kvT (put ks ds q d).1 vs' ∧ Reps cn K G (put ks ds q d).2 vs' ∧ (put ks ds q d).1.length = (put ks ds q d).2.length ∧ ((put ks ds q d).1.all fun k => k.all kyOk) = true := by
  obtain ⟨vs', h1, h2, h3, h4⟩ := put_gen (fun k => k.map kyK) (fun x y => kyKs_eq) (q := q) r hl rd
  refine ⟨vs', h1, h2, h3, List.all_eq_true.mpr fun x hx => ?_⟩
  rcases h4 x hx with z | z
  · exact List.all_eq_true.mp ok x z
  · rw [z]; exact oq
theorem putF_o {f : Nat} {d : D} {v : V} (fI : ∀ i j, cn.fN i = cn.fN j → i = j) (rd : Rep cn K G d v) : ∀ {fs : List Nat} {ds : List D} {vs : List V}, Reps cn K G ds vs → fs.length = ds.length →
    ∃ vs', putF (cn.fN f) v (fvs cn fs vs) = fvs cn (putO fs ds f d).1 vs' ∧ Reps cn K G (putO fs ds f d).2 vs' ∧ (putO fs ds f d).1.length = (putO fs ds f d).2.length
  | [], [], vs, r, _ => by
    have r : vs = [] := r
    subst r
    exact ⟨[v], rfl, .one rd, rfl⟩
  | [], _ :: _, vs, r, hl => by cases hl
  | _ :: _, [], vs, r, hl => by cases hl
  | i :: fs, e :: ds, vs, r, hl => by
    obtain ⟨u, us, rfl, r1, r2⟩ := r
    have e1 : fvs cn (i :: fs) (u :: us) = (cn.fN i, u) :: fvs cn fs us := rfl
    rw [e1]
    unfold putF putO
    by_cases hi : i = f
    · subst hi
      rw [if_pos rfl, if_pos rfl]
      exact ⟨v :: us, rfl, .cons rd r2, by simpa using hl⟩
    · rw [if_neg fun z => hi (fI _ _ z), if_neg hi]
      obtain ⟨vs', h1, h2, h3⟩ := putF_o fI rd r2 (by simpa using hl)
      rw [h1]
      exact ⟨u :: vs', rfl, .cons r1 h2, by simpa using h3⟩
theorem pairsK_cons {d : D} {l : List D} {p : List Ky × List D} (h : pairsK (d :: l) = some p) : ∃ k kd v ks vs, d = .tup [kd, v] ∧ dKy kd = some k ∧ pairsK l = some (ks, vs) ∧ p = (k :: ks, v :: vs) := by
  unfold pairsK at h
  split at h
  · rename_i h2
    cases h2
  · rename_i k v r h1
    cases h1
    split at h
    · rename_i k' ks vs e1 e2
      cases h
      exact ⟨k', k, v, ks, vs, rfl, e1, e2, rfl⟩
    · cases h
  · cases h
def dcStep (T : Tb) (tgt : Tg) (cs : List E) (ek ev : E) (w : List Nat) (d : D) (ρ' : Rho) : R (Option D × Rho) := match bindT tgt d (forget ρ' w) with
  | some ρ2 => (evalB2 T cs ρ2).bind fun x => if x.1 then (toD (evalE T ek x.2)).bind fun y => (toD (evalE T ev y.2)).bind fun z => .ok (some (.tup [y.1, z.1]), forget z.2 w) else .ok (none, forget x.2 w)
  | none => .stk
theorem evalE_dc {tk : Bool} : evalE T (.dc tk tgt ik ia cs ek ev w) ρ = (itE T ik ia ρ).bind fun x => (lcGo (dcStep T tgt cs ek ev w) x.1 (forget x.2 w)).bind fun y => dictR tk y.1 (unblk x.2 y.2 w) := by
  simp only [evalE]
  unfold itE
  cases evalDs T ia ρ with
  | stk => rfl
  | exc _ _ _ => rfl
  | ok p =>
    obtain ⟨ds, ρ1⟩ := p
    simp only [R.bind]
    cases iterD ik ds with
    | none => rfl
    | some items => rfl
theorem lcGo_exc {step : D → Rho → R (Option D × Rho)} : ∀ (l : List D) (ρ : Rho) t fs ds, lcGo step l ρ ≠ .exc t fs ds := by
  intro l
  induction l with
  | nil => intro ρ t fs ds h; simp [lcGo] at h
  | cons d l ih =>
    intro ρ t fs ds h
    simp only [lcGo] at h
    cases es : step d ρ with
    | stk => rw [es] at h; cases h
    | exc _ _ _ => rw [es] at h; cases h
    | ok p =>
      obtain ⟨o, ρ2⟩ := p
      rw [es] at h
      simp only at h
      cases el : lcGo step l ρ2 with
      | stk => rw [el] at h; cases h
      | exc _ _ _ => exact ih _ _ _ _ el
      | ok _ => rw [el] at h; cases h
theorem put_len {κ : Type} [DecidableEq κ] (as : List κ) (bs : List D) (k : κ) (v : D) : (put as bs k v).1.length ≤ as.length + 1 := by
  unfold put
  split
  · exact Nat.le_succ _
  · simp
theorem dc_run (hkf : scope.kind = .function) (C : Ctx g sc N k W X) (hw : w = own.map (·.2)) (hts : ∀ j, j ∈ tgt.slots → j ∈ w) (htg : tgOk N (stnB scope) tg tgt = true) (hit : ItOk g W X B pn tg iter (itE T ik ia)) (hcs : CsOk g B pn T N k (relS scope sc) ifs cs)
    (hk : ∀ X, Ctx g (relS scope sc) N k W0 X → EvOk g W0 X B pn kx (evalE T ek)) (he : ∀ X, Ctx g (relS scope sc) N k W0 X → EvOk g W0 X B pn vx (evalE T ev)) (E : EnvR g.c g.K B pn G H ρ σ) :
    match evalE T (.dc false tgt ik ia cs ek ev w) ρ with
    | .stk => True
    | .ok (s, ρ') => ∀ Q : VK, (∀ v G' H', Grow (ownA ρ σ) G H G' H' → EnvR g.c g.K B pn G' H' ρ' σ → OwnLe ρ' ρ → ResR g.c g.K H G' H' s v → Q v H') → tDc (WI X tg iter) (bG X scope tg) (bT X scope ifs) (bE X scope kx) (bE X scope vx) (own.map (·.2)) σ H Q
    | .exc t fs ds => (∀ d H', ExcR g (ownA ρ σ) G H t fs ds d H' → W (.ref (g.c.cA t)) d σ H') → ∀ Q : VK, tDc (WI X tg iter) (bG X scope tg) (bT X scope ifs) (bE X scope kx) (bE X scope vx) (own.map (·.2)) σ H Q := by
  have q := hit ρ σ G H E
  rw [evalE_dc]
  cases e : itE T ik ia ρ with
  | stk => trivial
  | exc t fs ds =>
    rw [e] at q
    exact fun wi Q => q wi _
  | ok p =>
    obtain ⟨items, ρ1⟩ := p
    rw [e] at q
    simp only [R.bind]
    cases eg : lcGo (dcStep T tgt cs ek ev w) items (forget ρ1 w) with
    | stk => trivial
    | exc t fs ds => exact absurd eg (lcGo_exc _ _ _ _ _)
    | ok pp =>
      obtain ⟨l, ρ2⟩ := pp
      simp only
      unfold dictR
      rw [if_neg (by simp)]
      cases ep : pairsK l with
      | none => trivial
      | some kv =>
        obtain ⟨pk, pv⟩ := kv
        simp only
        by_cases hbig : pk.length < big
        · rw [if_pos hbig]
          intro Q kk
          refine q _ fun J G1 H1 gr E1 le itr => ?_
          rw [← hw]
          intro Dd nD
          have nG : G1 Dd = none := Same.free E1.sub nD
          let Pv : Nat → Hp → Prop := fun i H => ∃ G ρ' ks ds acc lr pk' pv', EnvR g.c g.K B pn G H ρ' (wipe σ w) ∧ OwnLe ρ' ρ1 ∧ Grow (ownB w ρ1 σ Dd) G1 H1 G H ∧ H Dd = some (.dK (kvK ks acc)) ∧ G Dd = none ∧ Reps g.c g.K G ds acc ∧ ks.length = ds.length ∧ ks.all kyOk = true ∧ lcGo (dcStep T tgt cs ek ev w) (items.drop i) ρ' = .ok (lr, ρ2) ∧ pairsK lr = some (pk', pv') ∧ merge pk' pv' ks ds = merge pk pv [] [] ∧ ks.length + pk'.length ≤ pk.length
          refine ⟨fun i m H => m = items.length - i ∧ i ≤ items.length ∧ Pv i H, ⟨items.length, by simp, Nat.zero_le _, ?_⟩, ?_⟩
          · exact ⟨G1, forget ρ1 w, [], [], [], l, pk, pv, (E1.grow (Grow.newH (own := fun _ => False) E1.sub nD) fun _ _ z => z).fgw w, .fg ρ1 w, .newH E1.sub nD, upd_same, nG, rfl, rfl, rfl, by simpa using eg, ep, rfl, by simp⟩
          · rintro i m H ⟨rfl, hi, G, ρ', ks, ds, acc, lr, pk', pv', E2, le2, gr2, hD, hGD, rl, hkl, hko, hgo, hpr, hmg, hct⟩
            by_cases hlt : i < items.length
            · refine .inr ⟨itr.go i G H gr2.gg E2.sub hlt, Pv (i + 1), fun H' p => ⟨items.length - (i + 1), by omega, rfl, hlt, p⟩, fun x H' hy => ?_⟩
              obtain ⟨d, hd⟩ : ∃ d, items[i]? = some d := ⟨_, List.getElem?_eq_getElem hlt⟩
              have hdr : items.drop i = d :: items.drop (i + 1) := by
                rw [List.drop_eq_getElem_cons hlt]
                congr 1
                rw [List.getElem?_eq_getElem hlt] at hd
                cases hd
                rfl
              obtain ⟨G3, gr3, rx⟩ := itr.yld i G H x H' d gr2.gg E2.sub hd hy
              have E3 := E2.grow gr3 fun _ _ z => z
              have gr3' : Grow (ownB w ρ1 σ Dd) G1 H1 G3 H' := gr2.trans gr3 fun _ z => z.elim
              obtain ⟨hGD3, hD3⟩ := gr3.stays hGD hD (fun xs z => by cases z) (fun z => z)
              rw [hdr] at hgo
              obtain ⟨oo, ρs, lr', hst, hgo, hlr⟩ := lcGo_cons hgo
              subst hlr
              unfold dcStep at hst
              cases hb : bindT tgt d (forget ρ' w) with
              | none => rw [hb] at hst; cases hst
              | some ρb =>
                rw [hb] at hst
                simp only at hst
                refine turn_run hkf (x := d) C htg hts E3 rx hb fun σ2 Eb hwp hob => ⟨hwp, ?_⟩
                have q2 := cs_run (T := T) (fun s H0 Cd cl fp => blk_ctx (scope := scope) hkf C s H0 Cd cl fp) hcs Eb
                cases ecs : evalB2 T cs ρb with
                | stk => rw [ecs] at hst; cases hst
                | exc _ _ _ => rw [ecs] at hst; cases hst
                | ok pt =>
                  obtain ⟨t, ρ3⟩ := pt
                  rw [ecs] at q2 hst
                  simp only [R.bind] at hst
                  refine q2 _ fun G4 H4 gr4 E4 le4 => ?_
                  have inB : ∀ {ρx : Rho} {y : Addr}, OwnLe ρx ρb → ownA ρx σ2 y → ownB w ρ1 σ Dd y := fun {ρx y} lex ho => by
                    obtain ⟨j, e', h1, h2, h3⟩ := hob y (lex.ownA ho)
                    obtain ⟨e'', h4⟩ := le2 j e' h2
                    exact .inl ⟨j, e'', h1, h4, h3⟩
                  have noD : ∀ {ρx : Rho}, OwnLe ρx ρb → ¬ ownA ρx σ2 Dd := fun {ρx} lex ho => by
                    obtain ⟨j, e', h1, h2, h3⟩ := hob Dd (lex.ownA ho)
                    obtain ⟨e'', h4⟩ := le2 j e' h2
                    obtain ⟨u, z⟩ := own_there E1 ⟨j, e'', h4, h3⟩
                    rw [nD] at z
                    cases z
                  have gr4' : Grow (ownB w ρ1 σ Dd) G1 H1 G4 H4 := gr3'.trans gr4 fun y z => .inl (inB (.refl _) z)
                  obtain ⟨hGD4, hD4⟩ := gr4.stays hGD3 hD3 (fun xs z => by cases z) (noD (.refl _))
                  have leb : OwnLe ρb ρ1 := ((bindT_own hb).trans (.refl _) |> fun z => OwnLe.trans (OwnLe.fg ρ' w) z |> fun z => le2.trans z)
                  cases t with
                  | false =>
                    rw [if_neg (by simp)] at hst
                    cases hst
                    rw [if_neg (by simp)]
                    exact ⟨G4, forget ρ3 w, ks, ds, acc, lr', pk', pv', by rw [← hwp]; exact E4.fgw w, (leb.trans le4).trans (.fg ρ3 w), gr4', hD4, hGD4, rl.mono (gr3.gg.trans gr4.gg), hkl, hko, hgo, hpr, hmg, hct⟩
                  | true =>
                    rw [if_pos rfl] at hst
                    rw [if_pos rfl]
                    cases evk : toD (evalE T ek ρ3) with
                    | stk => simp [evk] at hst
                    | exc _ _ _ => simp [evk] at hst
                    | ok px =>
                      obtain ⟨dky, ρ4⟩ := px
                      simp only [evk] at hst
                      cases evv : toD (evalE T ev ρ4) with
                      | stk => simp [evv] at hst
                      | exc _ _ _ => simp [evv] at hst
                      | ok pz =>
                        obtain ⟨dv, ρ5⟩ := pz
                        simp only [evv] at hst
                        cases hst
                        obtain ⟨ky, kd, v0, pk2, pv2, e1, e2, e3, e4⟩ := pairsK_cons hpr
                        cases e1
                        cases e4
                        simp only [merge] at hmg
                        intro s0 H0 Cd cl fp
                        have q3 := (hk _ (blk_ctx hkf C s0 H0 Cd cl fp)).d ρ3 σ2 G4 H4 E4
                        simp only at q3
                        rw [evk] at q3
                        refine q3 _ fun vk G5 H5 gr5 E5 le5 rk => ?_
                        intro s0 H0 Cd cl fp
                        have q4 := (he _ (blk_ctx hkf C s0 H0 Cd cl fp)).d ρ4 σ2 G5 H5 E5
                        simp only at q4
                        rw [evv] at q4
                        refine q4 _ fun vv G6 H6 gr6 E6 le6 rv => ?_
                        have gr5' : Grow (ownB w ρ1 σ Dd) G1 H1 G5 H5 := gr4'.trans gr5 fun y z => .inl (inB le4 z)
                        obtain ⟨hGD5, hD5⟩ := gr5.stays hGD4 hD4 (fun xs z => by cases z) (noD le4)
                        have gr6' : Grow (ownB w ρ1 σ Dd) G1 H1 G6 H6 := gr5'.trans gr6 fun y z => .inl (inB (le4.trans le5) z)
                        obtain ⟨hGD6, hD6⟩ := gr6.stays hGD5 hD5 (fun xs z => by cases z) (noD (le4.trans le5))
                        obtain ⟨rfl, oky⟩ := dKy_rep e2 rk
                        have rl6 := rl.mono (gr3.gg.trans (gr4.gg.trans (gr5.gg.trans gr6.gg)))
                        obtain ⟨vs', z1, z2, z3, z4⟩ := putK_k rl6 hkl hko oky rv
                        have g7 : Grow (fun z => z = Dd) G6 H6 G6 (upd H6 Dd (.dK (putK (kvK ks acc) (kyK ky) vv))) := by
                          refine ⟨.refl _, fun b o hb => ?_, fun b o hb hn => ?_, fun b o hb => ?_, fun b o hb => .inl hb⟩
                          · rw [upd_ne fun z => by rw [z, hGD6] at hb; cases hb]
                            exact gr6.gh b o hb
                          · rw [upd_ne hn]; exact hb
                          · by_cases hz : b = Dd
                            · exact ⟨_, by rw [hz, upd_same]⟩
                            · exact ⟨o, by rw [upd_ne hz]; exact hb⟩
                        refine ⟨kvK ks acc, kyK ky, rfl, hD6, ?_, G6, forget ρ5 w, (put ks ds ky dv).1, (put ks ds ky dv).2, vs', lr', pk2, pv2, ?_, ((((leb.trans le4).trans le5).trans le6).trans (.fg ρ5 w)), gr6'.trans g7 fun z hz => .inl (.inr hz), by rw [upd_same, z1], hGD6, z2, z3, z4, hgo, e3, hmg, by have := put_len ks ds ky dv; simp at hct; omega⟩
                        · rw [kvK_len (by rw [hkl, rl.length]), ← bigL]
                          simp at hct
                          omega
                        · rw [← hwp]
                          exact (E6.grow g7 fun z hz e => noD ((le4.trans le5).trans le6) (e ▸ hz)).fgw w
            · have hi' : i = items.length := by omega
              subst hi'
              refine .inl ⟨itr.stop _ G H gr2.gg E2.sub (Nat.le_refl _), ?_⟩
              rw [List.drop_length] at hgo
              simp only [lcGo] at hgo
              cases hgo
              cases hpr
              have hmg : (ks, ds) = merge pk pv [] [] := hmg
              obtain ⟨Ef, lef⟩ := unblk_env E1 nD gr2 E2 le2
              rw [← hmg] at kk
              refine kk _ G H (gr.trans gr2 fun y z => ?_) Ef (le.trans lef) ⟨Dd, rfl, ⟨hGD, acc, hD, rl, hkl, hko⟩, gr.free nD⟩
              rcases z with ⟨j, e', _, h2, h3⟩ | z
              · exact .inl (le.ownA ⟨j, e', h2, h3⟩)
              · exact .inr (by rw [z]; exact gr.free nD)
        · rw [if_neg hbig]
          trivial
theorem dc_ok (C : Ctx g sc N k W X) (hbk : blkC N sc scope own = true) (hns : notSet iter = true) (hl1 : ifs.length ≤ 1) (hw : w = own.map (·.2)) (hts : ∀ j, j ∈ tgt.slots → j ∈ w) (htg : tgOk N (stnB scope) tg tgt = true) (hit : ItOk g W X B pn tg iter (itE T ik ia)) (hcs : CsOk g B pn T N k (relS scope sc) ifs cs)
    (hk : ∀ X, Ctx g (relS scope sc) N k W0 X → EvOk g W0 X B pn kx (evalE T ek)) (he : ∀ X, Ctx g (relS scope sc) N k W0 X → EvOk g W0 X B pn vx (evalE T ev)) : EvOk g W X B pn (.DictComp kx vx [⟨tg, iter, ifs, 0⟩] scope pos) (evalE T (.dc false tgt ik ia cs ek ev w)) := by
  intro ρ σ G H E
  have q := dc_run (blkOk_by hbk).kind C hw hts htg hit hcs hk he E
  have rule : PE X (.DictComp kx vx [⟨tg, iter, ifs, 0⟩] scope pos) (tDc (WI X tg iter) (bG X scope tg) (bT X scope ifs) (bE X scope kx) (bE X scope vx) (own.map (·.2))) :=
    pe_dc C.calm C.nd pi_wi (by rw [C.hN, C.hs]; exact blkOk_by hbk) bG_p (bT_p hl1) bE_p bE_p (fsi_ok hns X.env)
  cases e : evalE T (.dc false tgt ik ia cs ek ev w) ρ with
  | stk => trivial
  | exc t fs ds =>
    rw [e] at q
    exact fun wi Q => we_of rule (q wi Q)
  | ok p =>
    obtain ⟨s, ρ1⟩ := p
    rw [e] at q
    exact fun Q kk => we_of rule (q Q kk)
end
end Mr

/-! sorted. -/
namespace Mr
open PySem L2
section
variable {g : Gs} {W : WX} {X : Cx} {B : Addr → Prop} {pn : List Nat} {a b c node o : Expr} {as : List Expr} {sc : Scope} {N : List Str} {k kk : Nat} {pos p2 apos : Pos} {T : Tb} {ea eb ec eo : E} {es : List E} {cn : Cn} {K : PySem.W.Frag} {G H : Hp} {ρ : Rho} {σ : L2.St}
mutual
theorem alk_alike : ∀ (x y : D), alk x y = true → PySem.W.alike (toP x) (toP y) = true
  | .int i, y, h => by
    cases y <;> simp [alk] at h
    simp [toP, PySem.W.alike]
  | .str i, y, h => by
    cases y <;> simp [alk] at h
    simp [toP, PySem.W.alike]
  | .tup xs, y, h => by
    cases y <;> simp [alk] at h
    simp only [toP, PySem.W.alike]
    exact alks_alike xs _ h
  | .non, y, h => by cases y <;> simp [alk] at h
  | .bl _, y, h => by cases y <;> simp [alk] at h
  | .lst _, y, h => by cases y <;> simp [alk] at h
  | .dk _ _, y, h => by cases y <;> simp [alk] at h
  | .dt _ _, y, h => by cases y <;> simp [alk] at h
  | .obj _ _ _, y, h => by cases y <;> simp [alk] at h
theorem alks_alike : ∀ (xs ys : List D), alks xs ys = true → PySem.W.alikeAll (toPs xs) (toPs ys) = true
  | [], ys, h => by
    cases ys <;> simp [alks] at h
    simp [toPs, PySem.W.alikeAll]
  | x :: xs, ys, h => by
    cases ys with
    | nil => simp [alks] at h
    | cons y ys =>
      simp [alks] at h
      simp only [toPs, PySem.W.alikeAll, Bool.and_eq_true]
      exact ⟨alk_alike x y h.1, alks_alike xs ys h.2⟩
end
mutual
theorem alk_comm : ∀ (x y : D), alk x y = true → alk y x = true
  | .int i, y, h => by cases y <;> simp [alk] at h ⊢
  | .str i, y, h => by cases y <;> simp [alk] at h ⊢
  | .tup xs, y, h => by
    cases y <;> simp [alk] at h ⊢
    exact alks_comm xs _ h
  | .non, y, h => by cases y <;> simp [alk] at h
  | .bl _, y, h => by cases y <;> simp [alk] at h
  | .lst _, y, h => by cases y <;> simp [alk] at h
  | .dk _ _, y, h => by cases y <;> simp [alk] at h
  | .dt _ _, y, h => by cases y <;> simp [alk] at h
  | .obj _ _ _, y, h => by cases y <;> simp [alk] at h
theorem alks_comm : ∀ (xs ys : List D), alks xs ys = true → alks ys xs = true
  | [], ys, h => by cases ys <;> simp [alks] at h ⊢
  | x :: xs, ys, h => by
    cases ys with
    | nil => simp [alks] at h
    | cons y ys =>
      simp [alks] at h ⊢
      exact ⟨alk_comm x y h.1, alks_comm xs ys h.2⟩
end
theorem ltT_irr : ∀ (x : Tx), ltT x x = false
  | [] => rfl
  | a :: r => by simp [ltT, ltT_irr r]
theorem ltT_asym : ∀ (x y : Tx), ltT x y = true → ltT y x = false
  | [], [], h => by simp [ltT] at h
  | [], _ :: _, _ => rfl
  | _ :: _, [], h => by simp [ltT] at h
  | a :: r, b :: t, h => by
    simp only [ltT] at h ⊢
    by_cases h1 : a < b
    · rw [if_neg (by omega), if_pos h1]
    · rw [if_neg h1] at h
      by_cases h2 : b < a
      · rw [if_pos h2] at h; cases h
      · rw [if_neg h2] at h
        rw [if_neg h2, if_neg h1]
        exact ltT_asym r t h
theorem ltT_tri : ∀ (x y : Tx), ltT x y = false → ltT y x = false → x = y
  | [], [], _, _ => rfl
  | [], _ :: _, h, _ => by simp [ltT] at h
  | _ :: _, [], _, h => by simp [ltT] at h
  | a :: r, b :: t, h, h' => by
    simp only [ltT] at h h'
    by_cases h1 : a < b
    · rw [if_pos h1] at h; cases h
    · rw [if_neg h1] at h
      by_cases h2 : b < a
      · rw [if_pos h2] at h'; cases h'
      · rw [if_neg h2] at h
        rw [if_neg h2, if_neg h1] at h'
        rw [ltT_tri r t h h', show a = b by omega]
/-- the order of two data of one shape, as Python has it -/
def CmpP (x y : D) : Prop := ∃ o, cmpD x y = some o ∧ cmpD y x = some o.swap ∧ PySem.W.dataLt (toP x) (toP y) = (o == .lt) ∧ PySem.W.dataLt (toP y) (toP x) = (o == .gt) ∧ PyData.eqv (toP x) (toP y) = (o == .eq) ∧ PyData.eqv (toP y) (toP x) = (o == .eq)
def CmpPs (xs ys : List D) : Prop := ∃ o, cmpDs xs ys = some o ∧ cmpDs ys xs = some o.swap ∧ PyProof.Rows.lexLt PyProof.Rows.itemOrd (PySem.W.keyToksAll (toPs xs)) (PySem.W.keyToksAll (toPs ys)) = (o == .lt) ∧ PyProof.Rows.lexLt PyProof.Rows.itemOrd (PySem.W.keyToksAll (toPs ys)) (PySem.W.keyToksAll (toPs xs)) = (o == .gt) ∧ PyData.eqvAll (toPs xs) (toPs ys) = (o == .eq) ∧ PyData.eqvAll (toPs ys) (toPs xs) = (o == .eq)
theorem txS_beq (x y : Tx) : (txS x == txS y) = decide (x = y) := by
  by_cases h : x = y
  · subst h; simp
  · have : txS x ≠ txS y := fun z => h (txS_eq.mp z)
    simp [h, this]
mutual
theorem cmp_p : ∀ (x y : D), alk x y = true → CmpP x y
  | .int i, y, h => by
    cases y <;> simp [alk] at h
    rename_i j
    refine ⟨if i < j then .lt else if j < i then .gt else .eq, by simp only [cmpD], ?_, ?_, ?_, ?_, ?_⟩
    · simp only [cmpD]
      by_cases h1 : i < j
      · rw [if_pos h1, if_neg (by omega), if_pos h1]; rfl
      · by_cases h2 : j < i
        · simp [h1, h2]
        · simp [h1, h2]
    · simp only [toP, PySem.W.dataLt_int]
      by_cases h1 : i < j
      · simp [h1]
      · by_cases h2 : j < i <;> simp [h1, h2]
    · simp only [toP, PySem.W.dataLt_int]
      by_cases h1 : i < j
      · have : ¬ j < i := by omega
        simp [h1, this]
      · by_cases h2 : j < i <;> simp [h1, h2]
    · simp only [toP, PyData.eqv]
      by_cases h1 : i < j
      · have : ¬ i = j := by omega
        simp [h1, this]
      · by_cases h2 : j < i
        · have : ¬ i = j := by omega
          simp [h1, h2, this]
        · have : i = j := by omega
          simp [this]
    · simp only [toP, PyData.eqv]
      by_cases h1 : i < j
      · have : ¬ j = i := by omega
        simp [h1, this]
      · by_cases h2 : j < i
        · have : ¬ j = i := by omega
          simp [h1, h2, this]
        · have : i = j := by omega
          simp [this]
  | .str i, y, h => by
    cases y <;> simp [alk] at h
    rename_i j
    have d1 : PySem.W.dataLt (.str (txS i)) (.str (txS j)) = ltT i j := by rw [PySem.W.dataLt_str]; exact txS_lt i j
    have d2 : PySem.W.dataLt (.str (txS j)) (.str (txS i)) = ltT j i := by rw [PySem.W.dataLt_str]; exact txS_lt j i
    refine ⟨if ltT i j then .lt else if ltT j i then .gt else .eq, by simp only [cmpD], ?_, ?_, ?_, ?_, ?_⟩
    · simp only [cmpD]
      cases h1 : ltT i j with
      | true => rw [ltT_asym _ _ h1]; rfl
      | false => cases h2 : ltT j i <;> rfl
    · simp only [toP, d1]
      cases h1 : ltT i j with
      | true => rfl
      | false => cases h2 : ltT j i <;> rfl
    · simp only [toP, d2]
      cases h1 : ltT i j with
      | true => rw [ltT_asym _ _ h1]; rfl
      | false => cases h2 : ltT j i <;> rfl
    · simp only [toP, PyData.eqv, txS_beq]
      cases h1 : ltT i j with
      | true =>
        have : ¬ i = j := fun z => by rw [z, ltT_irr] at h1; cases h1
        simp [this]
      | false =>
        cases h2 : ltT j i with
        | true =>
          have : ¬ i = j := fun z => by rw [z, ltT_irr] at h2; cases h2
          simp [this]
        | false => simp [ltT_tri _ _ h1 h2]
    · simp only [toP, PyData.eqv, txS_beq]
      cases h1 : ltT i j with
      | true =>
        have : ¬ j = i := fun z => by rw [z, ltT_irr] at h1; cases h1
        simp [this]
      | false =>
        cases h2 : ltT j i with
        | true =>
          have : ¬ j = i := fun z => by rw [z, ltT_irr] at h2; cases h2
          simp [this]
        | false => simp [ltT_tri _ _ h1 h2]
  | .tup xs, y, h => by
    cases y <;> simp [alk] at h
    rename_i ys
    obtain ⟨o, h1, h2, h3, h4, h5, h6⟩ := cmp_ps xs ys h
    refine ⟨o, by simpa only [cmpD] using h1, by simpa only [cmpD] using h2, ?_, ?_, ?_, ?_⟩
    · simp only [toP]; rw [PySem.W.dataLt_tuple]; exact h3
    · simp only [toP]; rw [PySem.W.dataLt_tuple]; exact h4
    · simpa only [toP, PyData.eqv] using h5
    · simpa only [toP, PyData.eqv] using h6
  | .non, y, h => by cases y <;> simp [alk] at h
  | .bl _, y, h => by cases y <;> simp [alk] at h
  | .lst _, y, h => by cases y <;> simp [alk] at h
  | .dk _ _, y, h => by cases y <;> simp [alk] at h
  | .dt _ _, y, h => by cases y <;> simp [alk] at h
  | .obj _ _ _, y, h => by cases y <;> simp [alk] at h
theorem cmp_ps : ∀ (xs ys : List D), alks xs ys = true → CmpPs xs ys
  | [], ys, h => by
    cases ys <;> simp [alks] at h
    refine ⟨.eq, by simp only [cmpDs], by simp only [cmpDs]; rfl, ?_, ?_, ?_, ?_⟩
    · simp only [toPs]; exact PyProof.Rows.lex_irrefl _
    · simp only [toPs]; exact PyProof.Rows.lex_irrefl _
    · simp [toPs, PyData.eqvAll]
    · simp [toPs, PyData.eqvAll]
  | x :: xs, ys, h => by
    cases ys with
    | nil => simp [alks] at h
    | cons y ys =>
      simp [alks] at h
      obtain ⟨o, a1, a2, a3, a4, a5, a6⟩ := cmp_p x y h.1
      obtain ⟨o', b1, b2, b3, b4, b5, b6⟩ := cmp_ps xs ys h.2
      have al := alk_alike x y h.1
      have al' : PySem.W.alike (toP y) (toP x) = true := alk_alike y x (alk_comm x y h.1)
      simp only [CmpPs, cmpDs, toPs, PyData.eqvAll, PySem.W.dataLt_cons al, PySem.W.dataLt_cons al', a1, a2, a3, a4, a5, a6]
      cases o with
      | lt => exact ⟨.lt, by simp, by simp [Ordering.swap], by simp, by simp, by simp, by simp⟩
      | gt => exact ⟨.gt, by simp, by simp [Ordering.swap], by simp, by simp, by simp, by simp⟩
      | eq => exact ⟨o', by simpa using b1, by simpa [Ordering.swap] using b2, by simpa using b3, by simpa using b4, by simpa using b5, by simpa using b6⟩
end
theorem leD_le {x y : D} (h : alk x y = true) : leD x y = !PySem.W.dataLt (toP y) (toP x) := by
  obtain ⟨o, h1, h2, h3, h4, h5, h6⟩ := cmp_p x y h
  unfold leD
  rw [h1, h4]
  cases o <;> rfl
/-- sorted of data of one shape -/
def rSortD (g : Gs) (l : List D) : List V → Hp → VK → Prop := fun xs H Q => ∃ p G vs, xs = [V.ref p] ∧ Same G H ∧ Rd G p (.lst vs) ∧ Reps g.c g.K G l vs ∧ ∀ q ws, H q = none → Reps g.c g.K G (sortD l) ws → Q (.ref q) (upd H q (.lst ws))
theorem zip_reps : ∀ {l : List D} {vs : List V}, Reps cn K G l vs → (l.zip vs).map (·.1) = l ∧ (l.zip vs).map (·.2) = vs ∧ ∀ p ∈ l.zip vs, Rep cn K G p.1 p.2
  | [], vs, r => by
    have r : vs = [] := r
    subst r
    exact ⟨rfl, rfl, fun p hp => by cases hp⟩
  | d :: l, vs, r => by
    obtain ⟨v, us, rfl, r1, r2⟩ := r
    obtain ⟨h1, h2, h3⟩ := zip_reps r2
    refine ⟨by simp [h1], by simp [h2], fun p hp => ?_⟩
    rcases List.mem_cons.mp hp with z | z
    · subst z; exact r1
    · exact h3 p z
theorem reps_of : ∀ {ps : List (D × V)}, (∀ p ∈ ps, Rep cn K G p.1 p.2) → Reps cn K G (ps.map (·.1)) (ps.map (·.2))
  | [], _ => rfl
  | p :: ps, h => .cons (h p List.mem_cons_self) (reps_of fun q hq => h q (List.mem_cons_of_mem _ hq))
theorem okDs_mem : ∀ {l : List D} {n : Nat} {d : D}, okDs n l = true → d ∈ l → okD n d = true
  | [], n, d, h, hd => by cases hd
  | x :: l, n, d, h, hd => by
    simp only [okDs, Bool.and_eq_true] at h
    rcases List.mem_cons.mp hd with z | z
    · subst z; exact h.1
    · exact okDs_mem h.2 z
theorem each_zip {us : List Value} {R : Value → V → Prop} : ∀ {l : List D} {vs : List V}, l.length = vs.length → Vals vs us → True := fun _ _ => trivial
theorem call_sortD (C : Ctx g sc N k W X) {l : List D} (ha : allAlk l = true) (ho : okDs 60 l = true) (hz : l.length ≤ big) (hn : l.all notNil = true) : CallR X (.builtin "sorted") (rSortD g l) := by
  intro pins s σ H xs us Q I r h
  obtain ⟨p, G, vs, rfl, sm, hR, rl, q⟩ := h
  obtain ⟨u, rfl, ru⟩ := Vals.one r
  cases ru
  have hq : SqL X.K H p vs := .inl (rd_same sm hR)
  obtain ⟨its, rv, pl, hz'⟩ := I.list hq
  obtain ⟨z1, z2, z3⟩ := zip_reps rl
  have each : ∀ {l : List D} {vs : List V} {its : List Value}, l.length = vs.length → Vals vs its → PySem.W.EachIs (fun (u : Value) (b : D × V) => RelV b.2 u) its (l.zip vs) := by
    intro l
    induction l with
    | nil =>
      intro vs its hl rv
      cases vs with
      | nil => cases rv; exact .nil
      | cons _ _ => cases hl
    | cons d l ih =>
      intro vs its hl rv
      cases vs with
      | nil => cases hl
      | cons v vs =>
        cases rv with
        | cons r1 r2 => exact .cons r1 (ih (by simpa using hl) r2)
  have e1 := each rl.length.symm rv
  have er : PySem.W.EachIs (fun (u : Value) (b : D × V) => ∃ as, Reads s.heap u (toP b.1) as) its (l.zip vs) := (PySem.W.each_mem e1).mono fun u b ⟨ru, hb⟩ => by
    have hm : b.1 ∈ l := by rw [← z1]; exact List.mem_map.mpr ⟨b, hb, rfl⟩
    have dp := rep_dp (K := X.K) sm b.1 (okDs_mem ho hm) (by rw [C.hK]; exact z3 b hb)
    exact Dp.reads I _ _ _ dp ru
  have memL : ∀ b, b ∈ l.zip vs → b.1 ∈ l := fun b hb => by rw [← z1]; exact List.mem_map.mpr ⟨b, hb, rfl⟩
  have alk2 : ∀ x ∈ l, ∀ y ∈ l, alk x y = true := fun x hx y hy => List.all_eq_true.mp (List.all_eq_true.mp ha x hx) y hy
  have hal : PySem.W.AllAlike ((l.zip vs).map fun b => toP b.1) := by
    intro d hd d' hd'
    obtain ⟨b, hb, rfl⟩ := List.mem_map.mp hd
    obtain ⟨b', hb', rfl⟩ := List.mem_map.mp hd'
    exact alk_alike _ _ (alk2 _ (memL b hb) _ (memL b' hb'))
  have hk : PySem.W.Sortable ((l.zip vs).map fun b => toP b.1) := by
    cases el : l with
    | nil => exact .inl fun d hd => by simp at hd
    | cons x l' =>
      have hx : x ∈ l := by rw [el]; exact List.mem_cons_self
      rw [← el]
      have kind : ∀ y ∈ l, alk x y = true := fun y hy => alk2 x hx y hy
      cases x with
      | tup xs =>
        refine .inl fun d hd => ?_
        obtain ⟨b, hb, rfl⟩ := List.mem_map.mp hd
        have := kind b.1 (memL b hb)
        have hnn := List.all_eq_true.mp hn b.1 (memL b hb)
        obtain ⟨db, vb⟩ := b
        cases db <;> simp [alk] at this
        rename_i ys
        cases ys with
        | nil => simp [notNil] at hnn
        | cons y ys => exact ⟨toP y, toPs ys, by simp [toP, toPs]⟩
      | int i =>
        refine .inr fun d hd => ?_
        obtain ⟨b, hb, rfl⟩ := List.mem_map.mp hd
        have := kind b.1 (memL b hb)
        obtain ⟨db, vb⟩ := b
        cases db <;> simp [alk] at this
        exact ⟨by simp [toP], fun xs => by simp [toP]⟩
      | str i =>
        refine .inr fun d hd => ?_
        obtain ⟨b, hb, rfl⟩ := List.mem_map.mp hd
        have := kind b.1 (memL b hb)
        obtain ⟨db, vb⟩ := b
        cases db <;> simp [alk] at this
        exact ⟨by simp [toP], fun xs => by simp [toP]⟩
      | non => have := kind _ hx; simp [alk] at this
      | bl _ => have := kind _ hx; simp [alk] at this
      | lst _ => have := kind _ hx; simp [alk] at this
      | dk _ _ => have := kind _ hx; simp [alk] at this
      | dt _ _ => have := kind _ hx; simp [alk] at this
      | obj _ _ _ => have := kind _ hx; simp [alk] at this
  have lz : (l.zip vs).length = l.length := by rw [List.length_zip, rl.length, Nat.min_self]
  refine PySem.W.sorted_data (bs := l.zip vs) (enc := fun b => toP b.1) (R := fun (u : Value) (b : D × V) => RelV b.2 u) pl.isList e1 er hal hk (by rw [lz, ← bigL]; exact hz) (fun b hb => ?_) fun out hl eo => ?_
  · have h1 := (rep_lay b.1 (okDs_mem ho (memL b hb)) (z3 b hb)).2
    have h2 := C.room.un
    show X.A.units + 2 + (toP b.1).depth < cLine
    omega
  · have hs : (l.zip vs).mergeSort (PySem.W.dataLe false fun b : D × V => toP b.1) = (l.zip vs).mergeSort (fun a b => leD a.1 b.1) := by
      have z := List.map_mergeSort (f := id) (r := PySem.W.dataLe false fun b : D × V => toP b.1) (s := fun a b => leD a.1 b.1) (l := l.zip vs) fun a ha b hb => by
        show _ = leD a.1 b.1
        rw [leD_le (alk2 _ (memL a ha) _ (memL b hb))]
        rfl
      simpa using z
    rw [hs] at eo
    have hmap : ((l.zip vs).mergeSort (fun a b => leD a.1 b.1)).map (·.1) = sortD l := by
      unfold sortD
      rw [List.map_mergeSort (s := leD) (fun a _ b _ => rfl), z1]
    have rw' : Reps g.c g.K G (sortD l) (((l.zip vs).mergeSort (fun a b => leD a.1 b.1)).map (·.2)) := by
      rw [← hmap]
      exact reps_of fun b hb => z3 b (List.mem_mergeSort.mp hb)
    have hlen : (((l.zip vs).mergeSort (fun a b => leD a.1 b.1)).map (·.2)).length ≤ sizeLine := by
      rw [List.length_map, List.length_mergeSort, lz, ← bigL]; exact hz
    have vals : Vals (((l.zip vs).mergeSort (fun a b => leD a.1 b.1)).map (·.2)) out := by
      clear hl
      generalize (l.zip vs).mergeSort (fun a b => leD a.1 b.1) = bs at eo
      induction eo with
      | nil => exact .nil
      | cons h _ ih => exact .cons h ih
    obtain ⟨e, he⟩ := PyProof.Rows.sortedAll_at s.heap its (List.toArray out)
    have hf : H (s.heap.objs.size + 1) = none := I.hok.fresh (Nat.le_succ _)
    refine ⟨.ref (s.heap.objs.size + 1), _, I.laid (a := s.heap.objs.size + 1) (o := .lst (((l.zip vs).mergeSort (fun a b => leD a.1 b.1)).map (·.2))) (t' := s.toks) (fun b o hb => PyProof.Rows.sortedAll_old hb) (Nat.le_succ _) ⟨hlen, out, e, vals, he⟩, rfl, q _ _ hf rw'⟩
theorem cp_sorted (C : Ctx g sc N k W X) : CP g X (.builtin "sorted") .sorted := by
  intro ds h
  match ds, h with
  | [d], h =>
    cases d <;> (try exact absurd rfl h)
    rename_i l
    obtain ⟨hb, he⟩ := ifB_ne h
    rw [Bool.and_eq_true, Bool.and_eq_true, Bool.and_eq_true, decide_eq_true_eq] at hb
    refine ⟨_, call_sortD C hb.1.1.1 hb.1.1.2 hb.1.2 hb.2, fun G H vs Q e r kk => ?_⟩
    have kk := kk.to he
    obtain ⟨v, rfl, rv⟩ := r.inv1
    obtain ⟨p, us, rfl, h1, h2⟩ := rv
    exact ⟨p, G, us, rfl, e, h1, h2, fun q ws n rs => kk.newL e rs n⟩
  | [], h => exact absurd rfl h
  | d :: _ :: _, h => cases d <;> exact absurd rfl h
end
end Mr

/-! dict of pairs, f-strings, starred displays. -/
namespace Mr
open PySem L2
section
variable {g : Gs} {W : WX} {X : Cx} {B : Addr → Prop} {pn : List Nat} {a b c node o : Expr} {as : List Expr} {sc : Scope} {N : List Str} {k kk : Nat} {pos p2 apos : Pos} {T : Tb} {ea eb ec eo : E} {es : List E} {cn : Cn} {K : PySem.W.Frag} {G H : Hp} {ρ : Rho} {σ : L2.St}
def mergeT (kvs more : List (List Key × V)) : List (List Key × V) := more.foldl (fun acc kv => putK acc kv.1 kv.2) kvs
theorem length_mergeT : ∀ (more kvs : List (List Key × V)), (mergeT kvs more).length ≤ kvs.length + more.length
  | [], kvs => by show kvs.length ≤ kvs.length + 0; omega
  | p :: r, kvs => by
    have h1 := length_mergeT r (putK kvs p.1 p.2)
    have h2 := length_putK kvs p.1 p.2
    show (mergeT (putK kvs p.1 p.2) r).length ≤ _
    rw [List.length_cons]; omega
/-- dict(xs) of a list of pairs (tuple, value) -/
theorem call_dictT (hcalm : X.calm = true) (hu : X.A.units + 64 < cLine) : CallR X (.type "dict") (fun xs H Q => ∃ (a : Addr) (ps : List Addr) (kvs : List (List Key × V)), xs = [.ref a] ∧ SqL X.K H a (ps.map V.ref) ∧ Paired (fun p (kv : List Key × V) => ∃ b, SqT X.K H p [.ref b, kv.2] ∧ H b = some (.tup (kv.1.map kV))) ps kvs ∧
    ∀ p, H p = none → Q (.ref p) (upd H p (.dT (mergeT [] kvs)))) := by
  intro pins s σ H xs us Q I r q
  obtain ⟨a, ps, kvs, ex, hq, hp, q⟩ := q
  subst ex
  obtain ⟨u, eu, rx⟩ := vals1 r
  subst eu
  cases rx
  obtain ⟨its, rv, pl, hz⟩ := I.list hq
  have ei := refs_at rv
  subst ei
  rw [List.length_map] at hz
  have all : ∀ {ps : List Addr} {kvs : List (List Key × V)}, Paired (fun p (kv : List Key × V) => ∃ b, SqT X.K H p [.ref b, kv.2] ∧ H b = some (.tup (kv.1.map kV))) ps kvs →
      ∃ (pH : List (List Key × Addr × Value)), KT H kvs pH ∧ pH.length = ps.length ∧ (∀ (j : Nat) x, pH[j]? = some x → ∃ b, ps[j]? = some b ∧ s.heap.IsTuple b #[.ref x.2.1, x.2.2]) ∧ ∀ x ∈ pH, H x.2.1 = some (.tup (x.1.map kV)) := by
    intro ps kvs hp
    induction hp with
    | nil => exact ⟨[], .nil, rfl, fun j x e => by simp at e, fun x hx => by cases hx⟩
    | @cons p kv ps kvs h t ih =>
      obtain ⟨pH, h1, h2, h3, h4⟩ := ih
      obtain ⟨b, hs, hb⟩ := h
      obtain ⟨its, rv, ht, _⟩ := I.tuple hs
      obtain ⟨u, y, ei, ru, ry⟩ := vals2 rv
      subst ei
      obtain rfl : u = Value.ref b := ru
      refine ⟨(kv.1, b, y) :: pH, .cons ⟨rfl, hb, ry⟩ h1, by rw [List.length_cons, List.length_cons, h2], fun j x e => ?_, fun x hx => ?_⟩
      · cases j with
        | zero =>
          have e' : (kv.1, b, y) = x := Option.some.inj e
          subst e'
          exact ⟨p, rfl, ht⟩
        | succ j =>
          obtain ⟨b', e1, e2⟩ := h3 j x (by simpa using e)
          exact ⟨b', by simpa using e1, e2⟩
      · rcases List.mem_cons.mp hx with z | z
        · subst z; exact hb
        · exact h4 x z
  obtain ⟨pH, rel, hl, hpr, hkey⟩ := all hp
  let pv : List (Value × Value) := pH.map fun x => (.ref x.2.1, x.2.2)
  have PA := PairArg.list (prog := X.prog) (w := X.w) a (ps.map Value.ref).toArray (fun j => (ps[j]?).getD 0) pv
  have okP : PlainSeq "list" s.heap a (ps.map Value.ref).toArray ∧ PairItems s.heap (ps.map Value.ref).toArray (fun j => (ps[j]?).getD 0) pv := by
    refine ⟨?_, ?_, fun j kx vx hj => ?_⟩
    · obtain ⟨o, n, ho, hc, hd, hdat⟩ := pl
      exact ⟨o, n, ho, hc, hd, hdat⟩
    · show (ps.map Value.ref).toArray.size = (pH.map _).length
      simp [hl]
    · have hj : (pH.map fun x => ((Value.ref x.2.1 : Value), x.2.2))[j]? = some (kx, vx) := hj
      rw [List.getElem?_map] at hj
      cases e : pH[j]? with
      | none => rw [e] at hj; cases hj
      | some x =>
        rw [e] at hj
        cases hj
        obtain ⟨b, e1, e2⟩ := hpr j x e
        refine ⟨?_, ?_⟩
        · simp [e1]
        · simp only [e1, Option.getD_some]
          exact .inl e2
  have hst : KeysStay (tupleKind (mixKind X.prog X.w)) s.heap s.heap.objs.size [] pH := by
    intro h' hk x hx
    obtain ⟨o, its, n, h1, h2⟩ := key_of (P := X.prog) (w := X.w) I.hok (hkey x hx)
    exact ⟨o, its, n, hk _ _ (Nat.ne_of_lt (Heap.lt_size h1)) (by simp) h1, h2⟩
  have hpv : pv.length = pH.length := by show (pH.map _).length = _; rw [List.length_map]
  refine call_dict_pairsH (knd := tupleKind (mixKind X.prog X.w)) (ps := pH) PA (I.ok.hd hcalm) ?_ okP ⟨hpv.symm, fun i key v hr => ?_⟩ hst (by rw [hpv, hl]; exact hz) fun h' tk hd' hk => ?_
  · show X.A.units + 1 + 1 < cLine
    omega
  · have hr : (pH.map fun x => ((Value.ref x.2.1 : Value), x.2.2))[i]? = some (key, v) := hr
    rw [List.getElem?_map] at hr
    cases e : pH[i]? with
    | none => rw [e] at hr; cases hr
    | some x =>
      rw [e] at hr
      cases hr
      exact ⟨x.1, x.2.1, rfl, rfl⟩
  · have hm : (s.heap.objs.size == sysModules) = false := beq_eq_false_iff_ne.mpr (Nat.ne_of_gt I.big)
    have hlen : (mergeT [] kvs).length ≤ sizeLine := by
      refine Nat.le_trans (length_mergeT kvs []) ?_
      rw [List.length_nil, Nat.zero_add, Paired.length rel, hl]
      exact hz
    have kt : KT H (mergeT [] kvs) (storedAllH [] pH) := by
      have go : ∀ {kvs : List (List Key × V)} {pH : List (List Key × Addr × Value)}, KT H kvs pH → ∀ {acc : List (List Key × V)} {xs : List (List Key × Addr × Value)}, KT H acc xs → KT H (mergeT acc kvs) (storedAllH xs pH) := by
        intro kvs pH r
        induction r with
        | nil => intro acc xs q; exact q
        | @cons p x ps xs' h t ih =>
          intro acc xs q
          obtain ⟨h1, h2, h3⟩ := h
          refine ih ?_
          have z := q.put p.1 (b := x.2.1) h2 h3
          show KT H (putK acc p.1 p.2) (storedH xs x.1 x.2.1 x.2.2)
          rw [← h1]
          exact z
      exact go rel .nil
    have hf : H s.heap.objs.size = none := I.hok.fresh (Nat.le_refl _)
    have un : ∀ b ys, H b = some (.tup ys) → upd H s.heap.objs.size (.dT (mergeT [] kvs)) b = some (.tup ys) := fun b ys e => by rw [upd_ne (ne_of_none e hf)]; exact e
    refine ⟨.ref s.heap.objs.size, _, I.laid (a := s.heap.objs.size) (o := .dT (mergeT [] kvs)) (t' := tk) (fun b o hb => hk b o (by simp) hb) (Nat.le_refl _) ?_, rfl, q _ hf⟩
    obtain ⟨o, es, ep, h1, h2, h3, h4, _, h6⟩ := hd'
    exact ⟨hlen, hm, storedAllH [] pH, kt.keeps un, o, es, ep, h1, h2, h3, h4, h6⟩
theorem merge_k (G : Hp) : ∀ {ks : List Ky} {ds : List D} {vs : List V} {as : List Ky} {bs : List D} {us : List V}, Reps cn K G ds vs → ks.length = ds.length → ks.all kyOk = true → Reps cn K G bs us → as.length = bs.length → as.all kyOk = true →
    ∃ ws, ((ks.map kyK).zip vs).foldl (fun acc kv => putK acc kv.1 kv.2) (kvK as us) = kvK (merge ks ds as bs).1 ws ∧ Reps cn K G (merge ks ds as bs).2 ws ∧ (merge ks ds as bs).1.length = (merge ks ds as bs).2.length ∧ (merge ks ds as bs).1.all kyOk = true
  | [], ds, vs, as, bs, us, r, hl, ok, r2, hl2, ok2 => by
    cases ds with
    | cons _ _ => cases hl
    | nil => exact ⟨us, rfl, r2, hl2, ok2⟩
  | k :: ks, ds, vs, as, bs, us, r, hl, ok, r2, hl2, ok2 => by
    cases ds with
    | nil => cases hl
    | cons d ds =>
      obtain ⟨v, vr, rfl, r1, rr⟩ := r
      rw [List.all_cons, Bool.and_eq_true] at ok
      obtain ⟨us', h1, h2, h3, h4⟩ := putK_k r2 hl2 ok2 ok.1 r1
      obtain ⟨ws, q1, q2, q3, q4⟩ := merge_k G rr (by simpa using hl) ok.2 h2 h3 h4
      refine ⟨ws, ?_, q2, q3, q4⟩
      simp only [List.map_cons, List.zip_cons_cons, List.foldl_cons, merge]
      rw [h1]
      exact q1
theorem merge_t (G : Hp) : ∀ {ks : List (List Ky)} {ds : List D} {vs : List V} {as : List (List Ky)} {bs : List D} {us : List V}, Reps cn K G ds vs → ks.length = ds.length → (ks.all fun k => k.all kyOk) = true → Reps cn K G bs us → as.length = bs.length → (as.all fun k => k.all kyOk) = true →
    ∃ ws, ((ks.map fun k => k.map kyK).zip vs).foldl (fun acc kv => putK acc kv.1 kv.2) (kvT as us) = kvT (merge ks ds as bs).1 ws ∧ Reps cn K G (merge ks ds as bs).2 ws ∧ (merge ks ds as bs).1.length = (merge ks ds as bs).2.length ∧ ((merge ks ds as bs).1.all fun k => k.all kyOk) = true
  | [], ds, vs, as, bs, us, r, hl, ok, r2, hl2, ok2 => by
    cases ds with
    | cons _ _ => cases hl
    | nil => exact ⟨us, rfl, r2, hl2, ok2⟩
  | k :: ks, ds, vs, as, bs, us, r, hl, ok, r2, hl2, ok2 => by
    cases ds with
    | nil => cases hl
    | cons d ds =>
      obtain ⟨v, vr, rfl, r1, rr⟩ := r
      rw [List.all_cons, Bool.and_eq_true] at ok
      obtain ⟨us', h1, h2, h3, h4⟩ := putK_t r2 hl2 ok2 ok.1 r1
      obtain ⟨ws, q1, q2, q3, q4⟩ := merge_t G rr (by simpa using hl) ok.2 h2 h3 h4
      refine ⟨ws, ?_, q2, q3, q4⟩
      simp only [List.map_cons, List.zip_cons_cons, List.foldl_cons, merge]
      rw [h1]
      exact q1
theorem pairsT_cons {d : D} {l : List D} {p : List (List Ky) × List D} (h : pairsT (d :: l) = some p) : ∃ k k0 kr v ks vs, d = .tup [.tup (k0 :: kr), v] ∧ dKys (k0 :: kr) = some k ∧ pairsT l = some (ks, vs) ∧ p = (k :: ks, v :: vs) := by
  unfold pairsT at h
  split at h
  · rename_i h2
    cases h2
  · rename_i k0 kr v r h1
    cases h1
    split at h
    · rename_i k' ks vs e1 e2
      cases h
      exact ⟨k', k0, kr, v, ks, vs, rfl, e1, e2, rfl⟩
    · cases h
  · cases h
theorem rep_pair {x y : D} {v : V} (h : Rep cn K G (.tup [x, y]) v) : ∃ p u w, v = .ref p ∧ G p = some (.tup [u, w]) ∧ Rep cn K G x u ∧ Rep cn K G y w := by
  obtain ⟨p, vs, rfl, h1, h2⟩ := h
  obtain ⟨u, w, rfl, r1, r2⟩ := h2.inv2
  rcases h1 with h1 | ⟨z, _⟩
  · exact ⟨p, u, w, rfl, h1, r1, r2⟩
  · cases z
theorem pairsK_rep (sm : Same G H) : ∀ {l : List D} {vs : List V} {ks : List Ky} {ds : List D}, pairsK l = some (ks, ds) → Reps cn K G l vs → ∃ ps ws, vs = ps.map V.ref ∧ Reps cn K G ds ws ∧ ks.length = ds.length ∧ ks.all kyOk = true ∧ Paired (fun p (kv : Key × V) => SqT K H p [kV kv.1, kv.2]) ps ((ks.map kyK).zip ws)
  | [], vs, ks, ds, h, r => by
    have r : vs = [] := r
    subst r
    cases h
    exact ⟨[], [], rfl, rfl, rfl, rfl, .nil⟩
  | d :: l, vs, ks, ds, h, r => by
    obtain ⟨k, kd, v, ks', vs', rfl, e1, e2, e3⟩ := pairsK_cons h
    cases e3
    obtain ⟨u, us, rfl, r1, r2⟩ := r
    obtain ⟨ps, ws, rfl, h1, h2, h3, h4⟩ := pairsK_rep sm e2 r2
    obtain ⟨p, u1, w1, rfl, hp, k1, k2⟩ := rep_pair r1
    obtain ⟨rfl, ok⟩ := dKy_rep e1 k1
    refine ⟨p :: ps, w1 :: ws, rfl, .cons k2 h1, by simp [h2], by rw [List.all_cons, ok, h3]; rfl, ?_⟩
    exact .cons (.inl (.inl (sm _ _ hp))) h4
theorem pairsT_rep (sm : Same G H) : ∀ {l : List D} {vs : List V} {ks : List (List Ky)} {ds : List D}, pairsT l = some (ks, ds) → Reps cn K G l vs → ∃ ps ws, vs = ps.map V.ref ∧ Reps cn K G ds ws ∧ ks.length = ds.length ∧ (ks.all fun k => k.all kyOk) = true ∧ Paired (fun p (kv : List Key × V) => ∃ b, SqT K H p [.ref b, kv.2] ∧ H b = some (.tup (kv.1.map kV))) ps ((ks.map fun k => k.map kyK).zip ws)
  | [], vs, ks, ds, h, r => by
    have r : vs = [] := r
    subst r
    cases h
    exact ⟨[], [], rfl, rfl, rfl, rfl, .nil⟩
  | d :: l, vs, ks, ds, h, r => by
    obtain ⟨k, k0, kr, v, ks', vs', rfl, e1, e2, e3⟩ := pairsT_cons h
    cases e3
    obtain ⟨u, us, rfl, r1, r2⟩ := r
    obtain ⟨ps, ws, rfl, h1, h2, h3, h4⟩ := pairsT_rep sm e2 r2
    obtain ⟨p, u1, w1, rfl, hp, k1, k2⟩ := rep_pair r1
    obtain ⟨b, us, rfl, hb, rb⟩ := k1
    have hb : G b = some (.tup us) := by
      rcases hb with hb | ⟨z, _⟩
      · exact hb
      · cases z
    obtain ⟨rfl, ok⟩ := dKys_rep e1 rb
    refine ⟨p :: ps, w1 :: ws, rfl, .cons k2 h1, by simp [h2], by rw [List.all_cons, ok, h3]; rfl, ?_⟩
    exact .cons ⟨b, .inl (.inl (sm _ _ hp)), sm _ _ hb⟩ h4
theorem cp_dict (C : Ctx g sc N k W X) : CP g X (.type "dict") .dict := by
  intro ds h
  match ds, h with
  | [d], h =>
    cases d <;> (try exact absurd rfl h)
    rename_i l
    have e0 : pr .dict [.lst l] = match pairsK l with | some (ks, vs) => .own (.dk (merge ks vs [] []).1 (merge ks vs [] []).2) | none => .no := rfl
    cases ep : pairsK l with
    | none => rw [e0, ep] at h; exact absurd rfl h
    | some kv =>
      obtain ⟨ks, dv⟩ := kv
      refine ⟨_, call_dictP C.calm, fun G H vs Q e r kk => ?_⟩
      rw [e0, ep] at kk
      obtain ⟨v, rfl, rv⟩ := r.inv1
      obtain ⟨p, us, rfl, h1, h2⟩ := rv
      obtain ⟨ps, ws, rfl, q1, q2, q3, q4⟩ := pairsK_rep (H := H) e ep h2
      refine ⟨p, ps, _, rfl, .inl (rd_same e h1), by rw [C.hK]; exact q4, fun q n => ?_⟩
      obtain ⟨zs, m1, m2, m3, m4⟩ := merge_k G q1 q2 q3 (as := []) (bs := []) (us := []) rfl rfl rfl
      have m1 : mergeK [] ((ks.map kyK).zip ws) = kvK (merge ks dv [] []).1 zs := m1
      rw [m1]
      exact kk _ G _ (.newH e n) ⟨q, rfl, ⟨Same.free e n, zs, upd_same, m2, m3, m4⟩, n⟩
  | [], h => exact absurd rfl h
  | d :: _ :: _, h => cases d <;> exact absurd rfl h
theorem cp_dictT (C : Ctx g sc N k W X) : CP g X (.type "dict") .dictT := by
  intro ds h
  match ds, h with
  | [d], h =>
    cases d <;> (try exact absurd rfl h)
    rename_i l
    have e0 : pr .dictT [.lst l] = match pairsT l with | some (ks, vs) => .own (.dt (merge ks vs [] []).1 (merge ks vs [] []).2) | none => .no := rfl
    cases ep : pairsT l with
    | none => rw [e0, ep] at h; exact absurd rfl h
    | some kv =>
      obtain ⟨ks, dv⟩ := kv
      refine ⟨_, call_dictT C.calm C.u64, fun G H vs Q e r kk => ?_⟩
      rw [e0, ep] at kk
      obtain ⟨v, rfl, rv⟩ := r.inv1
      obtain ⟨p, us, rfl, h1, h2⟩ := rv
      obtain ⟨ps, ws, rfl, q1, q2, q3, q4⟩ := pairsT_rep (H := H) e ep h2
      refine ⟨p, ps, _, rfl, .inl (rd_same e h1), by rw [C.hK]; exact q4, fun q n => ?_⟩
      obtain ⟨zs, m1, m2, m3, m4⟩ := merge_t G q1 q2 q3 (as := []) (bs := []) (us := []) rfl rfl rfl
      have m1 : mergeT [] ((ks.map fun k => k.map kyK).zip ws) = kvT (merge ks dv [] []).1 zs := m1
      rw [m1]
      exact kk _ G _ (.newH e n) ⟨q, rfl, ⟨Same.free e n, zs, upd_same, m2, m3, m4⟩, n⟩
  | [], h => exact absurd rfl h
  | d :: _ :: _, h => cases d <;> exact absurd rfl h
/-! ### starred displays -/
theorem lstS_ok {p : Pos} (C : Ctx g sc N k W X) (ha : EvOk g W X B pn a (evalE T ea)) (hr : EaOk g W X B pn as (evalDs T es)) : EvOk g W X B pn (.List (.Starred a p :: as) pos) (evalE T (.lstS ea es)) := by
  intro ρ σ G H E
  have q := ha.d ρ σ G H E
  simp only [evalE]
  simp only at q
  have rule := pe_lst (pos := pos) (StX.pa_star (p := p) (pe_w X a) (pa_w X as) rfl)
  cases e : toD (evalE T ea ρ) with
  | stk => trivial
  | exc t fs ds =>
    rw [e] at q
    exact fun w Q => we_of rule (q w _)
  | ok p =>
    obtain ⟨x, ρ1⟩ := p
    rw [e] at q
    simp only [R.bind]
    cases el : seqL x with
    | none => trivial
    | some l =>
      have sq : ∀ {G1 H1 : Hp} {v : V}, Same G1 H1 → Rep g.c g.K G1 x v → ∃ p xs, v = V.ref p ∧ (SqT X.K H1 p xs ∨ SqL X.K H1 p xs) ∧ Reps g.c g.K G1 l xs := by
        intro G1 H1 v sm r
        cases x with
        | lst l' =>
          cases el
          obtain ⟨ad, vs, rfl, h1, h2⟩ := r
          exact ⟨ad, vs, rfl, .inr (.inl (rd_same sm h1)), h2⟩
        | tup l' =>
          cases el
          obtain ⟨ad, vs, rfl, h1, h2⟩ := r
          exact ⟨ad, vs, rfl, .inl (by rw [C.hK]; exact sqT_same sm (Rep.sqT h1 h2)), h2⟩
        | _ => cases el
      simp only
      cases e2 : evalDs T es ρ1 with
      | stk => trivial
      | exc t fs ds =>
        intro w Q
        refine we_of rule (q _ fun v G1 H1 gr E1 le r => ?_)
        obtain ⟨p, xs, h1, h2, h3⟩ := sq E1.sub r
        refine ⟨p, xs, h1, h2, ?_⟩
        have q2 := hr ρ1 σ G1 H1 E1
        rw [e2] at q2
        exact q2 (fun d H' x => w d H' (x.after gr fun a z => .inl (le.ownA z))) _
      | ok pp =>
        obtain ⟨ds, ρ2⟩ := pp
        simp only
        by_cases hb : l.length + ds.length ≤ big
        · rw [if_pos hb]
          intro Q kk
          refine we_of rule (q _ fun v G1 H1 gr E1 le r => ?_)
          obtain ⟨p, xs, h1, h2, h3⟩ := sq E1.sub r
          refine ⟨p, xs, h1, h2, ?_⟩
          have q2 := hr ρ1 σ G1 H1 E1
          rw [e2] at q2
          refine q2 _ fun vs G2 H2 gr2 E2 le2 rr => ⟨?_, fun pp n => ?_⟩
          · rw [List.length_append, h3.length, rr.length, ← bigL]; exact hb
          · exact (fin_op (s := .own (.lst (l ++ ds))) (gr.trans gr2 fun a z => .inl (le.ownA z)) E2 (le.trans le2) kk).newL E2.sub ((h3.mono gr2.gg).app rr) n
        · rw [if_neg hb]
          trivial
end
end Mr

/-! f-strings. -/
namespace Mr
open PySem L2
section
variable {g : Gs} {W : WX} {X : Cx} {B : Addr → Prop} {pn : List Nat} {a b c node o : Expr} {as : List Expr} {sc : Scope} {N : List Str} {k kk : Nat} {pos p2 apos : Pos} {T : Tb} {ea eb ec eo : E} {es : List E} {cn : Cn} {K : PySem.W.Frag} {G H : Hp} {ρ : Rho} {σ : L2.St}
/-- the parts of an f-string: texts, or values -/
inductive FParts (g : Gs) (W : WX) (X : Cx) (B : Addr → Prop) (pn : List Nat) (T : Tb) : List Expr → List E → Prop where
  | nil : FParts g W X B pn T [] []
  | txt {x : Tx} {j : Nat} {p : Pos} {as : List Expr} {es : List E} : txOk x = true → FParts g W X B pn T as es → FParts g W X B pn T (.Constant (.str (txS x)) j p :: as) (.cst (.str x) :: es)
  | fmt {a : Expr} {e : E} {p : Pos} {as : List Expr} {es : List E} : EvOk g W X B pn a (evalE T e) → FParts g W X B pn T as es → FParts g W X B pn T (.FormattedValue a (-1) none p :: as) (e :: es)
def fTx (d : D) : Option Tx := match strD d with | .val (.str x) => some x | _ => none
def rF : Expr → TE → TE
  | .FormattedValue _ _ _ _, t => tFmt t
  | _, t => t
/-- the reading of each part -/
def fTs (X : Cx) : List Expr → List TE
  | [] => []
  | .FormattedValue a _ _ _ :: r => tFmt (WE X a) :: fTs X r
  | e :: r => WE X e :: fTs X r
theorem FParts.pj (h : FParts g W X B pn T as es) : PJ X as (fTs X as) := by
  induction h with
  | nil => exact .nil
  | txt _ _ ih => exact .cons (pe_w X _) ih
  | fmt _ _ ih => exact .cons (pe_fmt (pe_w X _)) ih
theorem fTx_str {x : Tx} : fTx (.str x) = some x := rfl
theorem mapM_cons {d : D} {ds : List D} {xs : List Tx} (h : (d :: ds).mapM fTx = some xs) : ∃ x r, fTx d = some x ∧ ds.mapM fTx = some r ∧ xs = x :: r := by
  rw [List.mapM_cons] at h
  cases e : fTx d with
  | none => rw [e] at h; cases h
  | some x =>
    rw [e] at h
    cases e2 : ds.mapM fTx with
    | none => rw [e2] at h; cases h
    | some r =>
      rw [e2] at h
      cases h
      exact ⟨x, r, rfl, rfl, rfl⟩
theorem fparts_run (h : FParts g W X B pn T as es) : ∀ {ρ : Rho} {G H : Hp} (acc : Tx), EnvR g.c g.K B pn G H ρ σ → txOk acc = true →
    match evalDs T es ρ with
    | .stk => True
    | .ok (ds, ρ') => ∀ xs, ds.mapM fTx = some xs → (acc ++ xs.flatten).length ≤ big → ∀ Q : Str → Hp → Prop, (∀ G' H', Grow (ownA ρ σ) G H G' H' → EnvR g.c g.K B pn G' H' ρ' σ → OwnLe ρ' ρ → txOk (acc ++ xs.flatten) = true → Q (txS (acc ++ xs.flatten)) H') → tJs (fTs X as) (txS acc) σ H Q
    | .exc t fs ds => True := by
  induction h with
  | nil =>
    intro ρ G H acc E ta
    simp only [evalDs]
    intro xs hx hl Q kk
    cases hx
    have := kk G H (.refl E.sub) E (.refl ρ) (by simpa using ta)
    show Q (txS acc) H
    simpa using this
  | @txt x j p as es tx hr ih =>
    intro ρ G H acc E ta
    simp only [evalDs, evalE, toD, R.bind]
    have q2 := ih (acc ++ x) E (txOk_app ta tx)
    cases e2 : evalDs T es ρ with
    | stk => trivial
    | exc _ _ _ => trivial
    | ok pp =>
      obtain ⟨ds, ρ2⟩ := pp
      rw [e2] at q2
      simp only
      intro xs hx hl Q kk
      obtain ⟨x', r, h1, h2, rfl⟩ := mapM_cons hx
      cases h1
      have fl : acc ++ (x :: r).flatten = acc ++ x ++ r.flatten := by simp
      rw [fl] at hl
      refine we_of pe_str ⟨txS x, rfl, ?_, ?_⟩
      · rw [txS_app, txS_len, ← bigL]
        simp at hl ⊢
        omega
      · rw [txS_app]
        refine q2 r h2 hl Q fun G' H' gr E' le t => ?_
        rw [← fl]
        exact kk G' H' gr E' le (by rw [fl]; exact t)
  | @fmt a e p as es ha hr ih =>
    intro ρ G H acc E ta
    have q := ha.d ρ σ G H E
    simp only [evalDs]
    simp only at q
    cases e1 : toD (evalE T e ρ) with
    | stk => trivial
    | exc t fs ds => trivial
    | ok p =>
      obtain ⟨d, ρ1⟩ := p
      rw [e1] at q
      simp only [R.bind]
      cases e2 : evalDs T es ρ1 with
      | stk => trivial
      | exc t fs ds => trivial
      | ok pp =>
        obtain ⟨ds, ρ2⟩ := pp
        simp only
        intro xs hx hl Q kk
        obtain ⟨x', r, h1, h2, rfl⟩ := mapM_cons hx
        have fl : acc ++ (x' :: r).flatten = acc ++ x' ++ r.flatten := by simp
        rw [fl] at hl
        have hl1 : (acc ++ x').length ≤ big := by simp at hl ⊢; omega
        show tFmt (WE X a) σ H _
        refine q _ fun v G1 H1 gr E1 le rv => ?_
        have fin : txOk x' = true → ∃ y : Str, V.str (txS x') = V.str y ∧ (txS acc ++ y).length ≤ sizeLine ∧ tJs (fTs X as) (txS acc ++ y) σ H1 Q := fun tx => by
          refine ⟨txS x', rfl, by rw [txS_app, txS_len, ← bigL]; exact hl1, ?_⟩
          rw [txS_app]
          have q2 := ih (acc ++ x') E1 (txOk_app ta tx)
          rw [e2] at q2
          refine q2 r h2 hl Q fun G' H' gr2 E' le2 t => ?_
          rw [← fl]
          exact kk G' H' (gr.trans gr2 fun a z => .inl (le.ownA z)) E' (le.trans le2) (by rw [fl]; exact t)
        cases d with
        | str x =>
          cases h1
          obtain ⟨rfl, tx⟩ := rv
          exact .inl ⟨_, rfl, by rw [txS_len, ← bigL]; simp at hl1; omega, fin tx⟩
        | int i =>
          have h1 : (match ifB (decide (i.natAbs < 2 ^ 1900)) (.val (.str (intTx i))) with | .val (.str x) => some x | _ => none) = some x' := h1
          by_cases hi : i.natAbs < 2 ^ 1900
          · have hd : decide (i.natAbs < 2 ^ 1900) = true := decide_eq_true hi
            rw [hd] at h1
            cases h1
            cases rv
            refine .inr ⟨i, rfl, log_1900 hi, ?_⟩
            have e0 : (PySem.Str.ofString (toString i)) = txS (intTx i) := intTx_S i
            have := fin (txOk_int i)
            rw [← e0] at this
            exact this
          · have hd : decide (i.natAbs < 2 ^ 1900) = false := decide_eq_false hi
            rw [hd] at h1
            cases h1
        | _ => cases h1
theorem fmt_ok {v1 v2 : Expr} {rest : List Expr} (h : FParts g W X B pn T (v1 :: v2 :: rest) es) : EvOk g W X B pn (.JoinedStr (v1 :: v2 :: rest) pos) (evalE T (.fst es)) := by
  intro ρ σ G H E
  have q := fparts_run h (σ := σ) [] E rfl
  simp only [evalE]
  cases e : evalDs T es ρ with
  | stk => trivial
  | exc _ _ _ => trivial
  | ok p =>
    obtain ⟨ds, ρ1⟩ := p
    rw [e] at q
    show match slR (pr .fmt ds) ρ1 with | .stk => True | .ok (s, ρ') => _ | .exc t fs ds => _
    have e0 : pr .fmt ds = match ds.mapM fTx with | some xs => ifB (decide (xs.flatten.length ≤ big)) (.val (.str xs.flatten)) | none => .no := rfl
    rw [e0]
    cases em : ds.mapM fTx with
    | none => trivial
    | some xs =>
      simp only
      by_cases hb : xs.flatten.length ≤ big
      · have hd : decide (xs.flatten.length ≤ big) = true := decide_eq_true hb
        rw [hd]
        intro Q kk
        refine we_of (pe_joined h.pj) (q xs em (by simpa using hb) _ fun G' H' gr E' le t => ?_)
        exact kk _ G' H' gr E' le ⟨by simp, by simpa using t⟩
      · have hd : decide (xs.flatten.length ≤ big) = false := decide_eq_false hb
        rw [hd]
        trivial
end
end Mr

/-! Statements: what they leave; assignments. -/
namespace Mr
open PySem L2
/-- behind a statement -/
structure PostS (g : Gs) (B : Addr → Prop) (pn st : List Nat) (ρ : Rho) (σ : L2.St) (G H : Hp) (ρ' : Rho) (σ' : L2.St) (G' H' : Hp) : Prop where
  gr : Grow (ownA ρ σ) G H G' H'
  env : EnvR g.c g.K B pn G' H' ρ' σ'
  own : ∀ a, ownA ρ' σ' a → ownA ρ σ a ∨ H a = none
  pin : ∀ i, i ∈ pn → σ'[i]? = σ[i]?
  st : ∀ i : Nat, i ∉ st → σ'[i]? = σ[i]?
  len : σ'.length = σ.length
/-- what a return hands out -/
def RetR (c : Cn) (K : PySem.W.Frag) (B : Addr → Prop) (G H : Hp) (s : Sl) (v : V) : Prop := match s with
  | .no => False
  | .val d => Rep c K G d v
  | .own d => ∃ a, v = .ref a ∧ OwnAt c K G H d a ∧ ¬ B a
def BIn (B : Addr → Prop) (H : Hp) : Prop := ∀ a, B a → ∃ o, H a = some o
/-- an exception leaves a statement -/
def ExcS (g : Gs) (W : WX) (st : List Nat) (ρ : Rho) (σ : L2.St) (G H : Hp) (t : Nat) (fs : List Nat) (ds : List D) : Prop :=
  ∀ d σ' H', ExcR g (ownA ρ σ) G H t fs ds d H' → σ'.length = σ.length → (∀ i : Nat, i ∉ st → σ'[i]? = σ[i]?) → W (.ref (g.c.cA t)) d σ' H'
/-- a statement's (or a body's) reading T means what the small language says -/
def SOk (g : Gs) (W : WX) (B : Addr → Prop) (pn st : List Nat) (t : TS) (f : Rho → Out) : Prop := ∀ ρ σ G H, EnvR g.c g.K B pn G H ρ σ → BIn B H →
  match f ρ with
  | .stk => True
  | .next ρ' => ∀ D : Ends, (∀ σ' G' H', PostS g B pn st ρ σ G H ρ' σ' G' H' → D.nx σ' H') → t D σ H
  | .brk ρ' => ∀ D : Ends, (∀ σ' G' H', PostS g B pn st ρ σ G H ρ' σ' G' H' → D.bk σ' H') → t D σ H
  | .cnt ρ' => ∀ D : Ends, (∀ σ' G' H', PostS g B pn st ρ σ G H ρ' σ' G' H' → D.ct σ' H') → t D σ H
  | .ret s ρ' => ∀ D : Ends, (∀ v σ' G' H', PostS g B pn st ρ σ G H ρ' σ' G' H' → RetR g.c g.K B G' H' s v → D.rt v H') → t D σ H
  | .exc c fs ds => ExcS g W st ρ σ G H c fs ds → ∀ D : Ends, t D σ H
section
variable {g : Gs} {W : WX} {X : Cx} {B : Addr → Prop} {pn st st2 : List Nat} {a b c node o tg : Expr} {as : List Expr} {sc scope : Scope} {N : List Str} {k kk : Nat} {pos p2 apos : Pos} {T : Tb} {ea eb ec eo e : E} {es : List E} {cn : Cn} {K : PySem.W.Frag} {G H : Hp} {ρ : Rho} {σ : L2.St} {stn : Str → Bool} {tgt : Tg} {fuel : Nat} {stm : Stmt}
theorem PostS.refl (E : EnvR g.c g.K B pn G H ρ σ) : PostS g B pn st ρ σ G H ρ σ G H := ⟨.refl E.sub, E, fun _ h => .inl h, fun _ _ => rfl, fun _ _ => rfl, rfl⟩
theorem PostS.mono {ρ' : Rho} {σ' : L2.St} {G' H' : Hp} (p : PostS g B pn st ρ σ G H ρ' σ' G' H') (h : ∀ i, i ∈ st → i ∈ st2) : PostS g B pn st2 ρ σ G H ρ' σ' G' H' := ⟨p.gr, p.env, p.own, p.pin, fun i hi => p.st i fun z => hi (h i z), p.len⟩
theorem PostS.trans {ρ1 ρ2 : Rho} {σ1 σ2 : L2.St} {G1 H1 G2 H2 : Hp} (p : PostS g B pn st ρ σ G H ρ1 σ1 G1 H1) (q : PostS g B pn st ρ1 σ1 G1 H1 ρ2 σ2 G2 H2) : PostS g B pn st ρ σ G H ρ2 σ2 G2 H2 :=
  ⟨p.gr.trans q.gr p.own, q.env, fun a h => by
    rcases q.own a h with z | z
    · exact p.own a z
    · exact .inr (p.gr.free z), fun i h => (q.pin i h).trans (p.pin i h), fun i h => (q.st i h).trans (p.st i h), q.len.trans p.len⟩
theorem BIn.grow {own : Addr → Prop} {G' H' : Hp} (h : BIn B H) (gr : Grow own G H G' H') : BIn B H' := fun a z => by
  obtain ⟨o, q⟩ := h a z
  exact gr.there a o q
theorem ExcS.after {ρ1 : Rho} {σ1 : L2.St} {G1 H1 : Hp} {t : Nat} {fs : List Nat} {ds : List D} (p : PostS g B pn st ρ σ G H ρ1 σ1 G1 H1) (h : ExcS g W st ρ σ G H t fs ds) : ExcS g W st ρ1 σ1 G1 H1 t fs ds :=
  fun d σ' H' x hl hs => h d σ' H' (x.after p.gr p.own) (hl.trans p.len) fun i hi => (hs i hi).trans (p.st i hi)
theorem ExcS.mono {t : Nat} {fs : List Nat} {ds : List D} (h : ExcS g W st2 ρ σ G H t fs ds) (hs : ∀ i, i ∈ st → i ∈ st2) : ExcS g W st ρ σ G H t fs ds := fun d σ' H' x hl hq => h d σ' H' x hl fun i hi => hq i fun z => hi (hs i z)
theorem ExcS.ev {t : Nat} {fs : List Nat} {ds : List D} (h : ExcS g W st ρ σ G H t fs ds) : ∀ d H', ExcR g (ownA ρ σ) G H t fs ds d H' → W (.ref (g.c.cA t)) d σ H' := fun d H' x => h d σ H' x rfl fun _ _ => rfl
/-- behind an expression -/
theorem PostS.ev {ρ' : Rho} {G' H' : Hp} (gr : Grow (ownA ρ σ) G H G' H') (E : EnvR g.c g.K B pn G' H' ρ' σ) (le : OwnLe ρ' ρ) : PostS g B pn st ρ σ G H ρ' σ G' H' := ⟨gr, E, fun _ h => .inl (le.ownA h), fun _ _ => rfl, fun _ _ => rfl, rfl⟩
theorem SOk.mono {t : TS} {f : Rho → Out} (h : SOk g W B pn st t f) (hs : ∀ i, i ∈ st → i ∈ st2) : SOk g W B pn st2 t f := by
  intro ρ σ G H E hB
  have q := h ρ σ G H E hB
  cases e : f ρ with
  | stk => trivial
  | next ρ' => rw [e] at q; exact fun D kk => q D fun σ' G' H' p => kk σ' G' H' (p.mono hs)
  | brk ρ' => rw [e] at q; exact fun D kk => q D fun σ' G' H' p => kk σ' G' H' (p.mono hs)
  | cnt ρ' => rw [e] at q; exact fun D kk => q D fun σ' G' H' p => kk σ' G' H' (p.mono hs)
  | ret s ρ' => rw [e] at q; exact fun D kk => q D fun v σ' G' H' p => kk v σ' G' H' (p.mono hs)
  | exc c fs ds => rw [e] at q; exact fun w D => q (w.mono hs) D
theorem SOk.to {t : TS} {f f' : Rho → Out} (h : SOk g W B pn st t f) (e : ∀ ρ, f' ρ = f ρ) : SOk g W B pn st t f' := by
  have : f' = f := funext e
  rw [this]
  exact h
/-- one behind the other -/
theorem SOk.seq {t u : TS} {f f2 : Rho → Out} (h : SOk g W B pn st t f) (h2 : SOk g W B pn st u f2) : SOk g W B pn st (tSeq t u) fun ρ => (f ρ).then_ f2 := by
  intro ρ σ G H E hB
  have q := h ρ σ G H E hB
  simp only
  cases e : f ρ with
  | stk => trivial
  | brk ρ' => rw [e] at q; exact fun D kk => q _ kk
  | cnt ρ' => rw [e] at q; exact fun D kk => q _ kk
  | ret s ρ' => rw [e] at q; exact fun D kk => q _ kk
  | exc c fs ds => rw [e] at q; exact fun w D => q w _
  | next ρ1 =>
    rw [e] at q
    show match f2 ρ1 with | .stk => True | .next ρ' => _ | .brk ρ' => _ | .cnt ρ' => _ | .ret s ρ' => _ | .exc c fs ds => _
    cases e2 : f2 ρ1 with
    | stk => trivial
    | next ρ' =>
      refine fun D kk => q _ fun σ' G' H' p => ?_
      have z := h2 ρ1 σ' G' H' p.env (hB.grow p.gr)
      rw [e2] at z
      exact z D fun σ2 G2 H2 p2 => kk σ2 G2 H2 (p.trans p2)
    | brk ρ' =>
      refine fun D kk => q _ fun σ' G' H' p => ?_
      have z := h2 ρ1 σ' G' H' p.env (hB.grow p.gr)
      rw [e2] at z
      exact z D fun σ2 G2 H2 p2 => kk σ2 G2 H2 (p.trans p2)
    | cnt ρ' =>
      refine fun D kk => q _ fun σ' G' H' p => ?_
      have z := h2 ρ1 σ' G' H' p.env (hB.grow p.gr)
      rw [e2] at z
      exact z D fun σ2 G2 H2 p2 => kk σ2 G2 H2 (p.trans p2)
    | ret s ρ' =>
      refine fun D kk => q _ fun σ' G' H' p => ?_
      have z := h2 ρ1 σ' G' H' p.env (hB.grow p.gr)
      rw [e2] at z
      exact z D fun v σ2 G2 H2 p2 => kk v σ2 G2 H2 (p.trans p2)
    | exc c fs ds =>
      refine fun w D => q _ fun σ' G' H' p => ?_
      have z := h2 ρ1 σ' G' H' p.env (hB.grow p.gr)
      rw [e2] at z
      exact z (w.after p) D
theorem SOk.nil : SOk g W B pn st tNext fun ρ => .next ρ := fun ρ σ G H E hB D kk => kk σ G H (.refl E)
theorem SOk.ws {t : TS} {f : Rho → Out} (p : PS X stm t) (h : SOk g W B pn st t f) : SOk g W B pn st (WS X stm) f := by
  intro ρ σ G H E hB
  have q := h ρ σ G H E hB
  cases e : f ρ with
  | stk => trivial
  | next ρ' => rw [e] at q; exact fun D kk => ws_of p (q D kk)
  | brk ρ' => rw [e] at q; exact fun D kk => ws_of p (q D kk)
  | cnt ρ' => rw [e] at q; exact fun D kk => ws_of p (q D kk)
  | ret s ρ' => rw [e] at q; exact fun D kk => ws_of p (q D kk)
  | exc c fs ds => rw [e] at q; exact fun w D => ws_of p (q w D)
theorem SOk.wss {sts : List Stmt} {t : TS} {f : Rho → Out} (p : PSs X sts t) (h : SOk g W B pn st t f) : SOk g W B pn st (WSs X sts) f := by
  intro ρ σ G H E hB
  have q := h ρ σ G H E hB
  cases e : f ρ with
  | stk => trivial
  | next ρ' => rw [e] at q; exact fun D kk => wss_of p (q D kk)
  | brk ρ' => rw [e] at q; exact fun D kk => wss_of p (q D kk)
  | cnt ρ' => rw [e] at q; exact fun D kk => wss_of p (q D kk)
  | ret s ρ' => rw [e] at q; exact fun D kk => wss_of p (q D kk)
  | exc c fs ds => rw [e] at q; exact fun w D => wss_of p (q w D)
/-! ### assignment -/
theorem EnvR.setOwn {i : Nat} {d : D} {ad : Addr} (E : EnvR cn K B pn G H ρ σ) (ow : OwnAt cn K G H d ad) (nb : i ∈ pn ∨ ¬ B ad) (nf : ¬ ownA ρ σ ad) : EnvR cn K B pn G H (ρ.set i (.own d)) (σ.set i (some (.ref ad))) := by
  have back : ∀ {j : Nat} {e : D}, i ≠ j → (ρ.set i (.own d))[j]? = some (Sl.own e) → ρ[j]? = some (Sl.own e) ∧ (σ.set i (some (.ref ad)))[j]? = σ[j]? := fun {j e} hj h => by
    rw [List.getElem?_set_ne hj] at h
    exact ⟨h, List.getElem?_set_ne hj⟩
  have self : ∀ {e : D}, (ρ.set i (.own d))[i]? = some (Sl.own e) → e = d ∧ (σ.set i (some (.ref ad)))[i]? = some (some (.ref ad)) := fun {e} h => by
    by_cases hl : i < ρ.length
    · rw [List.getElem?_set_self hl] at h
      cases h
      exact ⟨rfl, List.getElem?_set_self (by rw [← E.len]; exact hl)⟩
    · rw [List.getElem?_eq_none (by simpa using hl)] at h
      cases h
  refine ⟨E.sub, by rw [List.length_set, List.length_set]; exact E.len, fun j e h => ?_, fun j e h => ?_, fun j l e f b h1 h2 s1 s2 => ?_⟩
  · by_cases hj : i = j
    · subst hj
      by_cases hl : i < ρ.length
      · rw [List.getElem?_set_self hl] at h
        cases h
      · rw [List.getElem?_eq_none (by simpa using hl)] at h
        cases h
    · rw [List.getElem?_set_ne hj] at h ⊢
      exact E.val j e h
  · by_cases hj : i = j
    · subst hj
      obtain ⟨rfl, h2⟩ := self h
      exact ⟨ad, h2, ow, nb⟩
    · obtain ⟨h1, h2⟩ := back hj h
      rw [h2]
      exact E.own j e h1
  · by_cases hj : i = j
    · subst hj
      by_cases hl : i = l
      · exact hl
      · obtain ⟨q1, q2⟩ := back hl h2
        obtain ⟨_, z⟩ := self h1
        rw [z] at s1
        cases s1
        rw [q2] at s2
        exact absurd ⟨l, f, q1, s2⟩ nf
    · obtain ⟨q1, q2⟩ := back hj h1
      by_cases hl : i = l
      · subst hl
        obtain ⟨_, z⟩ := self h2
        rw [z] at s2
        cases s2
        rw [q2] at s1
        exact absurd ⟨j, e, q1, s1⟩ nf
      · obtain ⟨q3, q4⟩ := back hl h2
        rw [q2] at s1
        rw [q4] at s2
        exact E.inj j l e f b q1 q3 s1 s2
/-- a reading of an expression, as lc_run and EvOk have it -/
def TeOk (g : Gs) (W : WX) (B : Addr → Prop) (pn : List Nat) (te : TE) (f : Rho → R (Sl × Rho)) : Prop := ∀ ρ σ G H, EnvR g.c g.K B pn G H ρ σ →
  match f ρ with
  | .stk => True
  | .ok (s, ρ') => ∀ Q : VK, (∀ v G' H', Grow (ownA ρ σ) G H G' H' → EnvR g.c g.K B pn G' H' ρ' σ → OwnLe ρ' ρ → ResR g.c g.K H G' H' s v → Q v H') → te σ H Q
  | .exc t fs ds => (∀ d H', ExcR g (ownA ρ σ) G H t fs ds d H' → W (.ref (g.c.cA t)) d σ H') → ∀ Q : VK, te σ H Q
theorem EvOk.te (h : EvOk g W X B pn a (evalE T e)) : TeOk g W B pn (WE X a) (evalE T e) := h
theorem free_one {i : Nat} (h : free pn (.one i) = true) : i ∉ pn := by simpa [free] using h
theorem free_tup {is : List Nat} (h : free pn (.tup is) = true) : ∀ i, i ∈ is → i ∉ pn := by
  intro i hi
  have := List.all_eq_true.mp h i hi
  simpa using this
/-- name = e -/
theorem asg1_ok {te : TE} {i : Nat} (h : TeOk g W B pn te (evalE T e)) : SOk g W B pn [i] (tAsg te (gName i)) (run T fuel pn (.asg (.one i) e)) := by
  intro ρ σ G H E hB
  simp only [run]
  by_cases hf : free pn (.one i) = true
  · rw [if_pos hf]
    have ni := free_one hf
    have q := h ρ σ G H E
    cases e1 : evalE T e ρ with
    | stk => trivial
    | exc c fs ds =>
      rw [e1] at q
      exact fun w D => q w.ev _
    | ok p =>
      obtain ⟨s, ρ1⟩ := p
      rw [e1] at q
      simp only [Out.of]
      have same : ∀ j : Nat, j ∉ [i] → ∀ v : V, (σ.set i (some v))[j]? = σ[j]? := fun j hj v => List.getElem?_set_ne fun z => hj (by simp [z])
      cases s with
      | no => exact fun D kk => q _ fun v G' H' gr E' le r => r.elim
      | val d =>
        intro D kk
        refine q _ fun v G' H' gr E' le r => kk _ G' H' ⟨gr, E'.setV r, fun a z => ?_, fun j hj => List.getElem?_set_ne fun z => ni (by rw [z]; exact hj), fun j hj => same j hj v, List.length_set⟩
        obtain ⟨j, e', h1, h2⟩ := z
        obtain ⟨h3, h4⟩ := set_own h1
        rw [List.getElem?_set_ne fun z => h4 z.symm] at h2
        exact .inl (le.ownA ⟨j, e', h3, h2⟩)
      | own d =>
        intro D kk
        refine q _ fun v G' H' gr E' le r => ?_
        obtain ⟨ad, rfl, ow, nH⟩ := r
        have nB : ¬ B ad := fun z => by
          obtain ⟨o, q⟩ := hB ad z
          rw [nH] at q; cases q
        have nf : ¬ ownA ρ1 σ ad := fun z => by
          obtain ⟨o, q⟩ := own_there E (le.ownA z)
          rw [nH] at q; cases q
        refine kk _ G' H' ⟨gr, E'.setOwn ow (.inr nB) nf, fun a z => ?_, fun j hj => List.getElem?_set_ne fun z => ni (by rw [z]; exact hj), fun j hj => same j hj _, List.length_set⟩
        obtain ⟨j, e', h1, h2⟩ := z
        by_cases hj : i = j
        · subst hj
          by_cases hl : i < σ.length
          · rw [List.getElem?_set_self hl] at h2
            cases h2
            exact .inr nH
          · rw [List.getElem?_eq_none (by simpa using hl)] at h2
            cases h2
        · rw [List.getElem?_set_ne hj] at h1 h2
          exact .inl (le.ownA ⟨j, e', h1, h2⟩)
  · rw [if_neg hf]
    trivial
theorem bindN_slots : ∀ {is : List Nat} {ds : List D} {ρ ρ' : Rho} {j : Nat} {e : D}, bindN is ds ρ = some ρ' → j ∈ is → ρ'[j]? ≠ some (.own e)
  | [], _, ρ, ρ', j, e, h, hj => by cases hj
  | _ :: _, [], ρ, ρ', j, e, h, _ => by cases h
  | i :: is, d :: ds, ρ, ρ', j, e, h, hj => by
    simp only [bindN] at h
    by_cases hi : j ∈ is
    · exact bindN_slots h hi
    · intro z
      obtain ⟨e', q⟩ := bindN_own h j e z
      rcases List.mem_cons.mp hj with w | w
      · exact (set_own q).2 w
      · exact hi w
theorem bindT_slots {d : D} {ρ' : Rho} {j : Nat} {e : D} (h : bindT tgt d ρ = some ρ') (hj : j ∈ tgt.slots) : ρ'[j]? ≠ some (.own e) := by
  cases tgt with
  | one i =>
    cases h
    intro z
    exact (set_own z).2 (by simpa [Tg.slots] using hj)
  | tup is =>
    cases d with
    | tup ds => exact bindN_slots h hj
    | lst ds => exact bindN_slots h hj
    | _ => cases h
/-- (a, b, ..) = e -/
theorem asgT_ok {is : List Nat} (C : Ctx g sc N k W X) (so : StOk X stn) (htg : tgOk N stn tg (.tup is) = true) (h : EvOk g W X B pn a (evalE T e)) : SOk g W B pn is (tAsg (WE X a) (WG X tg)) (run T fuel pn (.asg (.tup is) e)) := by
  intro ρ σ G H E hB
  simp only [run]
  by_cases hf : free pn (.tup is) = true
  · rw [if_pos hf]
    have ni := free_tup hf
    have q := h.d ρ σ G H E
    simp only at q
    have main : ∀ {d : D} {ρ1 : Rho}, toD (evalE T e ρ) = .ok (d, ρ1) →
        match (match bindT (.tup is) d ρ1 with | some ρ2 => Out.next ρ2 | none => .stk) with
        | .next ρ' => ∀ D : Ends, (∀ σ' G' H', PostS g B pn is ρ σ G H ρ' σ' G' H' → D.nx σ' H') → tAsg (WE X a) (WG X tg) D σ H
        | _ => True := fun {d ρ1} ed => by
      rw [ed] at q
      cases hb : bindT (.tup is) d ρ1 with
      | none => trivial
      | some ρ2 =>
        intro D kk
        refine q _ fun v G' H' gr E' le r => bind_ok C so htg E' r hb fun σ' E2 hs => kk σ' G' H' ⟨gr, E2, fun a z => ?_, fun j hj => hs j fun z => ni j z hj, hs, ?_⟩
        · obtain ⟨j, e', h1, h2⟩ := z
          obtain ⟨e'', h3⟩ := bindT_own hb j e' h1
          by_cases hj : j ∈ is
          · exact absurd h1 (bindT_slots hb hj)
          · rw [hs j hj] at h2
            exact .inl (le.ownA ⟨j, e'', h3, h2⟩)
        · rw [← E2.len, bindT_len hb, E'.len]
    cases e1 : evalE T e ρ with
    | stk => trivial
    | exc c fs ds =>
      have ed : toD (evalE T e ρ) = .exc c fs ds := by rw [e1]; rfl
      rw [ed] at q
      exact fun w D => q w.ev _
    | ok p =>
      obtain ⟨s, ρ1⟩ := p
      simp only [Out.of]
      cases s with
      | no => trivial
      | val d =>
        have z := main (d := d) (ρ1 := ρ1) (by rw [e1]; rfl)
        simp only
        cases hb : bindT (.tup is) d ρ1 with
        | none => trivial
        | some ρ2 => rw [hb] at z; exact z
      | own d =>
        have z := main (d := d) (ρ1 := ρ1) (by rw [e1]; rfl)
        simp only
        cases hb : bindT (.tup is) d ρ1 with
        | none => trivial
        | some ρ2 => rw [hb] at z; exact z
  · rw [if_neg hf]
    trivial
end
end Mr

/-! Statements: stores into our own things, returns, tests. -/
namespace Mr
open PySem L2
section
variable {g : Gs} {W : WX} {X : Cx} {B : Addr → Prop} {pn st st2 : List Nat} {a b c node o tg v : Expr} {as : List Expr} {sc scope : Scope} {N : List Str} {k kk : Nat} {pos p2 apos cpos p : Pos} {T : Tb} {ea eb ec eo e ie ve : E} {es : List E} {cn : Cn} {K : PySem.W.Frag} {G H : Hp} {ρ : Rho} {σ : L2.St} {stn : Str → Bool} {tgt : Tg} {fuel : Nat} {stm : Stmt} {x y : Str} {j : Nat} {fa : Nat → Addr}
/-- our own thing at slot j is changed -/
theorem EnvR.upd {d d' : D} {ad : Addr} {ho : HO} (E : EnvR cn K B pn G H ρ σ) (h : ρ[j]? = some (.own d)) (hs : σ[j]? = some (some (.ref ad))) (ow : OwnAt cn K G (L2.upd H ad ho) d' ad) : EnvR cn K B pn G (L2.upd H ad ho) (ρ.set j (.own d')) σ := by
  obtain ⟨a', h1, o1, nb⟩ := E.own j d h
  rw [hs] at h1
  cases h1
  have hl : j < ρ.length := (List.getElem?_eq_some_iff.mp h).1
  refine ⟨fun b u q => ?_, by rw [List.length_set]; exact E.len, fun i e hi => ?_, fun i e hi => ?_, fun i l e f b h1 h2 s1 s2 => ?_⟩
  · rw [upd_ne fun z => by rw [z, o1.1] at q; cases q]
    exact E.sub b u q
  · by_cases hi' : j = i
    · subst hi'
      rw [List.getElem?_set_self hl] at hi
      cases hi
    · rw [List.getElem?_set_ne hi'] at hi
      exact E.val i e hi
  · by_cases hi' : j = i
    · subst hi'
      rw [List.getElem?_set_self hl] at hi
      cases hi
      exact ⟨ad, hs, ow, nb⟩
    · rw [List.getElem?_set_ne hi'] at hi
      obtain ⟨b, q1, q2, q3⟩ := E.own i e hi
      have hb : b ≠ ad := fun z => hi' (E.inj j i d e ad h hi hs (z ▸ q1))
      exact ⟨b, q1, q2.keep (.refl _) q2.1 (fun u hu => by rw [upd_ne hb]; exact hu), q3⟩
  · have back : ∀ {i : Nat} {e : D}, (ρ.set j (.own d'))[i]? = some (Sl.own e) → ∃ e', ρ[i]? = some (Sl.own e') := fun {i e} hi => by
      by_cases hi' : j = i
      · subst hi'; exact ⟨d, h⟩
      · rw [List.getElem?_set_ne hi'] at hi
        exact ⟨e, hi⟩
    obtain ⟨e1, q1⟩ := back h1
    obtain ⟨e2, q2⟩ := back h2
    exact E.inj i l e1 e2 b q1 q2 s1 s2
theorem Grow.upd {d : D} {ad : Addr} {ho : HO} (E : EnvR cn K B pn G H ρ σ) (h : ρ[j]? = some (.own d)) (hs : σ[j]? = some (some (.ref ad))) : Grow (ownA ρ σ) G H G (L2.upd H ad ho) := by
  obtain ⟨a', h1, o1, nb⟩ := E.own j d h
  rw [hs] at h1
  cases h1
  refine ⟨.refl _, fun b u q => ?_, fun b u q n => ?_, fun b u q => ?_, fun b u q => .inl q⟩
  · rw [upd_ne fun z => by rw [z, o1.1] at q; cases q]
    exact E.sub b u q
  · rw [upd_ne fun z => n (by rw [z]; exact ⟨j, d, h, hs⟩)]
    exact q
  · by_cases hb : b = ad
    · exact ⟨_, by rw [hb, upd_same]⟩
    · exact ⟨u, by rw [upd_ne hb]; exact q⟩
/-- behind an expression, then our own thing is changed -/
theorem PostS.upd {ρ1 : Rho} {G1 H1 : Hp} {d d' : D} {ad : Addr} {ho : HO} (gr : Grow (ownA ρ σ) G H G1 H1) (E : EnvR g.c g.K B pn G1 H1 ρ1 σ) (le : OwnLe ρ1 ρ) (h : ρ1[j]? = some (.own d)) (hs : σ[j]? = some (some (.ref ad))) (ow : OwnAt g.c g.K G1 (L2.upd H1 ad ho) d' ad) :
    PostS g B pn st ρ σ G H (ρ1.set j (.own d')) σ G1 (L2.upd H1 ad ho) := by
  have p1 : PostS g B pn st ρ σ G H ρ1 σ G1 H1 := .ev gr E le
  refine p1.trans ⟨.upd E h hs, E.upd h hs ow, fun b z => ?_, fun _ _ => rfl, fun _ _ => rfl, rfl⟩
  obtain ⟨i, e, h1, h2⟩ := z
  by_cases hi : j = i
  · subst hi
    exact .inl ⟨j, d, h, h2⟩
  · rw [List.getElem?_set_ne hi] at h1
    exact .inl ⟨i, e, h1, h2⟩
theorem of_ok {α : Type} {a : α} {f : α → Out} : Out.of (.ok a) f = f a := rfl
/-- x[i] = v -/
theorem sub_ok (hvar : PE X (.Name x p) (tVar j)) (hns : notSlice b = true) (u1 : X.A.units + 1 < cLine) (hi : EvOk g W X B pn b (evalE T ie)) (hv : EvOk g W X B pn v (evalE T ve)) (hsw : swapsWithSole [.Subscript (.Name x p) b p2] v pos.line X.env = pure false) (hss : swappedStores [.Subscript (.Name x p) b p2] v X.env = pure none) :
    SOk g W B pn st (WS X (.Assign [.Subscript (.Name x p) b p2] v pos)) (run T fuel pn (.sub j ie ve)) := by
  have pg : ∀ {t : TSet}, PSet X t → PG X (.Subscript (.Name x p) b p2) (gSub (tVar j) (WE X b) t) := fun hs => pg_sub hvar (pe_w X b) hs (by
    intro v
    cases b <;> first | rfl | exact absurd hns (by simp [notSlice]))
  have rule : ∀ {t : TSet}, PSet X t → PS X (.Assign [.Subscript (.Name x p) b p2] v pos) (tAsg (WE X v) (gSub (tVar j) (WE X b) t)) := fun hs => ps_asg (pe_w X v) (pg hs) hsw hss (by first | rfl | simp [assignEach])
  intro ρ σ G H E hB
  have q := hv.d ρ σ G H E
  simp only [run]
  simp only at q
  cases e1 : toD (evalE T ve ρ) with
  | stk => trivial
  | exc c fs ds =>
    rw [e1] at q
    exact fun w D => ws_of (rule set_list) (q w.ev _)
  | ok pv =>
    obtain ⟨dv, ρ1⟩ := pv
    rw [e1] at q
    simp only [Out.of]
    by_cases hk : known ρ1 j = true
    · rw [if_pos hk]
      have kn : ∀ {G1 H1 : Hp}, EnvR g.c g.K B pn G1 H1 ρ1 σ → ∃ u, σ[j]? = some (some u) := fun E1 => lentK_some E1 (ms := [some j]) (by simpa [lentK] using hk) j (by simp)
      cases e2 : toD (evalE T ie ρ1) with
      | stk => trivial
      | exc c fs ds =>
        refine fun w D => ws_of (rule set_list) (q _ fun uv G1 H1 gr E1 le rv => ?_)
        obtain ⟨u, hu⟩ := kn E1
        refine ⟨u, hu, ?_⟩
        have q2 := hi.d ρ1 σ G1 H1 E1
        simp only at q2
        rw [e2] at q2
        exact q2 ((w.after (.ev gr E1 le)).ev) _
      | ok pi =>
        obtain ⟨dk, ρ2⟩ := pi
        simp only
        cases e3 : ρ2[j]? with
        | none => trivial
        | some s =>
          cases s with
          | no => trivial
          | val _ => trivial
          | own dd =>
            simp only
            cases e4 : putD dd dk dv with
            | none => trivial
            | some dd' =>
              intro D kk
              -- the store itself
              have fin : ∀ (t : TSet), PSet X t → (∀ {G2 H2 : Hp} {ui uv : V} {ad : Addr}, OwnAt g.c g.K G2 H2 dd ad → Same G2 H2 → Rep g.c g.K G2 dk ui → Rep g.c g.K G2 dv uv → ∀ Q : Hp → Prop, (∀ ho, OwnAt g.c g.K G2 (L2.upd H2 ad ho) dd' ad → Q (L2.upd H2 ad ho)) → t (.ref ad) ui uv H2 Q) → WS X (.Assign [.Subscript (.Name x p) b p2] v pos) D σ H := fun t ht hstep => by
                refine ws_of (rule ht) (q _ fun uv G1 H1 gr E1 le rv => ?_)
                obtain ⟨u, hu⟩ := kn E1
                refine ⟨u, hu, ?_⟩
                have q2 := hi.d ρ1 σ G1 H1 E1
                simp only at q2
                rw [e2] at q2
                refine q2 _ fun ui G2 H2 gr2 E2 le2 ri => ?_
                obtain ⟨ad, h1, ow, _⟩ := E2.own j dd e3
                rw [hu] at h1
                cases h1
                exact hstep ow E2.sub ri (rv.mono gr2.gg) _ fun ho ow' => kk σ G2 _ (.upd (gr.trans gr2 fun a z => .inl (le.ownA z)) E2 (le.trans le2) e3 hu ow')
              cases dd with
              | lst l =>
                cases dk <;> try cases e4
                rename_i i
                have e4 : (ixN l.length i).map (fun j => Mr.D.lst (l.set j dv)) = some dd' := e4
                cases ei : ixN l.length i with
                | none => rw [ei] at e4; cases e4
                | some m =>
                  rw [ei] at e4
                  cases e4
                  refine fin _ set_list fun {G2 H2 ui uv ad} ow sm ri rv Q kq => ?_
                  obtain ⟨nG, vs, hH, rl⟩ := ow
                  cases ri
                  refine ⟨ad, vs, i, m, rfl, rfl, hH, by rw [rl.length]; exact ei, kq _ ⟨nG, vs.set m uv, upd_same, rl.set m rv⟩⟩
              | dk ks l =>
                have e4 : (if ks.length < big then (dKy dk).map fun k => (let r := put ks l k dv; Mr.D.dk r.1 r.2) else none) = some dd' := e4
                by_cases hbg : ks.length < big
                · rw [if_pos hbg] at e4
                  cases ek : dKy dk with
                  | none => rw [ek] at e4; cases e4
                  | some ky =>
                    rw [ek] at e4
                    cases e4
                    refine fin _ (set_dict u1) fun {G2 H2 ui uv ad} ow sm ri rv Q kq => ?_
                    obtain ⟨nG, vs, hH, rl, hl, hko⟩ := ow
                    obtain ⟨rfl, ok⟩ := dKy_rep ek ri
                    obtain ⟨vs', z1, z2, z3, z4⟩ := putK_k rl hl hko ok rv
                    refine ⟨ad, _, rfl, .inl ⟨_, _, hH, rfl, by rw [kvK_len (by rw [hl, rl.length]), ← bigL]; exact hbg, rfl⟩, ?_⟩
                    rw [z1]
                    exact kq _ ⟨nG, vs', upd_same, z2, z3, z4⟩
                · rw [if_neg hbg] at e4
                  cases e4
              | dt ks l =>
                by_cases hbg : ks.length < big
                · cases dk with
                  | tup kk0 =>
                    cases kk0 with
                    | nil =>
                      have e4 : (if ks.length < big then (none : Option Mr.D) else none) = some dd' := e4
                      rw [if_pos hbg] at e4
                      cases e4
                    | cons k0 kr =>
                      have e4 : (if ks.length < big then (dKys (k0 :: kr)).map fun k => (let r := put ks l k dv; Mr.D.dt r.1 r.2) else none) = some dd' := e4
                      rw [if_pos hbg] at e4
                      cases ek : dKys (k0 :: kr) with
                      | none => rw [ek] at e4; cases e4
                      | some ky =>
                        rw [ek] at e4
                        cases e4
                        refine fin _ (set_dict u1) fun {G2 H2 ui uv ad} ow sm ri rv Q kq => ?_
                        obtain ⟨nG, vs, hH, rl, hl, hko⟩ := ow
                        obtain ⟨b', us, rfl, hb', rb⟩ := ri
                        have hb' : G2 b' = some (.tup us) := by
                          rcases hb' with z | ⟨z, _⟩
                          · exact z
                          · cases z
                        obtain ⟨rfl, ok⟩ := dKys_rep ek rb
                        obtain ⟨vs', z1, z2, z3, z4⟩ := putK_t rl hl hko ok rv
                        have hlen : (kvT ks vs).length = ks.length := by
                          unfold kvT
                          rw [List.length_zip, List.length_map, rl.length, ← hl, Nat.min_self]
                        refine ⟨ad, _, rfl, .inr ⟨_, _, b', hH, rfl, sm _ _ hb', by rw [hlen, ← bigL]; exact hbg, rfl⟩, ?_⟩
                        rw [z1]
                        exact kq _ ⟨nG, vs', upd_same, z2, z3, z4⟩
                  | _ =>
                    have e4 : (if ks.length < big then (none : Option Mr.D) else none) = some dd' := e4
                    rw [if_pos hbg] at e4
                    cases e4
                · have e5 : putD (.dt ks l) dk dv = none := by
                    unfold putD
                    simp only
                    rw [if_neg hbg]
                  rw [e5] at e4
                  cases e4
              | _ => cases e4
    · rw [if_neg hk]
      trivial
end
end Mr

/-! Statements: fields, append, returns, tests. -/
namespace Mr
open PySem L2
section
variable {g : Gs} {W : WX} {X : Cx} {B : Addr → Prop} {pn st st2 : List Nat} {a b c node o tg v : Expr} {as : List Expr} {sc scope : Scope} {N : List Str} {k kk : Nat} {pos p2 apos cpos p : Pos} {T : Tb} {ea eb ec eo e ie ve : E} {es : List E} {cn : Cn} {K : PySem.W.Frag} {G H : Hp} {ρ : Rho} {σ : L2.St} {stn : Str → Bool} {tgt : Tg} {fuel : Nat} {stm : Stmt} {x y : Str} {j : Nat} {fa : Nat → Addr}
theorem known_some {G1 H1 : Hp} {ρ1 : Rho} (E1 : EnvR g.c g.K B pn G1 H1 ρ1 σ) (hk : known ρ1 j = true) : ∃ u, σ[j]? = some (some u) := lentK_some E1 (ms := [some j]) (by simpa [lentK] using hk) j (by simp)
/-- x.f = v -/
theorem fld_ok {f : Nat} (C : Ctx g sc N k W X) (TO : TOk g kk T fa) (hy : y = g.c.fN f) (hvar : PE X (.Name x p) (tVar j)) (hv : EvOk g W X B pn v (evalE T ve)) (hsw : swapsWith v (some (.Attribute (.Name x p) y p2)) pos.line X.env = pure false) :
    SOk g W B pn st (WS X (.Assign [.Attribute (.Name x p) y p2] v pos)) (run T fuel pn (.fld j f ve)) := by
  subst hy
  have rule := ps_fld hvar (pe_w X v) hsw
  intro ρ σ G H E hB
  have q := hv.d ρ σ G H E
  simp only [run]
  simp only at q
  cases e1 : toD (evalE T ve ρ) with
  | stk => trivial
  | exc c fs ds =>
    rw [e1] at q
    exact fun w D => ws_of rule (q w.ev _)
  | ok pv =>
    obtain ⟨dv, ρ1⟩ := pv
    rw [e1] at q
    simp only [Out.of]
    cases e3 : ρ1[j]? with
    | none => trivial
    | some s =>
      cases s with
      | no => trivial
      | val _ => trivial
      | own dd =>
        cases dd <;> try trivial
        rename_i c fs l
        simp only
        by_cases hl : fs.length < 900 ∧ T.fld c f = true
        · rw [if_pos hl]
          obtain ⟨na, cl⟩ := TO.fld c f hl.2
          refine fun D kk => ws_of rule (q _ fun uv G1 H1 gr E1 le rv => ?_)
          obtain ⟨ad, h1, ow, _⟩ := E1.own j _ e3
          obtain ⟨nG, dx, vs, hH, rl, hfl⟩ := ow
          obtain ⟨vs', z1, z2, z3⟩ := putF_o TO.fI rv rl hfl
          refine ⟨.ref ad, h1, ad, _, dx, _, rfl, hH, by rw [C.hK]; exact cl, by rw [C.hK]; exact na, ?_, ?_⟩
          · unfold fvs
            rw [List.length_zip, List.length_map]
            have := hl.1
            omega
          · rw [z1]
            exact kk σ G1 _ (.upd gr E1 le e3 h1 ⟨nG, dx, vs', upd_same, z2, z3⟩)
        · rw [if_neg hl]
          trivial
/-- x.append(v) -/
theorem app_ok (hvar : PE X (.Name x p) (tVar j)) (hs : notStar v = true) (hl : (apos.endLine == cpos.line) = true) (hv : EvOk g W X B pn v (evalE T ve)) :
    SOk g W B pn st (WS X (.Expr (.Call (.Attribute (.Name x p) "append" apos) [v] [] cpos) pos)) (run T fuel pn (.app j ve)) := by
  have hpe : PE X (.Call (.Attribute (.Name x p) "append" apos) [v] [] cpos) (tBM X.K "list" rAppend (tVar j) (tCons (WE X v) tNil)) :=
    pe_bm F.plainAttrs_list F.slot_list_append (by kernel_rfl) mt_append hvar (pa_cons (pe_w X v) pa_nil (star_ok hs)) rfl (by rw [star_ok hs]; rfl) hl (star_ok hs) rfl
  have rule := ps_expr (pos := pos) hpe rfl
  intro ρ σ G H E hB
  have q := hv.d ρ σ G H E
  simp only [run]
  simp only at q
  by_cases ho : ownL ρ j = true
  · rw [if_pos ho]
    obtain ⟨l0, h0⟩ : ∃ l, ρ[j]? = some (.own (.lst l)) := by
      unfold ownL at ho
      cases e : ρ[j]? with
      | none => rw [e] at ho; cases ho
      | some s =>
        rw [e] at ho
        cases s with
        | no => cases ho
        | val _ => cases ho
        | own d => cases d <;> try cases ho
                   exact ⟨_, rfl⟩
    obtain ⟨ad, h1, ow, _⟩ := E.own j _ h0
    obtain ⟨nG0, vs0, hH0, rl0⟩ := ow
    have ty : tyV X.K "list" (.ref ad) H := .inl ⟨rfl, vs0, .inl (.inl hH0)⟩
    cases e1 : toD (evalE T ve ρ) with
    | stk => trivial
    | exc c fs ds =>
      rw [e1] at q
      exact fun w D => ws_of rule ⟨.ref ad, h1, ty, q w.ev _⟩
    | ok pv =>
      obtain ⟨dv, ρ1⟩ := pv
      rw [e1] at q
      simp only [Out.of]
      cases e3 : ρ1[j]? with
      | none => trivial
      | some s =>
        cases s with
        | no => trivial
        | val _ => trivial
        | own dd =>
          cases dd <;> try trivial
          rename_i l
          simp only
          by_cases hb : l.length < big
          · rw [if_pos hb]
            refine fun D kk => ws_of rule ⟨.ref ad, h1, ty, q _ fun uv G1 H1 gr E1 le rv => ?_⟩
            obtain ⟨ad', h2, ow, _⟩ := E1.own j _ e3
            rw [h1] at h2
            cases h2
            obtain ⟨nG, vs, hH, rl⟩ := ow
            refine ⟨ad, vs, uv, rfl, rfl, hH, by rw [rl.length, ← bigL]; exact hb, ?_⟩
            exact kk σ G1 _ (.upd gr E1 le e3 h1 ⟨nG, vs ++ [uv], upd_same, rl.app (.one rv)⟩)
          · rw [if_neg hb]
            trivial
  · rw [if_neg ho]
    trivial
theorem ex_ok (hc : notComp a = true) (h : EvOk g W X B pn a (evalE T e)) : SOk g W B pn st (WS X (.Expr a pos)) (run T fuel pn (.ex e)) := by
  have rule := ps_expr (pos := pos) (pe_w X a) (swaps_ok hc)
  intro ρ σ G H E hB
  have q := h ρ σ G H E
  simp only [run]
  cases e1 : evalE T e ρ with
  | stk => trivial
  | exc c fs ds =>
    rw [e1] at q
    exact fun w D => ws_of rule (q w.ev _)
  | ok p =>
    obtain ⟨s, ρ1⟩ := p
    rw [e1] at q
    exact fun D kk => ws_of rule (q _ fun v G' H' gr E' le r => kk σ G' H' (.ev gr E' le))
theorem ret_ok (h : EvOk g W X B pn a (evalE T e)) : SOk g W B pn st (WS X (.Return (some a) pos)) (run T fuel pn (.ret e)) := by
  have rule := ps_ret (pos := pos) (pe_w X a)
  intro ρ σ G H E hB
  have q := h ρ σ G H E
  simp only [run]
  cases e1 : evalE T e ρ with
  | stk => trivial
  | exc c fs ds =>
    rw [e1] at q
    exact fun w D => ws_of rule (q w.ev _)
  | ok p =>
    obtain ⟨s, ρ1⟩ := p
    rw [e1] at q
    simp only [Out.of]
    cases s with
    | no => trivial
    | val d => exact fun D kk => ws_of rule (q _ fun v G' H' gr E' le r => kk v σ G' H' (.ev gr E' le) r)
    | own d =>
      refine fun D kk => ws_of rule (q _ fun v G' H' gr E' le r => ?_)
      obtain ⟨ad, rfl, ow, nH⟩ := r
      exact kk _ σ G' H' (.ev gr E' le) ⟨ad, rfl, ow, fun z => by
        obtain ⟨o, q⟩ := hB ad z
        rw [nH] at q; cases q⟩
theorem set_no {ρ : Rho} {i l : Nat} {e : D} (h : (ρ.set i .no)[l]? = some (.own e)) : ρ[l]? = some (.own e) ∧ l ≠ i := by
  by_cases hl : i = l
  · subst hl
    by_cases hb : i < ρ.length
    · rw [List.getElem?_set_self hb] at h; cases h
    · rw [List.getElem?_eq_none (by simpa using hb)] at h; cases h
  · rw [List.getElem?_set_ne hl] at h
    exact ⟨h, fun z => hl z.symm⟩
theorem retV_ok {i : Nat} (hvar : PE X (.Name x p) (tVar i)) : SOk g W B pn st (WS X (.Return (some (.Name x p)) pos)) (run T fuel pn (.retV i)) := by
  have rule := ps_ret (pos := pos) hvar
  intro ρ σ G H E hB
  simp only [run]
  cases e1 : ρ[i]? with
  | none => trivial
  | some s =>
    cases s with
    | no => trivial
    | val d =>
      obtain ⟨v, h1, h2⟩ := E.val i d e1
      exact fun D kk => ws_of rule ⟨v, h1, kk v σ G H (.refl E) h2⟩
    | own d =>
      obtain ⟨ad, h1, ow, nb⟩ := E.own i d e1
      by_cases hp : pn.contains i = true
      · simp only [hp, if_true]
        exact fun D kk => ws_of rule ⟨.ref ad, h1, kk _ σ _ H ⟨.freeze E e1 h1, E.freeze e1 h1, fun a z => .inl (OwnLe.ownA (fun j f q => ⟨f, (set_own q).1⟩) z), fun _ _ => rfl, fun _ _ => rfl, rfl⟩ ow.rep⟩
      · have hp' : i ∉ pn := by simpa using hp
        simp only [hp]
        refine fun D kk => ws_of rule ⟨.ref ad, h1, kk _ σ G H ⟨.refl E.sub, ?_, fun a z => .inl (OwnLe.ownA (fun j f q => ⟨f, (set_no q).1⟩) z), fun _ _ => rfl, fun _ _ => rfl, rfl⟩ ⟨ad, rfl, ow, nb.resolve_left hp'⟩⟩
        have := E.fg [i]
        exact this
theorem retN_ok : SOk g W B pn st (WS X (.Return none pos)) (run T fuel pn .retN) := by
  intro ρ σ G H E hB
  simp only [run]
  exact fun D kk => ws_of ps_retN (kk .non σ G H (.refl E) rfl)
theorem pass_ok : SOk g W B pn st (WS X (.Pass pos)) (run T fuel pn .pass) := by
  intro ρ σ G H E hB
  simp only [run]
  exact fun D kk => ws_of ps_pass (kk σ G H (.refl E))
theorem brk_ok : SOk g W B pn st (WS X (.Break pos)) (run T fuel pn .brk) := by
  intro ρ σ G H E hB
  simp only [run]
  exact fun D kk => ws_of ps_break (kk σ G H (.refl E))
theorem cnt_ok : SOk g W B pn st (WS X (.Continue pos)) (run T fuel pn .cnt) := by
  intro ρ σ G H E hB
  simp only [run]
  exact fun D kk => ws_of ps_continue (kk σ G H (.refl E))
theorem doc_ok {s : Str} {i : Nat} {pos' : Pos} : SOk g W B pn st (WS X (.Expr (.Constant (.str s) i pos) pos')) (run T fuel pn .pass) := by
  intro ρ σ G H E hB
  simp only [run]
  exact fun D kk => ws_of ps_doc (kk σ G H (.refl E))
theorem ite_ok {p q : List Stmt} {S1 S2 : List S} (hc : EtOk g W X B pn c (tE T ec)) (h1 : SOk g W B pn st (WSs X p) (runs T fuel pn S1)) (h2 : SOk g W B pn st (WSs X q) (runs T fuel pn S2)) : SOk g W B pn st (WS X (.If c p q pos)) (run T fuel pn (.ite ec S1 S2)) := by
  have rule := ps_if (pos := pos) (pt_w X c) (pss_w X p) (pss_w X q)
  intro ρ σ G H E hB
  have z := hc ρ σ G H E
  simp only [run]
  simp only [tE] at z
  cases e : toT (evalE T ec ρ) with
  | stk => trivial
  | exc c fs ds =>
    rw [e] at z
    exact fun w D => ws_of rule (z w.ev _)
  | ok pp =>
    obtain ⟨t, ρ1⟩ := pp
    rw [e] at z
    simp only [Out.of]
    have go : ∀ {Sx : List S} {sx : List Stmt}, SOk g W B pn st (WSs X sx) (runs T fuel pn Sx) → (∀ D H1, WSs X sx D σ H1 → if t = true then WSs X p D σ H1 else WSs X q D σ H1) →
        match runs T fuel pn Sx ρ1 with
        | .stk => True
        | .next ρ' => ∀ D : Ends, (∀ σ' G' H', PostS g B pn st ρ σ G H ρ' σ' G' H' → D.nx σ' H') → WS X (.If c p q pos) D σ H
        | .brk ρ' => ∀ D : Ends, (∀ σ' G' H', PostS g B pn st ρ σ G H ρ' σ' G' H' → D.bk σ' H') → WS X (.If c p q pos) D σ H
        | .cnt ρ' => ∀ D : Ends, (∀ σ' G' H', PostS g B pn st ρ σ G H ρ' σ' G' H' → D.ct σ' H') → WS X (.If c p q pos) D σ H
        | .ret s ρ' => ∀ D : Ends, (∀ v σ' G' H', PostS g B pn st ρ σ G H ρ' σ' G' H' → RetR g.c g.K B G' H' s v → D.rt v H') → WS X (.If c p q pos) D σ H
        | .exc cc fs ds => ExcS g W st ρ σ G H cc fs ds → ∀ D : Ends, WS X (.If c p q pos) D σ H := by
      intro Sx sx hx sel
      cases e2 : runs T fuel pn Sx ρ1 with
      | stk => trivial
      | next ρ' =>
        refine fun D kk => ws_of rule (z _ fun G1 H1 gr E1 le => sel D H1 ?_)
        have y := hx ρ1 σ G1 H1 E1 (hB.grow gr)
        rw [e2] at y
        exact y D fun σ2 G2 H2 p2 => kk σ2 G2 H2 ((PostS.ev gr E1 le).trans p2)
      | brk ρ' =>
        refine fun D kk => ws_of rule (z _ fun G1 H1 gr E1 le => sel D H1 ?_)
        have y := hx ρ1 σ G1 H1 E1 (hB.grow gr)
        rw [e2] at y
        exact y D fun σ2 G2 H2 p2 => kk σ2 G2 H2 ((PostS.ev gr E1 le).trans p2)
      | cnt ρ' =>
        refine fun D kk => ws_of rule (z _ fun G1 H1 gr E1 le => sel D H1 ?_)
        have y := hx ρ1 σ G1 H1 E1 (hB.grow gr)
        rw [e2] at y
        exact y D fun σ2 G2 H2 p2 => kk σ2 G2 H2 ((PostS.ev gr E1 le).trans p2)
      | ret s ρ' =>
        refine fun D kk => ws_of rule (z _ fun G1 H1 gr E1 le => sel D H1 ?_)
        have y := hx ρ1 σ G1 H1 E1 (hB.grow gr)
        rw [e2] at y
        exact y D fun v σ2 G2 H2 p2 => kk v σ2 G2 H2 ((PostS.ev gr E1 le).trans p2)
      | exc cc fs ds =>
        refine fun w D => ws_of rule (z _ fun G1 H1 gr E1 le => sel D H1 ?_)
        have y := hx ρ1 σ G1 H1 E1 (hB.grow gr)
        rw [e2] at y
        exact y (w.after (.ev gr E1 le)) D
    cases t with
    | true => exact go h1 fun D H1 h => by rw [if_pos rfl]; exact h
    | false => exact go h2 fun D H1 h => by rw [if_neg Bool.false_ne_true]; exact h
end
end Mr

/-! Statements: pairs, loops, try. -/
namespace Mr
open PySem L2
/-- a def's frame -/
structure Sx (X : Cx) (stn : Str → Bool) : Prop where
  stk : X.stack = X.env :: X.outer
  fr : X.env.frame = some X.env.locals
  so : StOk X stn
section
variable {g : Gs} {W : WX} {X : Cx} {B : Addr → Prop} {pn st st2 tmp : List Nat} {a b c node o tg v iter : Expr} {as : List Expr} {sc scope : Scope} {N : List Str} {k kk : Nat} {pos p2 apos cpos p : Pos} {T : Tb} {ea eb ec eo e ie ve : E} {es ia : List E} {cn : Cn} {K : PySem.W.Frag} {G H : Hp} {ρ : Rho} {σ : L2.St} {stn : Str → Bool} {tgt : Tg} {fuel : Nat} {stm : Stmt} {x y : Str} {j : Nat} {fa : Nat → Addr} {ik : IK} {Sb : List S} {body : List Stmt}
theorem PostS.fg {ρ' : Rho} {σ' : L2.St} {G' H' : Hp} (p : PostS g B pn st ρ σ G H ρ' σ' G' H') (w : List Nat) : PostS g B pn st ρ σ G H (forget ρ' w) σ' G' H' :=
  ⟨p.gr, p.env.fg w, fun a z => p.own a ((OwnLe.fg ρ' w).ownA z), p.pin, p.st, p.len⟩
/-- a datum is bound: behind it -/
theorem PostS.bind {ρ1 ρ2 : Rho} {σ1 σ2 : L2.St} {G1 H1 : Hp} {d : D} (p : PostS g B pn st ρ σ G H ρ1 σ1 G1 H1) (hf : free pn tgt = true) (hs : ∀ i, i ∈ tgt.slots → i ∈ st) (hb : bindT tgt d ρ1 = some ρ2) (E2 : EnvR g.c g.K B pn G1 H1 ρ2 σ2) (hq : ∀ j : Nat, j ∉ tgt.slots → σ2[j]? = σ1[j]?) : PostS g B pn st ρ σ G H ρ2 σ2 G1 H1 := by
  have nf : ∀ i, i ∈ tgt.slots → i ∉ pn := by
    cases tgt with
    | one i =>
      intro j hj
      have : j = i := by simpa [Tg.slots] using hj
      subst this
      exact free_one hf
    | tup is => exact free_tup hf
  refine p.trans ⟨.refl E2.sub, E2, fun a z => ?_, fun i hi => hq i fun z => nf i z hi, fun i hi => hq i fun z => hi (hs i z), ?_⟩
  · obtain ⟨j, e', h1, h2⟩ := z
    have hj : j ∉ tgt.slots := fun hj => bindT_slots hb hj h1
    obtain ⟨e'', h3⟩ := bindT_own hb j e' h1
    rw [hq j hj] at h2
    exact .inl ⟨j, e'', h3, h2⟩
  · rw [← E2.len, bindT_len hb, p.env.len]
/-- a, b = x, y -/
theorem par_ok {i1 i2 : Nat} (hlen : es.length = 2) (hij : i1 ≠ i2) (ha : EaOk g W X B pn as (evalDs T es)) : SOk g W B pn [i1, i2] (tPar i1 i2 (WA X as)) (run T fuel pn (.par [i1, i2] es)) := by
  intro ρ σ G H E hB
  simp only [run]
  by_cases hf : free pn (.tup [i1, i2]) = true
  · rw [if_pos hf]
    have q := ha ρ σ G H E
    cases e1 : evalDs T es ρ with
    | stk => trivial
    | exc c fs ds =>
      rw [e1] at q
      exact fun w D => q w.ev _
    | ok pp =>
      obtain ⟨ds, ρ1⟩ := pp
      rw [e1] at q
      simp only [Out.of]
      have hl := evalDs_len T es ρ ds ρ1 e1
      rw [hlen] at hl
      match ds, hl with
      | [d1, d2], _ =>
        have hb : bindN [i1, i2] [d1, d2] ρ1 = some ((ρ1.set i1 (.val d1)).set i2 (.val d2)) := rfl
        rw [hb]
        refine fun D kk => q _ fun vs G' H' gr E' le r => ?_
        obtain ⟨u1, u2, rfl, r1, r2⟩ := r.inv2
        refine ⟨u1, u2, rfl, kk _ G' H' (PostS.bind (tgt := .tup [i1, i2]) (d := .tup [d1, d2]) (.ev gr E' le) hf (fun i hi => hi) hb ((E'.setV r1).setV r2) fun j hj => ?_)⟩
        have hj : j ∉ [i1, i2] := hj
        simp only [List.mem_cons, List.not_mem_nil, or_false, not_or] at hj
        rw [List.getElem?_set_ne fun z => hj.2 z.symm, List.getElem?_set_ne fun z => hj.1 z.symm]
  · rw [if_neg hf]
    trivial
/-- what an end of a loop gives -/
def FinO (g : Gs) (W : WX) (B : Addr → Prop) (pn st : List Nat) (ρ : Rho) (σ : L2.St) (G H : Hp) (D : Ends) : Out → Prop
  | .next ρf => ∀ σ' G' H', PostS g B pn st ρ σ G H ρf σ' G' H' → D.nx σ' H'
  | .ret s ρf => ∀ v σ' G' H', PostS g B pn st ρ σ G H ρf σ' G' H' → RetR g.c g.K B G' H' s v → D.rt v H'
  | .exc c fs ds => ExcS g W st ρ σ G H c fs ds
  | _ => False
/-- a body's end within a loop -/
theorem body_end {ρ0 : Rho} {σ0 : L2.St} {G0 H0 : Hp} {t : TS} {f : Rho → Out} (hb : SOk g W B pn st t f) (P : PostS g B pn st ρ σ G H ρ0 σ0 G0 H0) (hB : BIn B H) {D : Ends} {Nn : L2.St → Hp → Prop} (hne : f ρ0 ≠ .stk)
    (h1 : ∀ ρ3, f ρ0 = .next ρ3 ∨ f ρ0 = .cnt ρ3 → ∀ σ' G' H', Same G0 G' → PostS g B pn st ρ σ G H ρ3 σ' G' H' → Nn σ' H') (h2 : ∀ ρ3, f ρ0 = .brk ρ3 → FinO g W B pn st ρ σ G H D (.next ρ3)) (h3 : ∀ s ρ3, f ρ0 = .ret s ρ3 → FinO g W B pn st ρ σ G H D (.ret s ρ3)) (h4 : ∀ c fs ds, f ρ0 = .exc c fs ds → FinO g W B pn st ρ σ G H D (.exc c fs ds)) :
    t { D with nx := Nn, ct := Nn, bk := D.nx } σ0 H0 := by
  have q := hb ρ0 σ0 G0 H0 P.env (hB.grow P.gr)
  cases e : f ρ0 with
  | stk => exact absurd e hne
  | next ρ3 => rw [e] at q; exact q _ fun σ' G' H' p => h1 ρ3 (.inl e) σ' G' H' p.gr.gg (P.trans p)
  | cnt ρ3 => rw [e] at q; exact q _ fun σ' G' H' p => h1 ρ3 (.inr e) σ' G' H' p.gr.gg (P.trans p)
  | brk ρ3 => rw [e] at q; exact q _ fun σ' G' H' p => h2 ρ3 e σ' G' H' (P.trans p)
  | ret s ρ3 => rw [e] at q; exact q _ fun v σ' G' H' p r => h3 s ρ3 e v σ' G' H' (P.trans p) r
  | exc c fs ds => rw [e] at q; exact q ((h4 c fs ds e).after P) _
def forStep (T : Tb) (fuel : Nat) (pn : List Nat) (tgt : Tg) (Sb : List S) (tmp : List Nat) (d : D) (ρ : Rho) : Out := match bindT tgt d ρ with
  | some ρ2 => (runs T fuel pn Sb ρ2).fg tmp
  | none => .stk
theorem forN_nb {step : D → Rho → Out} : ∀ (l : List D) (ρ ρf : Rho), forN step l ρ ≠ .brk ρf ∧ forN step l ρ ≠ .cnt ρf
  | [], ρ, ρf => ⟨by simp [forN], by simp [forN]⟩
  | d :: l, ρ, ρf => by
    simp only [forN]
    cases step d ρ with
    | next ρ2 => exact forN_nb l ρ2 ρf
    | cnt ρ2 => exact forN_nb l ρ2 ρf
    | brk ρ2 => exact ⟨by simp, by simp⟩
    | ret s ρ2 => exact ⟨by simp, by simp⟩
    | exc _ _ _ => exact ⟨by simp, by simp⟩
    | stk => exact ⟨by simp, by simp⟩
theorem whileN_nb {c : Rho → R (Bool × Rho)} {b : Rho → Out} : ∀ (n : Nat) (ρ ρf : Rho), whileN c b n ρ ≠ .brk ρf ∧ whileN c b n ρ ≠ .cnt ρf
  | 0, ρ, ρf => ⟨by simp [whileN], by simp [whileN]⟩
  | n + 1, ρ, ρf => by
    simp only [whileN]
    cases c ρ with
    | stk => exact ⟨by simp [Out.of], by simp [Out.of]⟩
    | exc _ _ _ => exact ⟨by simp [Out.of], by simp [Out.of]⟩
    | ok p =>
      obtain ⟨t, ρ1⟩ := p
      simp only [Out.of]
      cases t with
      | false => exact ⟨by simp, by simp⟩
      | true =>
        simp only [if_true]
        cases b ρ1 with
        | next ρ2 => exact whileN_nb n ρ2 ρf
        | cnt ρ2 => exact whileN_nb n ρ2 ρf
        | brk ρ2 => exact ⟨by simp, by simp⟩
        | ret s ρ2 => exact ⟨by simp, by simp⟩
        | exc _ _ _ => exact ⟨by simp, by simp⟩
        | stk => exact ⟨by simp, by simp⟩
theorem for_ok (C : Ctx g sc N k W X) (so : StOk X stn) (hns : notSet iter = true) (htg : tgOk N stn tg tgt = true) (hit : ItOk g W X B pn tg iter (itE T ik ia)) (hs : ∀ i, i ∈ tgt.slots → i ∈ st) (hb : SOk g W B pn st (WSs X body) (runs T fuel pn Sb)) :
    SOk g W B pn st (WS X (.For tg iter body [] pos)) (run T fuel pn (.for_ tgt ik ia Sb tmp)) := by
  have rule := ps_for (pos := pos) C.po C.calm (pi_wi (X := X) (tg := tg) (iter := iter)) (pg_w (X := X) (tg := tg)) (pss_w X body) (fsi_ok hns X.env)
  intro ρ σ G H E hB
  have e0 : run T fuel pn (.for_ tgt ik ia Sb tmp) ρ = if free pn tgt && free pn (.tup tmp) then Out.of (itE T ik ia ρ) fun x => forN (forStep T fuel pn tgt Sb tmp) x.1 (forget x.2 tmp) else .stk := by
    simp only [run]
    unfold itE
    cases evalDs T ia ρ with
    | stk => rfl
    | exc _ _ _ => rfl
    | ok pp =>
      obtain ⟨ds, ρ1⟩ := pp
      simp only [R.bind, Out.of]
      cases iterD ik ds with
      | none => rfl
      | some items => rfl
  rw [e0]
  by_cases hf : (free pn tgt && free pn (.tup tmp)) = true
  · rw [if_pos hf]
    rw [Bool.and_eq_true] at hf
    have q := hit ρ σ G H E
    cases e : itE T ik ia ρ with
    | stk => trivial
    | exc c fs ds =>
      rw [e] at q
      exact fun w D => ws_of rule (q w.ev _)
    | ok pp =>
      obtain ⟨items, ρ1⟩ := pp
      rw [e] at q
      simp only [Out.of]
      have main : ∀ (res : Out), forN (forStep T fuel pn tgt Sb tmp) items (forget ρ1 tmp) = res → res ≠ .stk → ∀ D : Ends, FinO g W B pn st ρ σ G H D res → WS X (.For tg iter body [] pos) D σ H := by
        intro res hres hne D fin
        refine ws_of rule (q _ fun J G1 H1 gr E1 le itr => ?_)
        refine ⟨fun i m σ' H' => m = items.length - i ∧ i ≤ items.length ∧ ∃ G' ρ', PostS g B pn st ρ σ G H ρ' σ' G' H' ∧ ItR g J G' items ∧ forN (forStep T fuel pn tgt Sb tmp) (items.drop i) ρ' = res, ⟨items.length, by simp, Nat.zero_le _, G1, forget ρ1 tmp, (PostS.ev gr E1 le).fg tmp, itr, by simpa using hres⟩, ?_⟩
        rintro i m σ' H' ⟨rfl, hi, G', ρ', P, itr', hgo⟩
        by_cases hlt : i < items.length
        · refine .inr ⟨itr'.go i G' H' (.refl _) P.env.sub hlt, _, fun σ2 H2 h2 => ⟨items.length - (i + 1), by omega, h2⟩, fun xv H2 hy => ?_⟩
          obtain ⟨d, hd⟩ : ∃ d, items[i]? = some d := ⟨_, List.getElem?_eq_getElem hlt⟩
          have hdr : items.drop i = d :: items.drop (i + 1) := by
            rw [List.drop_eq_getElem_cons hlt]
            congr 1
            rw [List.getElem?_eq_getElem hlt] at hd
            cases hd
            rfl
          obtain ⟨G3, gr3, rx⟩ := itr'.yld i G' H' xv H2 d (.refl _) P.env.sub hd hy
          have E3 := P.env.grow gr3 fun _ _ z => z
          have P3 : PostS g B pn st ρ σ G H ρ' σ' G3 H2 := P.trans ⟨gr3.mono fun _ z => z.elim, E3, fun _ z => .inl z, fun _ _ => rfl, fun _ _ => rfl, rfl⟩
          rw [hdr] at hgo
          have hgo : (match forStep T fuel pn tgt Sb tmp d ρ' with
            | .next ρ2 => forN (forStep T fuel pn tgt Sb tmp) (items.drop (i + 1)) ρ2
            | .cnt ρ2 => forN (forStep T fuel pn tgt Sb tmp) (items.drop (i + 1)) ρ2
            | .brk ρ2 => .next ρ2
            | o => o) = res := hgo
          have est : forStep T fuel pn tgt Sb tmp d ρ' = match bindT tgt d ρ' with | some ρ2 => (runs T fuel pn Sb ρ2).fg tmp | none => .stk := rfl
          rw [est] at hgo
          cases ebd : bindT tgt d ρ' with
          | none => rw [ebd] at hgo; exact absurd hgo.symm hne
          | some ρb =>
            rw [ebd] at hgo
            simp only at hgo
            refine bind_ok C so htg E3 rx ebd fun σb Eb hsb => ?_
            have Pb := P3.bind hf.1 hs ebd Eb hsb
            refine body_end hb Pb hB (fun z => hne ?_) (fun ρ3 h3 σ4 G4 H4 sm4 P4 => ?_) (fun ρ3 h3 => ?_) (fun s ρ3 h3 => ?_) (fun c fs ds h3 => ?_)
            · rw [z] at hgo
              exact hgo.symm
            · refine ⟨rfl, hlt, G4, forget ρ3 tmp, P4.fg tmp, itr'.mono (gr3.gg.trans sm4), ?_⟩
              rcases h3 with h3 | h3 <;> (rw [h3] at hgo; exact hgo)
            · rw [h3] at hgo
              have hgo : Out.next (forget ρ3 tmp) = res := hgo
              subst hgo
              exact fun σ4 G4 H4 P4 => fin σ4 G4 H4 (P4.fg tmp)
            · rw [h3] at hgo
              have hgo : Out.ret s ρ3 = res := hgo
              subst hgo
              exact fin
            · rw [h3] at hgo
              have hgo : Out.exc c fs ds = res := hgo
              subst hgo
              exact fin
        · have hi' : i = items.length := by omega
          subst hi'
          refine .inl ⟨itr'.stop _ G' H' (.refl _) P.env.sub (Nat.le_refl _), ?_⟩
          rw [List.drop_length] at hgo
          have hgo : Out.next ρ' = res := hgo
          subst hgo
          exact fin σ' G' H' P
      cases er : forN (forStep T fuel pn tgt Sb tmp) items (forget ρ1 tmp) with
      | stk => trivial
      | next ρf => exact fun D kk => main _ er (by simp) D kk
      | ret s ρf => exact fun D kk => main _ er (by simp) D kk
      | exc c fs ds => exact fun w D => main _ er (by simp) D w
      | brk ρf => exact absurd er (forN_nb _ _ _).1
      | cnt ρf => exact absurd er (forN_nb _ _ _).2
  · rw [if_neg hf]
    trivial
theorem whl_ok (C : Ctx g sc N k W X) (hc : EtOk g W X B pn c (tE T ec)) (hb : SOk g W B pn st (WSs X body) (runs T fuel pn Sb)) : SOk g W B pn st (WS X (.While c body [] pos)) (run T fuel pn (.whl ec Sb tmp)) := by
  have rule := ps_while (pos := pos) C.po (pt_w X c) (pss_w X body)
  intro ρ σ G H E hB
  simp only [run]
  by_cases hf : free pn (.tup tmp) = true
  · rw [if_pos hf]
    have main : ∀ (res : Out), whileN (fun ρ => toT (evalE T ec ρ)) (fun ρ => (runs T fuel pn Sb ρ).fg tmp) fuel (forget ρ tmp) = res → res ≠ .stk → ∀ D : Ends, FinO g W B pn st ρ σ G H D res → WS X (.While c body [] pos) D σ H := by
      intro res hres hne D fin
      refine ws_of rule ⟨fun m σ' H' => ∃ G' ρ', PostS g B pn st ρ σ G H ρ' σ' G' H' ∧ whileN (fun ρ => toT (evalE T ec ρ)) (fun ρ => (runs T fuel pn Sb ρ).fg tmp) m ρ' = res, ⟨fuel, G, forget ρ tmp, (PostS.refl E).fg tmp, hres⟩, ?_⟩
      rintro m σ' H' ⟨G', ρ', P, hgo⟩
      cases m with
      | zero => exact absurd hgo.symm hne
      | succ n =>
        simp only [whileN] at hgo
        have z := hc ρ' σ' G' H' P.env
        simp only [tE] at z
        cases e : toT (evalE T ec ρ') with
        | stk => rw [e] at hgo; exact absurd hgo.symm hne
        | exc cc fs ds =>
          rw [e] at hgo z
          have hgo : Out.exc cc fs ds = res := hgo
          subst hgo
          exact z (ExcS.ev (ExcS.after P fin)) _
        | ok pp =>
          obtain ⟨t, ρ1⟩ := pp
          rw [e] at hgo z
          simp only [Out.of] at hgo
          refine z _ fun G1 H1 gr E1 le => ?_
          have P1 : PostS g B pn st ρ σ G H ρ1 σ' G1 H1 := P.trans (.ev gr E1 le)
          cases t with
          | false =>
            rw [if_neg Bool.false_ne_true]
            have hgo : Out.next ρ1 = res := hgo
            subst hgo
            exact fin σ' G1 H1 P1
          | true =>
            rw [if_pos rfl]
            simp only [if_true] at hgo
            refine ⟨_, fun σ2 H2 h2 => ⟨n, Nat.lt_succ_self n, h2⟩, ?_⟩
            refine body_end hb P1 hB (fun z => hne ?_) (fun ρ3 h3 σ4 G4 H4 sm4 P4 => ?_) (fun ρ3 h3 => ?_) (fun s ρ3 h3 => ?_) (fun c fs ds h3 => ?_)
            · rw [z] at hgo
              exact hgo.symm
            · refine ⟨G4, forget ρ3 tmp, P4.fg tmp, ?_⟩
              rcases h3 with h3 | h3 <;> (rw [h3] at hgo; exact hgo)
            · rw [h3] at hgo
              have hgo : Out.next (forget ρ3 tmp) = res := hgo
              subst hgo
              exact fun σ4 G4 H4 P4 => fin σ4 G4 H4 (P4.fg tmp)
            · rw [h3] at hgo
              have hgo : Out.ret s ρ3 = res := hgo
              subst hgo
              exact fin
            · rw [h3] at hgo
              have hgo : Out.exc c fs ds = res := hgo
              subst hgo
              exact fin
    cases er : whileN (fun ρ => toT (evalE T ec ρ)) (fun ρ => (runs T fuel pn Sb ρ).fg tmp) fuel (forget ρ tmp) with
    | stk => trivial
    | next ρf => exact fun D kk => main _ er (by simp) D kk
    | ret s ρf => exact fun D kk => main _ er (by simp) D kk
    | exc c fs ds => exact fun w D => main _ er (by simp) D w
    | brk ρf => exact absurd er (whileN_nb _ _ _).1
    | cnt ρf => exact absurd er (whileN_nb _ _ _).2
  · rw [if_neg hf]
    trivial
/-! ### try -/
def hdsOk (mgf : Str → Option Value) (sc : Scope) : List ExceptHandler → Bool
  | [] => true
  | .ExceptHandler (some (.Name x _)) none (_ :: _) _ :: r => (match mgf x with | some _ => true | none => false) && decide (sc.names.lookup x = some .globalImplicit) && !(x == ("__debug__" : Str)) && hdsOk mgf sc r
  | _ => false
theorem hds_ok (hgl : ∀ x, sc.names.lookup x = some .globalImplicit → Gl X x) (C : Ctx g sc N k W X) : ∀ {hds : List ExceptHandler}, hdsOk g.mg sc hds = true → ∃ l, HdsOk X hds l
  | [], _ => ⟨_, .nil⟩
  | .ExceptHandler none n b p :: r, h => by simp [hdsOk] at h
  | .ExceptHandler (some t) n b p :: r, h => by
    cases t <;> try (simp [hdsOk] at h)
    rename_i x np
    cases n with
    | some _ => simp [hdsOk] at h
    | none =>
      cases b with
      | nil => simp [hdsOk] at h
      | cons b0 suite =>
        simp only [hdsOk, Bool.and_eq_true, decide_eq_true_eq] at h
        obtain ⟨⟨⟨h1, h2⟩, h3⟩, h4⟩ := h
        obtain ⟨l, hl⟩ := hds_ok hgl C h4
        cases em : g.mg x with
        | none => rw [em] at h1; cases h1
        | some u =>
          exact ⟨_, .cons (c := u) (ts := fun _ _ _ => tNever) ⟨hgl x h2, by simpa using h3, .inl (by rw [C.hm]; exact em)⟩ (fun _ _ _ _ _ _ _ => pss_never) hl⟩
theorem try_ok {h0 : ExceptHandler} {hds : List ExceptHandler} {cs : List Nat} {bs : List (Option Nat)} {hss : List (List S)} (C : Ctx g sc N k W X) (sx : Sx X stn) (hgl : ∀ x, sc.names.lookup x = some .globalImplicit → Gl X x) (hh : hdsOk g.mg sc (h0 :: hds) = true)
    (hb : ∀ X' W', Ctx g sc N k W' X' → Sx X' stn → SOk g W' B pn st (WSs X' body) (runs T fuel pn Sb)) : SOk g W B pn st (WS X (.Try body (h0 :: hds) [] [] pos)) (run T fuel pn (.tryx Sb cs bs hss tmp)) := by
  obtain ⟨l, hl⟩ := hds_ok hgl C hh
  have rule := ps_try_many (pos := pos) (body := body) (tb := fun W' D σ H => ∀ pn xe, Takes (X.tr pn xe) W' → PassesOwn (model X.prog X.w) X.A X.env xe → WSs (X.tr pn xe) body D σ H) sx.stk sx.fr C.tk (fun W' pn xe t p => ⟨fun pins s σ H D I h => h pn xe t p pins s I⟩) hl
  have ctx : ∀ {W' : WX} {q : List (Addr × Obj)} {xe : Value → Shared → Prop}, Takes (X.tr q xe) W' → PassesOwn (model X.prog X.w) X.A X.env xe → Ctx g sc N k W' (X.tr q xe) := fun t po => ⟨C.hP, C.hw, C.hK, C.hm, C.hb, C.hs, C.hN, C.nd, C.calm, C.room, t, po, C.kf⟩
  have sx' : ∀ {q : List (Addr × Obj)} {xe : Value → Shared → Prop}, Sx (X.tr q xe) stn := ⟨sx.stk, sx.fr, sx.so⟩
  intro ρ σ G H E hB
  simp only [run]
  by_cases hf : free pn (.tup tmp) = true
  · rw [if_pos hf]
    cases e : runs T fuel pn Sb ρ with
    | stk => trivial
    | exc c fs ds => trivial
    | next ρ' =>
      refine fun D kk => ws_of rule fun q xe t po => ?_
      have z := hb _ _ (ctx t po) sx' ρ σ G H E hB
      rw [e] at z
      exact z D kk
    | brk ρ' =>
      refine fun D kk => ws_of rule fun q xe t po => ?_
      have z := hb _ _ (ctx t po) sx' ρ σ G H E hB
      rw [e] at z
      exact z D kk
    | cnt ρ' =>
      refine fun D kk => ws_of rule fun q xe t po => ?_
      have z := hb _ _ (ctx t po) sx' ρ σ G H E hB
      rw [e] at z
      exact z D kk
    | ret s ρ' =>
      refine fun D kk => ws_of rule fun q xe t po => ?_
      have z := hb _ _ (ctx t po) sx' ρ σ G H E hB
      rw [e] at z
      exact z D kk
  · rw [if_neg hf]
    trivial
end
end Mr

/-! The checker: a term of the small language against the text. -/
namespace Mr
open PySem L2
/-- what a name of the module is -/
inductive Gk where
  | fn (i : Nat)
  | cls (c : Nat)
  | cst (d : D)
  | blt
  | err
/-- what the checker knows -/
structure Ck where
  gt : List (Str × Gk)
  fN : Nat → Str
  init : Nat → Option Nat
def nameOk (N : List Str) (sc : Scope) (i : Nat) (x : Str) : Bool := decide (N[i]? = some x) && (match sc.names.lookup x with | some .local => true | some .cell => true | some .free => true | _ => false) && !(x == ("__debug__" : Str)) && !(x == ("__classdict__" : Str))
def globOk (sc : Scope) (x : Str) : Bool := (match sc.names.lookup x with | some .globalImplicit => true | _ => false) && !(x == ("__debug__" : Str))
def isFnK : Option Gk → Nat → Bool
  | some (.fn i), f => i == f
  | _, _ => false
def isClsK : Option Gk → Nat → Bool
  | some (.cls i), f => i == f
  | _, _ => false
def isBlt : Option Gk → Bool
  | some .blt => true
  | _ => false
def isErr : Option Gk → Bool
  | some .err => true
  | _ => false
/-- the same constant -/
def sameC : D → D → Bool
  | .int i, .int j => i == j
  | .str x, .str y => x == y
  | _, _ => false
def isCst : Option Gk → D → Bool
  | some (.cst d), e => sameC d e
  | _, _ => false
def binK : Pr → Operator → Bool
  | .add, .Add => true
  | .sub, .Sub => true
  | .mul, .Mult => true
  | .fdiv, .FloorDiv => true
  | .mod, .Mod => true
  | .pow, .Pow => true
  | _, _ => false
def cmpK : Pr → CmpOp → Bool
  | .lt, .Lt => true
  | .le, .LtE => true
  | .gt, .Gt => true
  | .ge, .GtE => true
  | .inn, .In => true
  | .nin, .NotIn => true
  | _, _ => false
def ordK : Pr → CmpOp → Bool
  | .lt, .Lt => true
  | .le, .LtE => true
  | .gt, .Gt => true
  | .ge, .GtE => true
  | _, _ => false
/-- built-ins by name -/
def bltK : Pr → Str → Bool
  | .len, x => decide (x = "len")
  | .sum, x => decide (x = "sum")
  | .all, x => decide (x = "all")
  | .abs, x => decide (x = "abs")
  | .sorted, x => decide (x = "sorted")
  | .tuple, x => decide (x = "tuple")
  | .list, x => decide (x = "list")
  | .int, x => decide (x = "int")
  | .str, x => decide (x = "str")
  | .dict, x => decide (x = "dict")
  | .dictT, x => decide (x = "dict")
  | _, _ => false
def mthK : Pr → Str → Bool
  | .split, x => decide (x = "split")
  | .join, x => decide (x = "join")
  | .strip, x => decide (x = "strip")
  | _, _ => false
/-- lent names stand as names; the others are handed back -/
def lentNm (N : List Str) (sc : Scope) : List (Option Nat) → List Expr → Option (List Expr)
  | [], [] => some []
  | none :: ms, a :: as => (lentNm N sc ms as).map (a :: ·)
  | some j :: ms, .Name x _ :: as => if nameOk N sc j x then lentNm N sc ms as else none
  | _, _ => none
def ownNm (N : List Str) (w : List Nat) : List (Str × Nat) := w.map fun i => ((N[i]?).getD (txS []), i)
/-- has a value; has a truth -/
def evB : E → Bool
  | .borT _ => false
  | _ => true
def etB : E → Bool
  | .ifx _ _ _ => false
  | .bor _ => false
  | _ => true
def rngA (ck : Ck) (sc : Scope) : Expr → Option (List Expr)
  | .Call (.Name x _) [a] [] _ => if decide (x = "range") && globOk sc x && isBlt (ck.gt.lookup x) && notStar a then some [a] else none
  | _ => none
def enumA (ck : Ck) (sc : Scope) : Expr → Expr → Option (List Expr)
  | .Tuple _ _ _, .Call (.Name x _) [a] [] _ => if decide (x = "enumerate") && globOk sc x && isBlt (ck.gt.lookup x) && notStar a then some [a] else none
  | _, _ => none
def itK (ck : Ck) (sc : Scope) (ik : IK) (tg it : Expr) : Option (List Expr) := match ik with
  | .seq => some [it]
  | .rng1 => rngA ck sc it
  | .enum => enumA ck sc tg it
  | _ => none
def varK (N : List Str) (sc : Scope) (i : Nat) : Expr → Bool
  | .Name x _ => nameOk N sc i x
  | _ => false
def cstK (d : D) : Expr → Bool
  | .Constant c _ _ => cstOk c d
  | _ => false
def glK (ck : Ck) (sc : Scope) (d : D) : Expr → Bool
  | .Name x _ => globOk sc x && isCst (ck.gt.lookup x) d
  | _ => false
def isNK (p : Pr) (chk : List Expr → Bool) (x : Expr) : CmpOp → Expr → Bool
  | .Is, .Constant .none _ _ => (match p with | .isN => true | _ => false) && chk [x]
  | .IsNot, .Constant .none _ _ => (match p with | .ntN => true | _ => false) && chk [x]
  | op, y => cmpK p op && notSet y && chk [x, y]
def slK (p : Pr) (chk : List Expr → Bool) (x : Expr) : Option Expr → Option Expr → Option Expr → Bool
  | none, some y, none => (match p with | .sl01 => true | _ => false) && chk [x, y]
  | some y, none, none => (match p with | .sl10 => true | _ => false) && chk [x, y]
  | none, none, some (.UnaryOp .USub (.Constant (.int i) _ _) _) => decide (i = 1) && (match p with | .rev => true | _ => false) && chk [x]
  | _, _, _ => false
def primK (ck : Ck) (sc : Scope) (p : Pr) (chk : List Expr → Bool) : Expr → Bool
  | .BinOp l op r _ => binK p op && chk [l, r]
  | .UnaryOp .USub x _ => (match p with | .neg => true | _ => false) && chk [x]
  | .Compare x [op] [y] _ => isNK p chk x op y
  | .Subscript x y _ => (match y with
      | .Slice lo hi stp _ => slK p chk x lo hi stp
      | y => (match p with | .idx => true | _ => false) && notSlice y && chk [x, y])
  | .Call (.Name x _) (a :: as) [] _ => bltK p x && globOk sc x && isBlt (ck.gt.lookup x) && (a :: as).all notStar && chk (a :: as)
  | _ => false
def tmK (p : Pr) (ca cb : Expr → Bool) : Expr → Bool
  | .Call (.Attribute o y apos) [v] [] pos => mthK p y && notStar v && notSup o && (apos.endLine == pos.line) && ca o && cb v
  | _ => false
def idxVK (N : List Str) (sc : Scope) (i : Nat) (cb : Expr → Bool) : Expr → Bool
  | .Subscript (.Name x _) y _ => nameOk N sc i x && notSlice y && cb y
  | _ => false
def tupK (chk : List Expr → Bool) : Expr → Bool
  | .Tuple as _ _ => decide (as.length ≤ 1000) && chk as
  | _ => false
def lstK (chk : List Expr → Bool) : Expr → Bool
  | .List as _ => decide (as.length ≤ 1000) && chk as
  | _ => false
def lstSK (ca : Expr → Bool) (chk : List Expr → Bool) : Expr → Bool
  | .List (.Starred x _ :: as) _ => ca x && chk as
  | _ => false
def newKK : Expr → Bool
  | .Dict [] [] _ => true
  | _ => false
def boolK (i : Bool) (chk : List Expr → Bool) : Expr → Bool
  | .BoolOp .And as _ => i && !as.isEmpty && chk as
  | .BoolOp .Or as _ => !i && !as.isEmpty && chk as
  | _ => false
def notK (ce : Expr → Bool) : Expr → Bool
  | .UnaryOp .Not x _ => ce x
  | _ => false
def ifxK (cc ca cb : Expr → Bool) : Expr → Bool
  | .IfExp c a b _ => cc c && ca a && cb b
  | _ => false
def chainK (p q : Pr) (ca cb cc : Expr → Bool) : Expr → Bool
  | .Compare x [o1, o2] [y, z] _ => ordK p o1 && ordK q o2 && notSet z && ca x && cb y && cc z
  | _ => false
def argsK (N : List Str) (sc : Scope) (ms : List (Option Nat)) (chk : List Expr → Bool) (as : List Expr) : Bool := match lentNm N sc ms as with
  | some ds => chk ds && as.all notStar
  | none => false
def callK (ck : Ck) (N : List Str) (sc : Scope) (f : Nat) (ms : List (Option Nat)) (chk : List Expr → Bool) : Expr → Bool
  | .Call (.Name x _) as [] _ => globOk sc x && isFnK (ck.gt.lookup x) f && argsK N sc ms chk as
  | _ => false
def methK (ck : Ck) (N : List Str) (sc : Scope) (m : Nat) (ms : List (Option Nat)) (co : Expr → Bool) (chk : List Expr → Bool) : Expr → Bool
  | .Call (.Attribute ob y apos) as [] pos => decide (y = ck.fN m) && notSup ob && decide (as.length < 30) && (apos.endLine == pos.line) && co ob && argsK N sc ms chk as
  | _ => false
def makeK (ck : Ck) (sc : Scope) (c : Nat) (chk : List Expr → Bool) : Expr → Bool
  | .Call (.Name x _) as [] _ => globOk sc x && isClsK (ck.gt.lookup x) c && (ck.init c).isSome && as.all notStar && chk as
  | _ => false
def attrVK (ck : Ck) (N : List Str) (sc : Scope) (f i : Nat) : Expr → Bool
  | .Attribute (.Name x _) y _ => nameOk N sc i x && decide (y = ck.fN f)
  | _ => false
def attrK (ck : Ck) (f : Nat) (ce : Expr → Bool) : Expr → Bool
  | .Attribute ob y _ => decide (y = ck.fN f) && notSup ob && ce ob
  | _ => false
def isiK (ck : Ck) (sc : Scope) (c : Nat) (ce : Expr → Bool) : Expr → Bool
  | .Call (.Name z _) [a, .Name x _] [] _ => decide (z = "isinstance") && globOk sc z && isBlt (ck.gt.lookup z) && globOk sc x && isClsK (ck.gt.lookup x) c && notStar a && ce a
  | _ => false
def eqK (ne : Bool) (ca cb : Expr → Bool) : Expr → Bool
  | .Compare x [.Eq] [y] _ => !ne && notSet y && ca x && cb y
  | .Compare x [.NotEq] [y] _ => ne && notSet y && ca x && cb y
  | _ => false
def blkK (ck : Ck) (N : List Str) (sc : Scope) (tg : Tg) (ik : IK) (w : List Nat) (ci : List Expr → Bool) (scope : Scope) (t it : Expr) : Bool :=
  blkC N sc scope (ownNm N w) && tgOk N (stnB scope) t tg && (tg.slots.all fun j => w.contains j) && notSet it && (match itK ck sc ik t it with | some as => ci as | none => false)
def lcK (ck : Ck) (N : List Str) (sc : Scope) (tg : Tg) (ik : IK) (w : List Nat) (ci : List Expr → Bool) (cc : Scope → List Expr → Bool) (ce : Scope → Expr → Bool) : Expr → Bool
  | .ListComp el [⟨t, it, ifs, 0⟩] scope _ => blkK ck N sc tg ik w ci scope t it && cc (relS scope sc) ifs && ce (relS scope sc) el
  | _ => false
def dcK (ck : Ck) (N : List Str) (sc : Scope) (tg : Tg) (ik : IK) (w : List Nat) (ci : List Expr → Bool) (cc : Scope → List Expr → Bool) (ca cb : Scope → Expr → Bool) : Expr → Bool
  | .DictComp kx vx [⟨t, it, ifs, 0⟩] scope _ => blkK ck N sc tg ik w ci scope t it && cc (relS scope sc) ifs && ca (relS scope sc) kx && cb (relS scope sc) vx
  | _ => false
def fstK (chk : List Expr → Bool) : Expr → Bool
  | .JoinedStr (v1 :: v2 :: r) _ => chk (v1 :: v2 :: r)
  | _ => false
/-- a part of an f-string: a text that is the constant e, or a value -/
def fpK (tx : Option Tx) (ce : Expr → Bool) : Expr → Bool
  | .Constant (.str y) _ _ => (match tx with | some x => decide (y = txS x) && txOk x | none => false)
  | .FormattedValue b c none _ => decide (c = -1) && ce b
  | _ => false
def cTx : E → Option Tx
  | .cst (.str x) => some x
  | _ => none
mutual
def chkE (ck : Ck) (N : List Str) : E → Scope → Expr → Bool
  | .var i, sc, a => varK N sc i a
  | .cst d, _, a => cstK d a
  | .gl _ d, sc, a => glK ck sc d a
  | .prim p es, sc, a => primK ck sc p (fun as => chkEs ck N es sc as) a
  | .tm p e f, sc, a => evB e && evB f && tmK p (fun x => chkE ck N e sc x) (fun x => chkE ck N f sc x) a
  | .idxV i e, sc, a => evB e && idxVK N sc i (fun x => chkE ck N e sc x) a
  | .tup es, sc, a => tupK (fun as => chkEs ck N es sc as) a
  | .lst es, sc, a => lstK (fun as => chkEs ck N es sc as) a
  | .lstS e es, sc, a => evB e && lstSK (fun x => chkE ck N e sc x) (fun as => chkEs ck N es sc as) a
  | .newK, _, a => newKK a
  | .newT, _, a => newKK a
  | .bool i es, sc, a => boolK i (fun as => chkBs ck N es sc as) a
  | .not e, sc, a => evB e && etB e && notK (fun x => chkE ck N e sc x) a
  | .ifx c e f, sc, a => etB c && evB e && evB f && ifxK (fun x => chkE ck N c sc x) (fun x => chkE ck N e sc x) (fun x => chkE ck N f sc x) a
  | .chain p q e f h, sc, a => evB e && evB f && evB h && chainK p q (fun x => chkE ck N e sc x) (fun x => chkE ck N f sc x) (fun x => chkE ck N h sc x) a
  | .call f ms es, sc, a => callK ck N sc f ms (fun as => chkEs ck N es sc as) a
  | .meth m ms o es, sc, a => evB o && methK ck N sc m ms (fun x => chkE ck N o sc x) (fun as => chkEs ck N es sc as) a
  | .make c es, sc, a => makeK ck sc c (fun as => chkEs ck N es sc as) a
  | .attrV f i, sc, a => attrVK ck N sc f i a
  | .attr f e, sc, a => evB e && attrK ck f (fun x => chkE ck N e sc x) a
  | .isi c e, sc, a => evB e && isiK ck sc c (fun x => chkE ck N e sc x) a
  | .eqO ne e f, sc, a => evB e && evB f && eqK ne (fun x => chkE ck N e sc x) (fun x => chkE ck N f sc x) a
  | .lc tg ik ia cs ee w, sc, a => evB ee && lcK ck N sc tg ik w (fun as => chkEs ck N ia sc as) (fun sc' as => chkCs ck N cs sc' as) (fun sc' x => chkE ck N ee sc' x) a
  | .dc tk tg ik ia cs ek ev w, sc, a => !tk && evB ek && evB ev && dcK ck N sc tg ik w (fun as => chkEs ck N ia sc as) (fun sc' as => chkCs ck N cs sc' as) (fun sc' x => chkE ck N ek sc' x) (fun sc' x => chkE ck N ev sc' x) a
  | .bor e, sc, a => evB e && chkE ck N e sc a
  | .borT e, sc, a => etB e && chkE ck N e sc a
  | .fst es, sc, a => fstK (fun as => chkFs ck N es sc as) a
def chkEs (ck : Ck) (N : List Str) : List E → Scope → List Expr → Bool
  | [], _, as => as.isEmpty
  | e :: es, sc, as => (match as with
    | a :: as => evB e && notStar a && chkE ck N e sc a && chkEs ck N es sc as
    | [] => false)
def chkBs (ck : Ck) (N : List Str) : List E → Scope → List Expr → Bool
  | [], _, as => as.isEmpty
  | e :: es, sc, as => (match as with
    | a :: as => evB e && etB e && chkE ck N e sc a && chkBs ck N es sc as
    | [] => false)
def chkCs (ck : Ck) (N : List Str) : List E → Scope → List Expr → Bool
  | [], _, as => as.isEmpty
  | e :: es, sc, as => (match as with
    | [a] => etB e && chkE ck N e sc a && es.isEmpty
    | _ => false)
def chkFs (ck : Ck) (N : List Str) : List E → Scope → List Expr → Bool
  | [], _, as => as.isEmpty
  | e :: es, sc, as => (match as with
    | a :: as => fpK (cTx e) (fun x => evB e && chkE ck N e sc x) a && chkFs ck N es sc as
    | [] => false)
end
end Mr

/-! What the checker lets through is sound: expressions. -/
namespace Mr
open PySem L2
structure CkOk (g : Gs) (T : Tb) (fa : Nat → Addr) (ck : Ck) : Prop where
  fn : ∀ x f, ck.gt.lookup x = some (.fn f) → g.mg x = some (.ref (fa f)) ∧ PySem.W.keepIn g.K (.ref (fa f)) = true
  cls : ∀ x c, ck.gt.lookup x = some (.cls c) → g.mg x = some (.ref (g.c.cA c))
  cst : ∀ x d, ck.gt.lookup x = some (.cst d) → ∃ u v, g.mg x = some u ∧ RelV v u ∧ ∀ G, Rep g.c g.K G d v
  blt : ∀ x, ck.gt.lookup x = some .blt → g.mg x = none
  err : ∀ x, ck.gt.lookup x = some .err → ∃ u, g.mg x = some u
  fN : ∀ i, ck.fN i = g.c.fN i
  init : ∀ c, ck.init c = T.init c
section
variable {g : Gs} {W : WX} {X : Cx} {B : Addr → Prop} {pn : List Nat} {a b c node o : Expr} {as : List Expr} {sc : Scope} {N : List Str} {k kk : Nat} {pos p2 apos : Pos} {T : Tb} {ea eb ec eo : E} {es : List E} {fa : Nat → Addr} {ck : Ck}
theorem Ctx.gl (C : Ctx g sc N k W X) {x : Str} (h : globOk sc x = true) : Gl X x ∧ (x == ("__debug__" : Str)) = false := by
  simp only [globOk, Bool.and_eq_true] at h
  obtain ⟨h1, h2⟩ := h
  refine ⟨?_, by simpa using h2⟩
  show X.env.scope.names.lookup x = some .globalImplicit
  rw [C.hs]
  split at h1
  · assumption
  · cases h1
theorem nameOk_i {i : Nat} {x : Str} (h : nameOk N sc i x = true) : N[i]? = some x ∧ Vis sc x ∧ (x == ("__debug__" : Str)) = false ∧ (x == ("__classdict__" : Str)) = false := by
  simp only [nameOk, Bool.and_eq_true, decide_eq_true_eq] at h
  obtain ⟨⟨⟨h1, h2⟩, h3⟩, h4⟩ := h
  refine ⟨h1, ?_, by simpa using h3, by simpa using h4⟩
  split at h2
  · exact .inl (by assumption)
  · exact .inr (.inl (by assumption))
  · exact .inr (.inr (by assumption))
  · cases h2
theorem sameC_i {d e : D} (h : sameC d e = true) : d = e := by
  cases d <;> cases e <;> simp [sameC] at h
  · rw [h]
  · rw [h]
/-- soundness of one expression, of a list -/
def Snd (g : Gs) (B : Addr → Prop) (pn : List Nat) (T : Tb) (N : List Str) (k : Nat) (e : E) (sc : Scope) (a : Expr) : Prop := ∀ X W, Ctx g sc N k W X → (evB e = true → EvOk g W X B pn a (evalE T e)) ∧ (etB e = true → EtOk g W X B pn a (tE T e))
inductive SndAll (g : Gs) (B : Addr → Prop) (pn : List Nat) (T : Tb) (N : List Str) (k : Nat) (sc : Scope) : List E → List Expr → Prop where
  | nil : SndAll g B pn T N k sc [] []
  | cons {e : E} {a : Expr} {es : List E} {as : List Expr} : notStar a = true → (∀ X W, Ctx g sc N k W X → EvOk g W X B pn a (evalE T e)) → SndAll g B pn T N k sc es as → SndAll g B pn T N k sc (e :: es) (a :: as)
inductive SndB (g : Gs) (B : Addr → Prop) (pn : List Nat) (T : Tb) (N : List Str) (k : Nat) (sc : Scope) : List E → List Expr → Prop where
  | nil : SndB g B pn T N k sc [] []
  | cons {e : E} {a : Expr} {es : List E} {as : List Expr} : (∀ X W, Ctx g sc N k W X → EvOk g W X B pn a (evalE T e) ∧ EtOk g W X B pn a (tE T e)) → SndB g B pn T N k sc es as → SndB g B pn T N k sc (e :: es) (a :: as)
inductive SndF (g : Gs) (B : Addr → Prop) (pn : List Nat) (T : Tb) (N : List Str) (k : Nat) (sc : Scope) : List E → List Expr → Prop where
  | nil : SndF g B pn T N k sc [] []
  | txt {x : Tx} {j : Nat} {p : Pos} {as : List Expr} {es : List E} : txOk x = true → SndF g B pn T N k sc es as → SndF g B pn T N k sc (.cst (.str x) :: es) (.Constant (.str (txS x)) j p :: as)
  | fmt {a : Expr} {e : E} {p : Pos} {as : List Expr} {es : List E} : (∀ X W, Ctx g sc N k W X → EvOk g W X B pn a (evalE T e)) → SndF g B pn T N k sc es as → SndF g B pn T N k sc (e :: es) (.FormattedValue a (-1) none p :: as)
theorem SndAll.args (h : SndAll g B pn T N k sc es as) (C : Ctx g sc N k W X) : EaOk g W X B pn as (evalDs T es) := by
  induction h with
  | nil =>
    have : evalDs T [] = fun ρ => .ok ([], ρ) := by funext ρ; simp only [evalDs]
    rw [this]
    exact ea_nil
  | @cons e a es as hs he hr ih =>
    have : evalDs T (e :: es) = fun ρ => (vE T e ρ).bind fun x => (evalDs T es x.2).bind fun y => .ok (x.1 :: y.1, y.2) := by funext ρ; simp only [evalDs]
    rw [this]
    exact ea_cons (star_ok hs) (he X W C).d ih
theorem SndAll.len (h : SndAll g B pn T N k sc es as) : es.length = as.length := by
  induction h with
  | nil => rfl
  | cons _ _ _ ih => rw [List.length_cons, List.length_cons, ih]
theorem SndAll.one (h : SndAll g B pn T N k sc es [a]) : ∃ e, es = [e] ∧ ∀ X W, Ctx g sc N k W X → EvOk g W X B pn a (evalE T e) := by
  cases h with
  | cons hs he hr => cases hr; exact ⟨_, rfl, he⟩
theorem SndAll.two (h : SndAll g B pn T N k sc es [a, b]) : ∃ e f, es = [e, f] ∧ (∀ X W, Ctx g sc N k W X → EvOk g W X B pn a (evalE T e)) ∧ ∀ X W, Ctx g sc N k W X → EvOk g W X B pn b (evalE T f) := by
  cases h with
  | cons hs he hr =>
    obtain ⟨f, rfl, hf⟩ := hr.one
    exact ⟨_, f, rfl, he, hf⟩
theorem SndB.each (h : SndB g B pn T N k sc es as) (C : Ctx g sc N k W X) : Each g W X B pn T as es := by
  induction h with
  | nil => exact .nil
  | cons he hr ih => exact .cons (he X W C).1 (he X W C).2 ih
theorem SndF.parts (h : SndF g B pn T N k sc es as) (C : Ctx g sc N k W X) : FParts g W X B pn T as es := by
  induction h with
  | nil => exact .nil
  | txt t _ ih => exact .txt t ih
  | fmt he _ ih => exact .fmt (he X W C) ih
theorem margs_of (h : SndAll g B pn T N k sc es as) (C : Ctx g sc N k W X) : ∀ {ms : List (Option Nat)} {bs : List Expr}, lentNm N sc ms bs = some as → bs.all notStar = true → MArgs g W X B pn T N sc bs ms es := by
  intro ms
  induction ms generalizing es as with
  | nil =>
    intro bs hl hs
    cases bs with
    | cons _ _ => cases hl
    | nil =>
      cases hl
      cases h
      exact .nil
  | cons m ms ih =>
    intro bs hl hs
    cases bs with
    | nil => cases m <;> cases hl
    | cons b bs =>
      rw [List.all_cons, Bool.and_eq_true] at hs
      cases m with
      | none =>
        simp only [lentNm] at hl
        cases e : lentNm N sc ms bs with
        | none => rw [e] at hl; cases hl
        | some r =>
          rw [e] at hl
          cases hl
          cases h with
          | cons hs' he hr => exact .dat hs.1 (he X W C) (ih hr e hs.2)
      | some j =>
        cases b <;> try (simp [lentNm] at hl)
        rename_i x p
        obtain ⟨hn, hl⟩ := hl
        obtain ⟨h1, h2, h3, h4⟩ := nameOk_i hn
        exact .lent h1 h2 h3 h4 (ih h hl hs.2)
/-- a value of a shape that is no test of its own -/
theorem both (C : Ctx g sc N k W X) (hp : plainT a = true) (h : EvOk g W X B pn a (evalE T ea)) : (evB ea = true → EvOk g W X B pn a (evalE T ea)) ∧ (etB ea = true → EtOk g W X B pn a (tE T ea)) := ⟨fun _ => h, fun _ => plain_test C hp h⟩
theorem mg_none (KO : CkOk g T fa ck) (C : Ctx g sc N k W X) {x : Str} (h : isBlt (ck.gt.lookup x) = true) : X.mg x = none := by
  rw [C.hm]
  cases e : ck.gt.lookup x with
  | none => rw [e] at h; cases h
  | some gk =>
    rw [e] at h
    cases gk <;> try cases h
    exact KO.blt x e
theorem mg_fn (KO : CkOk g T fa ck) {x : Str} {f : Nat} (h : isFnK (ck.gt.lookup x) f = true) : g.mg x = some (.ref (fa f)) ∧ PySem.W.keepIn g.K (.ref (fa f)) = true := by
  cases e : ck.gt.lookup x with
  | none => rw [e] at h; cases h
  | some gk =>
    rw [e] at h
    cases gk <;> try cases h
    rename_i i
    have : i = f := by simpa [isFnK] using h
    subst this
    exact KO.fn x _ e
theorem mg_cls (KO : CkOk g T fa ck) {x : Str} {f : Nat} (h : isClsK (ck.gt.lookup x) f = true) : g.mg x = some (.ref (g.c.cA f)) := by
  cases e : ck.gt.lookup x with
  | none => rw [e] at h; cases h
  | some gk =>
    rw [e] at h
    cases gk <;> try cases h
    rename_i i
    have : i = f := by simpa [isClsK] using h
    subst this
    exact KO.cls x _ e
theorem mg_cst (KO : CkOk g T fa ck) {x : Str} {d : D} (h : isCst (ck.gt.lookup x) d = true) : ∃ u v, g.mg x = some u ∧ RelV v u ∧ ∀ G, Rep g.c g.K G d v := by
  cases e : ck.gt.lookup x with
  | none => rw [e] at h; cases h
  | some gk =>
    rw [e] at h
    cases gk <;> try cases h
    rename_i d'
    have : d' = d := sameC_i (by simpa [isCst] using h)
    subst this
    exact KO.cst x _ e
theorem bin_snd {p : Pr} {op : Operator} (hb : binK p op = true) (ha : EvOk g W X B pn a (evalE T ea)) (hbb : EvOk g W X B pn b (evalE T eb)) (C : Ctx g sc N k W X) : EvOk g W X B pn (.BinOp a op b pos) (evalE T (.prim p [ea, eb])) := by
  cases p <;> cases op <;> try cases hb
  · exact bin_ok (by have z := op_addA (X := X); rw [C.hK] at z; exact z) p2_add ha.d hbb.d
  · exact bin_ok op_subT p2_sub ha.d hbb.d
  · exact bin_ok op_mul p2_mul ha.d hbb.d
  · exact bin_ok op_fdivW p2_fdiv ha.d hbb.d
  · exact bin_ok op_mod p2_mod ha.d hbb.d
  · exact bin_ok op_pow p2_pow ha.d hbb.d
theorem cmp_snd {p : Pr} {op : CmpOp} (hb : cmpK p op = true) (hm : notSet b = true) (ha : EvOk g W X B pn a (evalE T ea)) (hbb : EvOk g W X B pn b (evalE T eb)) (C : Ctx g sc N k W X) : EvOk g W X B pn (.Compare a [op] [b] pos) (evalE T (.prim p [ea, eb])) ∧ EtOk g W X B pn (.Compare a [op] [b] pos) (tE T (.prim p [ea, eb])) := by
  have e0 : ∀ ρ, evalE T (.prim p [ea, eb]) ρ = (two (vE T ea) (vE T eb) ρ).bind fun x => slR (pr p [x.1.1, x.1.2]) x.2 := fun ρ => by
    simp only [evalE]
    exact evalDs2 T ea eb ρ _
  have main : CmpOk g X (.Compare a [op] [b] pos) a b (fun x y => pr p [x, y]) → EvOk g W X B pn (.Compare a [op] [b] pos) (evalE T (.prim p [ea, eb])) ∧ EtOk g W X B pn (.Compare a [op] [b] pos) (tE T (.prim p [ea, eb])) := fun h => by
    refine ⟨(h.ev ha.d hbb.d).to e0, ?_⟩
    have : tE T (.prim p [ea, eb]) = fun ρ => toT ((two (vE T ea) (vE T eb) ρ).bind fun x => slR (pr p [x.1.1, x.1.2]) x.2) := by
      funext ρ
      show toT (evalE T (.prim p [ea, eb]) ρ) = _
      rw [e0]
    rw [this]
    exact h.et ha.d hbb.d
  cases p <;> cases op <;> try cases hb
  · exact main (cmp_ok hm op_ltA p2_lt)
  · exact main (cmp_ok hm op_leA p2_le)
  · exact main (cmp_ok hm op_gtA p2_gt)
  · exact main (cmp_ok hm op_geA p2_ge)
  · exact main (in_ok C hm)
  · exact main (nin_ok C hm)
theorem ord_snd {p : Pr} {op : CmpOp} (h : ordK p op = true) : ∃ r, OpR X (compareOp op) r ∧ P2B g p r := by
  cases p <;> cases op <;> try cases h
  · exact ⟨_, op_ltA, p2_lt⟩
  · exact ⟨_, op_leA, p2_le⟩
  · exact ⟨_, op_gtA, p2_gt⟩
  · exact ⟨_, op_geA, p2_ge⟩
theorem eq_snd {ne : Bool} {op : CmpOp} (TO : TOk g kk T fa) (hkk : kk ≤ k) (h : (match ne, op with | false, .Eq => true | true, .NotEq => true | _, _ => false) = true) (hm : notSet b = true) (ha : EvOk g W X B pn a (evalE T ea)) (hb : EvOk g W X B pn b (evalE T eb)) (C : Ctx g sc N k W X) :
    EvOk g W X B pn (.Compare a [op] [b] pos) (evalE T (.eqO ne ea eb)) ∧ EtOk g W X B pn (.Compare a [op] [b] pos) (tE T (.eqO ne ea eb)) := by
  have e0 : ∀ ρ, evalE T (.eqO ne ea eb) ρ = (two (vE T ea) (vE T eb) ρ).bind fun x => slR (eqS T ne x.1.1 x.1.2) x.2 := fun ρ => by
    simp only [evalE]
    unfold two vE
    cases toD (evalE T ea ρ) with
    | stk => rfl
    | exc _ _ _ => rfl
    | ok p =>
      obtain ⟨x, ρ1⟩ := p
      simp only [R.bind]
      cases toD (evalE T eb ρ1) with
      | stk => rfl
      | exc _ _ _ => rfl
      | ok q => rfl
  have main : CmpOk2 g X (.Compare a [op] [b] pos) a b (eqS T ne) → EvOk g W X B pn (.Compare a [op] [b] pos) (evalE T (.eqO ne ea eb)) ∧ EtOk g W X B pn (.Compare a [op] [b] pos) (tE T (.eqO ne ea eb)) := fun h => by
    refine ⟨(h.ev ha.d hb.d).to e0, ?_⟩
    have : tE T (.eqO ne ea eb) = fun ρ => toT ((two (vE T ea) (vE T eb) ρ).bind fun x => slR (eqS T ne x.1.1 x.1.2) x.2) := by
      funext ρ
      show toT (evalE T (.eqO ne ea eb) ρ) = _
      rw [e0]
    rw [this]
    exact h.et ha.d hb.d
  cases ne <;> cases op <;> try cases h
  · exact main (eq_ok C TO hkk hm)
  · exact main (ne_ok C hm)
theorem blt_snd {p : Pr} {x : Str} {p1 : Pos} (hb : bltK p x = true) (hg : globOk sc x = true) (hm : X.mg x = none) (hs : (a :: as).all notStar = true) (ha : EaOk g W X B pn (a :: as) (evalDs T es)) (C : Ctx g sc N k W X) : EvOk g W X B pn (.Call (.Name x p1) (a :: as) [] pos) (evalE T (.prim p es)) := by
  obtain ⟨hgl, hdb⟩ := C.gl hg
  cases p <;> try (simp [bltK] at hb) <;> subst hb
  · exact callB_ok (cp_len C.hK) hgl hm (by decide +kernel) (by decide) hdb hs ha
  · exact callB_ok (cp_sum C.hK C.calm) hgl hm (by decide +kernel) (by decide) hdb hs ha
  · exact callB_ok (cp_sorted C) hgl hm (by decide +kernel) (by decide) hdb hs ha
  · exact callT_ok (cp_tuple C.hK) hgl hm (by decide +kernel) (by decide) hdb hs ha
  · exact callT_ok (cp_list C.hK) hgl hm (by decide +kernel) (by decide) hdb hs ha
  · exact callT_ok (cp_dict C) hgl hm (by decide +kernel) (by decide) hdb hs ha
  · exact callT_ok (cp_dictT C) hgl hm (by decide +kernel) (by decide) hdb hs ha
  · exact callT_ok cp_int hgl hm (by decide +kernel) (by decide) hdb hs ha
  · exact callT_ok cp_str hgl hm (by decide +kernel) (by decide) hdb hs ha
  · exact callB_ok cp_abs hgl hm (by decide +kernel) (by decide) hdb hs ha
  · exact callB_ok (cp_all C.hK C.calm) hgl hm (by decide +kernel) (by decide) hdb hs ha
theorem mth_snd {p : Pr} {y : Str} (h : mthK p y = true) (hs : notStar b = true) (hu : notSup a = true) (hl : (apos.endLine == pos.line) = true) (ha : EvOk g W X B pn a (evalE T ea)) (hb : EvOk g W X B pn b (evalE T eb)) : EvOk g W X B pn (.Call (.Attribute a y apos) [b] [] pos) (evalE T (.tm p ea eb)) := by
  cases p <;> try (simp [mthK] at h) <;> subst h
  · exact meth1_ok F.slot_str_split F.type_str_split mp_split hs hu hl ha.d hb.d
  · exact meth1_ok F.slot_str_join F.type_str_join mp_join hs hu hl ha.d hb.d
  · exact meth1_ok F.slot_str_strip F.type_str_strip mp_strip hs hu hl ha.d hb.d
end
end Mr

/-! What the checker lets through is sound: the induction over expressions. -/
namespace Mr
open PySem L2
section
variable {g : Gs} {B : Addr → Prop} {pn : List Nat} {N : List Str} {k kk : Nat} {T : Tb} {fa : Nat → Addr} {ck : Ck} {sc : Scope} {es : List E} {chk : List Expr → Bool} {a : Expr}
theorem SndAll.it {ik : IK} {tg it : Expr} {as : List Expr} {ia : List E} {W : WX} {X : Cx} (KO : CkOk g T fa ck) (C : Ctx g sc N k W X) (hi : itK ck sc ik tg it = some as) (h : SndAll g B pn T N k sc ia as) : ItOk g W X B pn tg it (itE T ik ia) := by
  cases ik with
  | seq =>
    cases hi
    obtain ⟨e, rfl, he⟩ := h.one
    exact seq_ok C (he X W C)
  | rng1 =>
    have hi : rngA ck sc it = some as := hi
    unfold rngA at hi
    split at hi
    · split at hi
      · rename_i hc
        cases hi
        simp only [Bool.and_eq_true, decide_eq_true_eq] at hc
        obtain ⟨⟨⟨rfl, hg⟩, hb⟩, hs⟩ := hc
        obtain ⟨e, rfl, he⟩ := h.one
        exact rng1_ok C (C.gl hg).1 (mg_none KO C hb) hs (he X W C)
      · cases hi
    · cases hi
  | enum =>
    have hi : enumA ck sc tg it = some as := hi
    unfold enumA at hi
    split at hi
    · split at hi
      · rename_i hc
        cases hi
        simp only [Bool.and_eq_true, decide_eq_true_eq] at hc
        obtain ⟨⟨⟨rfl, hg⟩, hb⟩, hs⟩ := hc
        obtain ⟨e, rfl, he⟩ := h.one
        exact enum_ok C (C.gl hg).1 (mg_none KO C hb) hs (he X W C)
      · cases hi
    · cases hi
  | rng2 => cases hi
  | zip => cases hi
  | keys => cases hi
  | items => cases hi
theorem own_snd {w : List Nat} : (ownNm N w).map (·.2) = w := by
  unfold ownNm
  rw [List.map_map]
  show w.map (fun i => i) = w
  exact List.map_id' w
theorem prim_snd {p : Pr} (KO : CkOk g T fa ck) (ih : ∀ as, chk as = true → SndAll g B pn T N k sc es as) (h : primK ck sc p chk a = true) : Snd g B pn T N k (.prim p es) sc a := by
  unfold primK at h
  split at h
  · rw [Bool.and_eq_true] at h
    obtain ⟨e, f, rfl, he, hf⟩ := (ih _ h.2).two
    exact fun X W C => both C rfl (bin_snd h.1 (he X W C) (hf X W C) C)
  · rw [Bool.and_eq_true] at h
    obtain ⟨e, rfl, he⟩ := (ih _ h.2).one
    have hp : p = .neg := by
      have := h.1
      split at this
      · rfl
      · cases this
    subst hp
    exact fun X W C => both C rfl (neg_ok (he X W C).d)
  · unfold isNK at h
    split at h
    · rw [Bool.and_eq_true] at h
      obtain ⟨e, rfl, he⟩ := (ih _ h.2).one
      have hp : p = .isN := by
        have := h.1
        split at this
        · rfl
        · cases this
      subst hp
      exact fun X W C => ⟨fun _ => (isN_ok (he X W C).d).1, fun _ => (isN_ok (he X W C).d).2⟩
    · rw [Bool.and_eq_true] at h
      obtain ⟨e, rfl, he⟩ := (ih _ h.2).one
      have hp : p = .ntN := by
        have := h.1
        split at this
        · rfl
        · cases this
      subst hp
      exact fun X W C => ⟨fun _ => (ntN_ok (he X W C).d).1, fun _ => (ntN_ok (he X W C).d).2⟩
    · rw [Bool.and_eq_true, Bool.and_eq_true] at h
      obtain ⟨e, f, rfl, he, hf⟩ := (ih _ h.2).two
      exact fun X W C => ⟨fun _ => (cmp_snd h.1.1 h.1.2 (he X W C) (hf X W C) C).1, fun _ => (cmp_snd h.1.1 h.1.2 (he X W C) (hf X W C) C).2⟩
  · split at h
    · unfold slK at h
      split at h
      · rw [Bool.and_eq_true] at h
        obtain ⟨e, f, rfl, he, hf⟩ := (ih _ h.2).two
        have hp : p = .sl01 := by
          have := h.1
          split at this
          · rfl
          · cases this
        subst hp
        exact fun X W C => both C rfl (sl01_ok C (he X W C).d (hf X W C).d)
      · rw [Bool.and_eq_true] at h
        obtain ⟨e, f, rfl, he, hf⟩ := (ih _ h.2).two
        have hp : p = .sl10 := by
          have := h.1
          split at this
          · rfl
          · cases this
        subst hp
        exact fun X W C => both C rfl (sl10_ok C (he X W C).d (hf X W C).d)
      · rw [Bool.and_eq_true, Bool.and_eq_true, decide_eq_true_eq] at h
        obtain ⟨⟨rfl, h1⟩, h2⟩ := h
        obtain ⟨e, rfl, he⟩ := (ih _ h2).one
        have hp : p = .rev := by
          split at h1
          · rfl
          · cases h1
        subst hp
        exact fun X W C => both C rfl (rev_ok C (he X W C).d)
      · cases h
    · rw [Bool.and_eq_true, Bool.and_eq_true] at h
      obtain ⟨e, f, rfl, he, hf⟩ := (ih _ h.2).two
      have hp : p = .idx := by
        have := h.1.1
        split at this
        · rfl
        · cases this
      subst hp
      exact fun X W C => both C rfl (idx_ok C h.1.2 (he X W C).d (hf X W C).d)
  · rw [Bool.and_eq_true, Bool.and_eq_true, Bool.and_eq_true, Bool.and_eq_true] at h
    obtain ⟨⟨⟨⟨h1, h2⟩, h3⟩, h4⟩, h5⟩ := h
    exact fun X W C => both C rfl (blt_snd h1 h2 (mg_none KO C h3) h4 ((ih _ h5).args C) C)
  · cases h
theorem args_snd {ms : List (Option Nat)} {as : List Expr} {W : WX} {X : Cx} (C : Ctx g sc N k W X) (ih : ∀ as, chk as = true → SndAll g B pn T N k sc es as) (h : argsK N sc ms chk as = true) : MArgs g W X B pn T N sc as ms es := by
  unfold argsK at h
  split at h
  · rename_i ds e
    rw [Bool.and_eq_true] at h
    exact margs_of (ih _ h.1) C e h.2
  · cases h
theorem and3 {p q r : Bool} (h : (p && q && r) = true) : p = true ∧ q = true ∧ r = true := by simpa [and_assoc] using h
theorem blk_snd {tg : Tg} {ik : IK} {w : List Nat} {scope : Scope} {t it : Expr} {ia : List E} (KO : CkOk g T fa ck) (ih : ∀ as, chk as = true → SndAll g B pn T N k sc ia as) (h : blkK ck N sc tg ik w chk scope t it = true) :
    blkC N sc scope (ownNm N w) = true ∧ tgOk N (stnB scope) t tg = true ∧ (∀ j, j ∈ tg.slots → j ∈ w) ∧ notSet it = true ∧ ∀ X W, Ctx g sc N k W X → ItOk g W X B pn t it (itE T ik ia) := by
  unfold blkK at h
  rw [Bool.and_eq_true, Bool.and_eq_true, Bool.and_eq_true, Bool.and_eq_true] at h
  obtain ⟨⟨⟨⟨h1, h2⟩, h3⟩, h4⟩, h5⟩ := h
  refine ⟨h1, h2, fun j hj => by simpa using List.all_eq_true.mp h3 j hj, h4, fun X W C => ?_⟩
  split at h5
  · rename_i as e
    exact (ih _ h5).it KO C e
  · cases h5
mutual
theorem sndE (KO : CkOk g T fa ck) (TO : TOk g kk T fa) (hkk : kk + 1 ≤ k) : ∀ (e : E) (sc : Scope) (a : Expr), chkE ck N e sc a = true → Snd g B pn T N k e sc a
  | .var i, sc, a, h => by
    simp only [chkE] at h
    unfold varK at h
    split at h
    · obtain ⟨h1, h2, h3, h4⟩ := nameOk_i h
      exact fun X W C => both C rfl (var_ok C h1 h2 h3 h4)
    · cases h
  | .cst d, sc, a, h => by
    simp only [chkE] at h
    unfold cstK at h
    split at h
    · exact fun X W C => both C rfl (cst_ok h)
    · cases h
  | .gl n d, sc, a, h => by
    simp only [chkE] at h
    unfold glK at h
    split at h
    · rw [Bool.and_eq_true] at h
      obtain ⟨u, v, h1, h2, h3⟩ := mg_cst KO h.2
      exact fun X W C => both C rfl (gl_ok (C.gl h.1).1 (by rw [C.hm]; exact h1) h2 (C.gl h.1).2 h3)
    · cases h
  | .prim p es, sc, a, h => by
    simp only [chkE] at h
    exact prim_snd KO (fun as h' => sndEs KO TO hkk es sc as h') h
  | .tm p e f, sc, a, h => by
    simp only [chkE] at h
    obtain ⟨e1, e2, h⟩ := and3 h
    unfold tmK at h
    split at h
    · rw [Bool.and_eq_true, Bool.and_eq_true, Bool.and_eq_true, Bool.and_eq_true, Bool.and_eq_true] at h
      obtain ⟨⟨⟨⟨⟨h1, h2⟩, h3⟩, h4⟩, h5⟩, h6⟩ := h
      exact fun X W C => both C rfl (mth_snd h1 h2 h3 h4 ((sndE KO TO hkk e sc _ h5 X W C).1 e1) ((sndE KO TO hkk f sc _ h6 X W C).1 e2))
    · cases h
  | .idxV i e, sc, a, h => by
    simp only [chkE] at h
    rw [Bool.and_eq_true] at h
    obtain ⟨e1, h⟩ := h
    unfold idxVK at h
    split at h
    · obtain ⟨h1, h2, h3⟩ := and3 h
      obtain ⟨n1, n2, n3, n4⟩ := nameOk_i h1
      exact fun X W C => both C rfl (idxV_ok C n1 n2 n3 n4 h2 ((sndE KO TO hkk e sc _ h3 X W C).1 e1).d)
    · cases h
  | .tup es, sc, a, h => by
    simp only [chkE] at h
    unfold tupK at h
    split at h
    · rw [Bool.and_eq_true, decide_eq_true_eq] at h
      have ih := sndEs KO TO hkk es sc _ h.2
      exact fun X W C => both C rfl (tup_ok h.1 ih.len (ih.args C) fun ρ ds ρ' => evalDs_len T es ρ ds ρ')
    · cases h
  | .lst es, sc, a, h => by
    simp only [chkE] at h
    unfold lstK at h
    split at h
    · rw [Bool.and_eq_true, decide_eq_true_eq] at h
      have ih := sndEs KO TO hkk es sc _ h.2
      exact fun X W C => both C rfl (lst_ok h.1 ih.len (ih.args C) fun ρ ds ρ' => evalDs_len T es ρ ds ρ')
    · cases h
  | .lstS e es, sc, a, h => by
    simp only [chkE] at h
    rw [Bool.and_eq_true] at h
    obtain ⟨e1, h⟩ := h
    unfold lstSK at h
    split at h
    · rw [Bool.and_eq_true] at h
      have ih := sndEs KO TO hkk es sc _ h.2
      exact fun X W C => both C rfl (lstS_ok C ((sndE KO TO hkk e sc _ h.1 X W C).1 e1) (ih.args C))
    · cases h
  | .newK, sc, a, h => by
    simp only [chkE] at h
    unfold newKK at h
    split at h
    · exact fun X W C => both C rfl newK_ok
    · cases h
  | .newT, sc, a, h => by
    simp only [chkE] at h
    unfold newKK at h
    split at h
    · exact fun X W C => both C rfl newT_ok
    · cases h
  | .bool i es, sc, a, h => by
    simp only [chkE] at h
    unfold boolK at h
    split at h
    · obtain ⟨h1, h2, h3⟩ := and3 h
      subst h1
      rename_i as pos
      have ih := sndBs KO TO hkk es sc _ h3
      have hne : as ≠ [] := by simpa using h2
      refine fun X W C => ⟨fun _ => ?_, fun _ => ?_⟩
      · have := bool_v (i := true) (pos := pos) C (ih.each C) hne
        exact this.to fun ρ => by simp only [evalE]
      · have := (bool_w (i := true) (pos := pos) (ih.each C) hne).et
        have e0 : tE T (.bool true es) = fun ρ => toT (evalB T true es ρ) := by funext ρ; show toT (evalE T (.bool true es) ρ) = _; simp only [evalE]
        rw [e0]
        exact this
    · obtain ⟨h1, h2, h3⟩ := and3 h
      have h1 : i = false := by simpa using h1
      subst h1
      rename_i as pos
      have ih := sndBs KO TO hkk es sc _ h3
      have hne : as ≠ [] := by simpa using h2
      refine fun X W C => ⟨fun _ => ?_, fun _ => ?_⟩
      · have := bool_v (i := false) (pos := pos) C (ih.each C) hne
        exact this.to fun ρ => by simp only [evalE]
      · have := (bool_w (i := false) (pos := pos) (ih.each C) hne).et
        have e0 : tE T (.bool false es) = fun ρ => toT (evalB T false es ρ) := by funext ρ; show toT (evalE T (.bool false es) ρ) = _; simp only [evalE]
        rw [e0]
        exact this
    · cases h
  | .not e, sc, a, h => by
    simp only [chkE] at h
    obtain ⟨e1, e2, h⟩ := and3 h
    unfold notK at h
    split at h
    · exact fun X W C => ⟨fun _ => (not_ok C ((sndE KO TO hkk e sc _ h X W C).1 e1) ((sndE KO TO hkk e sc _ h X W C).2 e2)).1, fun _ => (not_ok C ((sndE KO TO hkk e sc _ h X W C).1 e1) ((sndE KO TO hkk e sc _ h X W C).2 e2)).2⟩
    · cases h
  | .ifx c e f, sc, a, h => by
    simp only [chkE] at h
    rw [Bool.and_eq_true] at h
    obtain ⟨h0, h⟩ := h
    obtain ⟨e1, e2, e3⟩ := and3 h0
    unfold ifxK at h
    split at h
    · obtain ⟨h1, h2, h3⟩ := and3 h
      exact fun X W C => ⟨fun _ => ifx_ok ((sndE KO TO hkk c sc _ h1 X W C).2 e1) ((sndE KO TO hkk e sc _ h2 X W C).1 e2) ((sndE KO TO hkk f sc _ h3 X W C).1 e3), fun z => by simp [etB] at z⟩
    · cases h
  | .chain p q e f l, sc, a, h => by
    simp only [chkE] at h
    rw [Bool.and_eq_true] at h
    obtain ⟨h0, h⟩ := h
    obtain ⟨e1, e2, e3⟩ := and3 h0
    unfold chainK at h
    split at h
    · rw [Bool.and_eq_true, Bool.and_eq_true, Bool.and_eq_true, Bool.and_eq_true, Bool.and_eq_true] at h
      obtain ⟨⟨⟨⟨⟨h1, h2⟩, h3⟩, h4⟩, h5⟩, h6⟩ := h
      refine fun X W C => ?_
      obtain ⟨r, o1, p1⟩ := ord_snd (g := g) (X := X) h1
      obtain ⟨r', o2, p2⟩ := ord_snd (g := g) (X := X) h2
      have z := chain_ok (pos := ‹Pos›) h3 o1 p1 o2 p2 ((sndE KO TO hkk e sc _ h4 X W C).1 e1).d ((sndE KO TO hkk f sc _ h5 X W C).1 e2).d ((sndE KO TO hkk l sc _ h6 X W C).1 e3).d
      exact ⟨fun _ => z.1, fun _ => z.2⟩
    · cases h
  | .call f ms es, sc, a, h => by
    simp only [chkE] at h
    unfold callK at h
    split at h
    · obtain ⟨h1, h2, h3⟩ := and3 h
      obtain ⟨m1, m2⟩ := mg_fn KO h2
      exact fun X W C => both C rfl (call_ok C TO (by omega) (C.gl h1).1 m1 m2 (C.gl h1).2 (args_snd C (fun as h' => sndEs KO TO hkk es sc as h') h3))
    · cases h
  | .meth m ms o es, sc, a, h => by
    simp only [chkE] at h
    rw [Bool.and_eq_true] at h
    obtain ⟨e1, h⟩ := h
    unfold methK at h
    split at h
    · rw [Bool.and_eq_true, Bool.and_eq_true, Bool.and_eq_true, Bool.and_eq_true, Bool.and_eq_true, decide_eq_true_eq, decide_eq_true_eq] at h
      obtain ⟨⟨⟨⟨⟨h1, h2⟩, h3⟩, h4⟩, h5⟩, h6⟩ := h
      exact fun X W C => both C rfl (meth_ok C TO (by omega) (h1.trans (KO.fN m)) ((sndE KO TO hkk o sc _ h5 X W C).1 e1) (args_snd C (fun as h' => sndEs KO TO hkk es sc as h') h6) h2 h3 h4)
    · cases h
  | .make c es, sc, a, h => by
    simp only [chkE] at h
    unfold makeK at h
    split at h
    · rw [Bool.and_eq_true, Bool.and_eq_true, Bool.and_eq_true, Bool.and_eq_true] at h
      obtain ⟨⟨⟨⟨h1, h2⟩, h3⟩, h4⟩, h5⟩ := h
      rw [KO.init] at h3
      obtain ⟨f, hf⟩ := Option.isSome_iff_exists.mp h3
      have ih := sndEs KO TO hkk es sc _ h5
      exact fun X W C => both C rfl (make_ok C TO hkk hf (C.gl h1).1 (mg_cls KO h2) (C.gl h1).2 h4 (ih.args C))
    · cases h
  | .attrV f i, sc, a, h => by
    simp only [chkE] at h
    unfold attrVK at h
    split at h
    · rw [Bool.and_eq_true, decide_eq_true_eq] at h
      obtain ⟨n1, n2, n3, n4⟩ := nameOk_i h.1
      exact fun X W C => both C rfl (attrV_ok C TO hkk (h.2.trans (KO.fN f)) n1 n2 n3 n4)
    · cases h
  | .attr f e, sc, a, h => by
    simp only [chkE] at h
    rw [Bool.and_eq_true] at h
    obtain ⟨e1, h⟩ := h
    unfold attrK at h
    split at h
    · obtain ⟨h1, h2, h3⟩ := and3 h
      exact fun X W C => both C rfl (attr_ok C TO hkk ((of_decide_eq_true h1).trans (KO.fN f)) h2 ((sndE KO TO hkk e sc _ h3 X W C).1 e1))
    · cases h
  | .isi c e, sc, a, h => by
    simp only [chkE] at h
    rw [Bool.and_eq_true] at h
    obtain ⟨e1, h⟩ := h
    unfold isiK at h
    split at h
    · rw [Bool.and_eq_true, Bool.and_eq_true, Bool.and_eq_true, Bool.and_eq_true, Bool.and_eq_true, Bool.and_eq_true, decide_eq_true_eq] at h
      obtain ⟨⟨⟨⟨⟨⟨rfl, h2⟩, h3⟩, h4⟩, h5⟩, h6⟩, h7⟩ := h
      exact fun X W C => both C rfl (isi_ok C TO (C.gl h2).1 (mg_none KO C h3) (C.gl h4).1 (mg_cls KO h5) (C.gl h4).2 h6 ((sndE KO TO hkk e sc _ h7 X W C).1 e1))
    · cases h
  | .eqO ne e f, sc, a, h => by
    simp only [chkE] at h
    obtain ⟨e1, e2, h⟩ := and3 h
    unfold eqK at h
    split at h
    · rw [Bool.and_eq_true, Bool.and_eq_true, Bool.and_eq_true] at h
      obtain ⟨⟨⟨h1, h2⟩, h3⟩, h4⟩ := h
      have h1 : ne = false := by simpa using h1
      subst h1
      refine fun X W C => ?_
      have z := eq_snd (pos := ‹Pos›) (ne := false) (op := .Eq) TO (by omega) rfl h2 ((sndE KO TO hkk e sc _ h3 X W C).1 e1) ((sndE KO TO hkk f sc _ h4 X W C).1 e2) C
      exact ⟨fun _ => z.1, fun _ => z.2⟩
    · rw [Bool.and_eq_true, Bool.and_eq_true, Bool.and_eq_true] at h
      obtain ⟨⟨⟨h1, h2⟩, h3⟩, h4⟩ := h
      subst h1
      refine fun X W C => ?_
      have z := eq_snd (pos := ‹Pos›) (ne := true) (op := .NotEq) TO (by omega) rfl h2 ((sndE KO TO hkk e sc _ h3 X W C).1 e1) ((sndE KO TO hkk f sc _ h4 X W C).1 e2) C
      exact ⟨fun _ => z.1, fun _ => z.2⟩
    · cases h
  | .lc tg ik ia cs ee w, sc, a, h => by
    simp only [chkE] at h
    rw [Bool.and_eq_true] at h
    obtain ⟨e1, h⟩ := h
    unfold lcK at h
    split at h
    · obtain ⟨h1, h2, h3⟩ := and3 h
      obtain ⟨b1, b2, b3, b4, b5⟩ := blk_snd KO (fun as h' => sndEs KO TO hkk ia sc as h') h1
      obtain ⟨c1, c2⟩ := sndCs KO TO hkk cs _ _ h2
      exact fun X W C => both C rfl (lc_ok C b1 b4 c1 own_snd.symm b3 b2 (b5 X W C) c2 fun X' C' => (sndE KO TO hkk ee _ _ h3 X' W0 C').1 e1)
    · cases h
  | .dc tk tg ik ia cs ek ev w, sc, a, h => by
    simp only [chkE] at h
    rw [Bool.and_eq_true] at h
    obtain ⟨h0, h⟩ := h
    obtain ⟨e0, e1, e2⟩ := and3 h0
    have e0 : tk = false := by simpa using e0
    subst e0
    unfold dcK at h
    split at h
    · rw [Bool.and_eq_true] at h
      obtain ⟨h, h4⟩ := h
      obtain ⟨h1, h2, h3⟩ := and3 h
      obtain ⟨b1, b2, b3, b4, b5⟩ := blk_snd KO (fun as h' => sndEs KO TO hkk ia sc as h') h1
      obtain ⟨c1, c2⟩ := sndCs KO TO hkk cs _ _ h2
      exact fun X W C => both C rfl (dc_ok C b1 b4 c1 own_snd.symm b3 b2 (b5 X W C) c2 (fun X' C' => (sndE KO TO hkk ek _ _ h3 X' W0 C').1 e1) fun X' C' => (sndE KO TO hkk ev _ _ h4 X' W0 C').1 e2)
    · cases h
  | .bor e, sc, a, h => by
    simp only [chkE] at h
    rw [Bool.and_eq_true] at h
    exact fun X W C => ⟨fun _ => bor_ok ((sndE KO TO hkk e sc a h.2 X W C).1 h.1).d, fun z => by simp [etB] at z⟩
  | .borT e, sc, a, h => by
    simp only [chkE] at h
    rw [Bool.and_eq_true] at h
    exact fun X W C => ⟨fun z => by simp [evB] at z, fun _ => borT_ok ((sndE KO TO hkk e sc a h.2 X W C).2 h.1)⟩
  | .fst es, sc, a, h => by
    simp only [chkE] at h
    unfold fstK at h
    split at h
    · have ih := sndFs KO TO hkk es sc _ h
      exact fun X W C => both C rfl (fmt_ok (ih.parts C))
    · cases h
theorem sndEs (KO : CkOk g T fa ck) (TO : TOk g kk T fa) (hkk : kk + 1 ≤ k) : ∀ (es : List E) (sc : Scope) (as : List Expr), chkEs ck N es sc as = true → SndAll g B pn T N k sc es as
  | [], sc, as, h => by
    simp only [chkEs] at h
    have : as = [] := by simpa using h
    subst this
    exact .nil
  | e :: es, sc, as, h => by
    simp only [chkEs] at h
    cases as with
    | nil => cases h
    | cons a as =>
      simp only [Bool.and_eq_true] at h
      exact .cons h.1.1.2 (fun X W C => (sndE KO TO hkk e sc a h.1.2 X W C).1 h.1.1.1) (sndEs KO TO hkk es sc as h.2)
theorem sndBs (KO : CkOk g T fa ck) (TO : TOk g kk T fa) (hkk : kk + 1 ≤ k) : ∀ (es : List E) (sc : Scope) (as : List Expr), chkBs ck N es sc as = true → SndB g B pn T N k sc es as
  | [], sc, as, h => by
    simp only [chkBs] at h
    have : as = [] := by simpa using h
    subst this
    exact .nil
  | e :: es, sc, as, h => by
    simp only [chkBs] at h
    cases as with
    | nil => cases h
    | cons a as =>
      simp only [Bool.and_eq_true] at h
      exact .cons (fun X W C => ⟨(sndE KO TO hkk e sc a h.1.2 X W C).1 h.1.1.1, (sndE KO TO hkk e sc a h.1.2 X W C).2 h.1.1.2⟩) (sndBs KO TO hkk es sc as h.2)
theorem sndCs (KO : CkOk g T fa ck) (TO : TOk g kk T fa) (hkk : kk + 1 ≤ k) : ∀ (es : List E) (sc : Scope) (as : List Expr), chkCs ck N es sc as = true → as.length ≤ 1 ∧ CsOk g B pn T N k sc as es
  | [], sc, as, h => by
    simp only [chkCs] at h
    have : as = [] := by simpa using h
    subst this
    exact ⟨Nat.zero_le _, trivial⟩
  | e :: es, sc, as, h => by
    simp only [chkCs] at h
    split at h
    · simp only [Bool.and_eq_true] at h
      have : es = [] := by simpa using h.2
      subst this
      exact ⟨Nat.le_refl _, fun X C => (sndE KO TO hkk e sc _ h.1.2 X W0 C).2 h.1.1⟩
    · cases h
theorem sndFs (KO : CkOk g T fa ck) (TO : TOk g kk T fa) (hkk : kk + 1 ≤ k) : ∀ (es : List E) (sc : Scope) (as : List Expr), chkFs ck N es sc as = true → SndF g B pn T N k sc es as
  | [], sc, as, h => by
    simp only [chkFs] at h
    have : as = [] := by simpa using h
    subst this
    exact .nil
  | e :: es, sc, as, h => by
    simp only [chkFs] at h
    cases as with
    | nil => cases h
    | cons a as =>
      simp only [Bool.and_eq_true] at h
      have ih := sndFs KO TO hkk es sc as h.2
      have h1 := h.1
      unfold fpK at h1
      split at h1
      · split at h1
        · rename_i x ex
          have ee : e = .cst (.str x) := by
            unfold cTx at ex
            split at ex
            · cases ex; rfl
            · cases ex
          subst ee
          rw [Bool.and_eq_true, decide_eq_true_eq] at h1
          obtain ⟨rfl, h2⟩ := h1
          exact .txt h2 ih
        · cases h1
      · simp only [Bool.and_eq_true, decide_eq_true_eq] at h1
        obtain ⟨rfl, h2, h3⟩ := h1
        exact .fmt (fun X W C => (sndE KO TO hkk e sc _ h3 X W C).1 h2) ih
      · cases h1
end
end
end Mr

/-! The checker of statements; stores that a comprehension is swapped with. -/
namespace Mr
open PySem L2
def stnF (sc : Scope) (x : Str) : Bool := match sc.names.lookup x with
  | some .local => true
  | some .cell => true
  | _ => false
def compS : Expr → Option Scope
  | .ListComp _ _ s _ => some s
  | .SetComp _ _ s _ => some s
  | .DictComp _ _ _ s _ => some s
  | _ => none
/-- a comprehension's own store on one line -/
def swB (sc : Scope) (y : Str) (py : Pos) (v : Expr) : Bool := match compS v with
  | some s => (match sc.names.lookup y with | some .local => true | _ => false) && (py.line == v.pos.line) && !(s.names.any fun (n, k) => n == y && (k == .local || k == .cell))
  | none => false
theorem sw_eq {sc : Scope} {env : Env} {y : Str} {py : Pos} {v : Expr} {l : Nat} (hs : env.scope = sc) (hk : sc.kind = .function) : swapsWith v (some (.Name y py)) l env = pure (swB sc y py v) := by
  have hb : env.blockKind = .function := by
    unfold Env.blockKind
    rw [hs, hk]
    rfl
  have hy : (env.kindOf y == some .local) = (match sc.names.lookup y with | some .local => true | _ => false) := by
    show (env.scope.names.lookup y == some .local) = _
    rw [hs]
    cases sc.names.lookup y with
    | none => rfl
    | some kd => cases kd <;> rfl
  unfold swapsWith swB compS
  cases v <;> try rfl
  all_goals
    simp only [hb, hy]
    rfl
theorem sw_other {v t : Expr} {l : Nat} {env : Env} (h : ∀ x p, t ≠ .Name x p) : swapsWith v (some t) l env = pure false := by
  unfold swapsWith
  cases v <;> try rfl
  all_goals
    cases t <;> first | rfl | exact absurd rfl (h _ _)
def notTup : Expr → Bool
  | .Tuple _ _ _ => false
  | _ => true
theorem ss_none {ts : List Expr} {v : Expr} {env : Env} {kt : Nat} {pt : Pos} (h : notTup v = true) : swappedStores [.Tuple ts kt pt] v env = pure none := by
  unfold swappedStores
  cases v <;> first | rfl | exact absurd h (by simp [notTup])
theorem ss_sub {o b v : Expr} {p : Pos} {env : Env} : swappedStores [.Subscript o b p] v env = pure none := by
  unfold swappedStores
  cases v <;> rfl
def isName : Expr → Bool
  | .Name _ _ => true
  | _ => false
/-- both names local and on one line, the values not all constants -/
def parB (sc : Scope) (x y : Str) (px py : Pos) (a b : Expr) : Bool := (match sc.names.lookup x with | some .local => true | _ => false) && (match sc.names.lookup y with | some .local => true | _ => false) && (px.line == py.line) && !(x == y) && notStar a && notStar b && !([a, b].all (foldedForSure 8)) && !([a, b].all (constantsAlone 8))
theorem par_sw {sc : Scope} {env : Env} {x y : Str} {px py pt pt2 : Pos} {kt k2 : Nat} {a b : Expr} (hs : env.scope = sc) (hk : sc.kind = .function) (h : parB sc x y px py a b = true) : swappedStores [.Tuple [.Name x px, .Name y py] kt pt] (.Tuple [a, b] k2 pt2) env = pure (some [x, y]) := by
  simp only [parB, Bool.and_eq_true] at h
  obtain ⟨⟨⟨⟨⟨⟨⟨h1, h2⟩, h3⟩, h4⟩, h5⟩, h6⟩, h7⟩, h8⟩ := h
  have hb : env.blockKind = .function := by
    unfold Env.blockKind
    rw [hs, hk]
    rfl
  have hx : env.kindOf x = some .local := by
    show env.scope.names.lookup x = _
    rw [hs]
    split at h1
    · assumption
    · cases h1
  have hy : env.kindOf y = some .local := by
    show env.scope.names.lookup y = _
    rw [hs]
    split at h2
    · assumption
    · cases h2
  have h3' : (py.line == px.line) = true := by
    rw [beq_iff_eq] at h3 ⊢
    exact h3.symm
  have hed : ([x, y].eraseDups.length != [x, y].length) = false := by
    have hne : ¬ x = y := by simpa using h4
    have : (y == x) = false := by simp; exact fun z => hne z.symm
    simp [List.eraseDups_cons, List.filter, this]
  unfold swappedStores
  simp only [List.length_cons, List.length_nil, hb]
  rw [if_neg (by decide)]
  rw [if_neg (by cases a <;> first | (exfalso; simp [notStar] at h5; done) | (cases b <;> first | (exfalso; simp [notStar] at h6; done) | exact Bool.false_ne_true))]
  simp only [List.filterMap_cons, List.filterMap_nil, List.head?_cons, Option.map_some, Option.getD_some, hx, hy, Expr.pos, beq_self_eq_true, h3', Bool.and_self, if_true]
  rw [if_neg (by
    rw [Bool.or_eq_true, not_or]
    exact ⟨by simp, by rw [hed]; decide⟩)]
  rw [if_neg (by rw [Bool.not_eq_true'] at h7; rw [h7]; decide), if_neg (by rw [Bool.not_eq_true'] at h8; rw [h8]; decide)]
section
variable {X : Cx}
/-- name = {..} on one line, the name a local -/
theorem ps_setDc {i : Nat} {y : Str} {py : Pos} {kx vx tg iter : Expr} {ifs : List Expr} {scope : Scope} {own : List (Str × Nat)} {pos spos : Pos} {wi : TI} {g : TG} {tt : TT} {tk tv : TE} (hc : X.calm = true) (hN : X.N.Nodup) (hy : X.N[i]? = some y) (hyl : X.env.scope.names.lookup y = some .local)
    (hsw : swapsWith (.DictComp kx vx [⟨tg, iter, ifs, 0⟩] scope pos) (some (.Name y py)) spos.line X.env = pure true) (hi : PI X tg iter wi) (ok : BlkOk X.N X.env.scope scope own)
    (hg : ∀ (s : Shared) (H : Hp) (C : Addr) (cl : List (Str × Addr)) (fp : List Addr), PG (X.blk s H scope (compEnvC scope cl C X.env) fp) tg g) (ht : ∀ (s : Shared) (H : Hp) (C : Addr) (cl : List (Str × Addr)) (fp : List Addr), PTs (X.blk s H scope (compEnvC scope cl C X.env) fp) ifs tt)
    (hk : ∀ (s : Shared) (H : Hp) (C : Addr) (cl : List (Str × Addr)) (fp : List Addr), PE (X.blk s H scope (compEnvC scope cl C X.env) fp) kx tk)
    (he : ∀ (s : Shared) (H : Hp) (C : Addr) (cl : List (Str × Addr)) (fp : List Addr), PE (X.blk s H scope (compEnvC scope cl C X.env) fp) vx tv) (hs : ∀ x, foldedSetIterable iter X.env x = pure x) :
    PS X (.Assign [.Name y py] (.DictComp kx vx [⟨tg, iter, ifs, 0⟩] scope pos) spos) (tAsg (tDc wi g tt tk tv (own.map (·.2))) (gName i)) := by
  refine ⟨fun pins s σ H D I h => ?_⟩
  rw [exec_Assign_Name_used _ _ _ _ hsw]
  refine wpAny_bind (wpAny_standAt (wpAny_bind ?_))
  show wpAny _ X.A (do let _ ← comprehension (.DictComp kx vx [⟨tg, iter, ifs, 0⟩] scope pos) scope X.env (firstIterPos [⟨tg, iter, ifs, 0⟩] pos) newDict false (eval iter X.env) (some (assign (.Name y py) X.env))) _ _ s
  have h : tDc wi g tt tk tv (own.map (·.2)) σ H (fun x H1 => gName i x σ H1 D.nx) := h
  refine wpAny_bind (thn (dc_core (Qf := fun _ s' => SP X pins D .next s') hc hN I hi ok hg ht hk he hs h fun L C s' m H' I' q hn f => ?_) fun _ s' hq => wpAny_pure (wpAny_pure hq))
  show wpAny _ _ (assign (.Name y py) X.env (.ref L)) _ _ _
  refine wpAny_assign_Name (store_ok2 (v := V.ref L) I' hN hy (.inl hyl) rfl (fun s2 I2 ⟨a, sb, ha⟩ => ?_) (.inr hyl))
  obtain ⟨f0, f1, f2, f3, f4, f5⟩ := f
  have haC : C ≠ a := by
    rcases ha with z | z
    · rw [z]; exact f1
    · exact fun e => f4 y a z e.symm
  refine ⟨m, hn.sameBut sb haC, fun h3 sb3 => ?_⟩
  exact ⟨_, H', I2.turned (t' := s2.toks) (fun b o hb e => (sb3.2 b hb).trans e) f0 f1 f3 f4 f5, q⟩
end
/-! ### the checker -/
def asg1K (N : List Str) (sc : Scope) (st : List Nat) (i : Nat) (e : E) (ce : Expr → Bool) : Stmt → Bool
  | .Assign [.Name x py] v _ => decide (N[i]? = some x) && stnF sc x && st.contains i && ce v && (!swB sc x py v || (match e with | .lc .. => true | .dc .. => true | _ => false))
  | _ => false
def asgTK (N : List Str) (sc : Scope) (st is : List Nat) (ce : Expr → Bool) : Stmt → Bool
  | .Assign [.Tuple ts kt pt] v _ => tgOk N (stnF sc) (.Tuple ts kt pt) (.tup is) && (is.all fun i => st.contains i) && notTup v && ce v
  | _ => false
def parK (N : List Str) (sc : Scope) (st : List Nat) (i j : Nat) (chk : List Expr → Bool) : Stmt → Bool
  | .Assign [.Tuple [.Name x px, .Name y py] _ _] (.Tuple [a, b] _ _) _ => decide (N[i]? = some x) && decide (N[j]? = some y) && decide (i ≠ j) && parB sc x y px py a b && st.contains i && st.contains j && chk [a, b]
  | _ => false
def subK (N : List Str) (sc : Scope) (j : Nat) (ci cv : Expr → Bool) : Stmt → Bool
  | .Assign [.Subscript (.Name x _) b _] v _ => nameOk N sc j x && notSlice b && ci b && cv v
  | _ => false
def fldK (ck : Ck) (N : List Str) (sc : Scope) (j f : Nat) (cv : Expr → Bool) : Stmt → Bool
  | .Assign [.Attribute (.Name x _) y _] v _ => nameOk N sc j x && decide (y = ck.fN f) && cv v
  | _ => false
def appK (N : List Str) (sc : Scope) (j : Nat) (cv : Expr → Bool) : Stmt → Bool
  | .Expr (.Call (.Attribute (.Name x _) y apos) [v] [] cpos) _ => decide (y = "append") && nameOk N sc j x && notStar v && (apos.endLine == cpos.line) && cv v
  | _ => false
def exK (ce : Expr → Bool) : Stmt → Bool
  | .Expr a _ => notComp a && ce a
  | _ => false
def retK (ce : Expr → Bool) : Stmt → Bool
  | .Return (some a) _ => ce a
  | _ => false
def retVK (N : List Str) (sc : Scope) (i : Nat) : Stmt → Bool
  | .Return (some (.Name x _)) _ => nameOk N sc i x
  | _ => false
def retNK : Stmt → Bool
  | .Return none _ => true
  | _ => false
def passK : Stmt → Bool
  | .Pass _ => true
  | .Expr (.Constant (.str _) _ _) _ => true
  | _ => false
def brkK : Stmt → Bool
  | .Break _ => true
  | _ => false
def cntK : Stmt → Bool
  | .Continue _ => true
  | _ => false
def iteK (cc : Expr → Bool) (c1 c2 : List Stmt → Bool) : Stmt → Bool
  | .If c a b _ => cc c && c1 a && c2 b
  | _ => false
def forK (ck : Ck) (N : List Str) (sc : Scope) (st : List Nat) (tg : Tg) (ik : IK) (ci : List Expr → Bool) (cb : List Stmt → Bool) : Stmt → Bool
  | .For t it b [] _ => notSet it && tgOk N (stnF sc) t tg && (tg.slots.all fun i => st.contains i) && (match itK ck sc ik t it with | some as => ci as | none => false) && cb b
  | _ => false
def whlK (cc : Expr → Bool) (cb : List Stmt → Bool) : Stmt → Bool
  | .While c b [] _ => cc c && cb b
  | _ => false
def hdsK (ck : Ck) (sc : Scope) : List ExceptHandler → Bool
  | [] => true
  | .ExceptHandler (some (.Name x _)) none (_ :: _) _ :: r => isErr (ck.gt.lookup x) && globOk sc x && hdsK ck sc r
  | _ => false
def tryK (ck : Ck) (sc : Scope) (cb : List Stmt → Bool) : Stmt → Bool
  | .Try b (h0 :: hds) [] [] _ => hdsK ck sc (h0 :: hds) && cb b
  | _ => false
mutual
def chkS (ck : Ck) (N : List Str) (sc : Scope) (st : List Nat) : S → Stmt → Bool
  | .asg tg e, s => evB e && (match tg with
      | .one i => asg1K N sc st i e (fun a => chkE ck N e sc a) s
      | .tup is => asgTK N sc st is (fun a => chkE ck N e sc a) s)
  | .par is es, s => (match is with
      | [i, j] => parK N sc st i j (fun as => chkEs ck N es sc as) s
      | _ => false)
  | .sub j ie ve, s => evB ie && evB ve && subK N sc j (fun a => chkE ck N ie sc a) (fun a => chkE ck N ve sc a) s
  | .fld j f ve, s => evB ve && fldK ck N sc j f (fun a => chkE ck N ve sc a) s
  | .app j ve, s => evB ve && appK N sc j (fun a => chkE ck N ve sc a) s
  | .ex e, s => evB e && exK (fun a => chkE ck N e sc a) s
  | .ret e, s => evB e && retK (fun a => chkE ck N e sc a) s
  | .retV i, s => retVK N sc i s
  | .retN, s => retNK s
  | .pass, s => passK s
  | .brk, s => brkK s
  | .cnt, s => cntK s
  | .ite c a b, s => etB c && iteK (fun x => chkE ck N c sc x) (fun x => chkSs ck N sc st a x) (fun x => chkSs ck N sc st b x) s
  | .for_ tg ik ia body _, s => forK ck N sc st tg ik (fun as => chkEs ck N ia sc as) (fun x => chkSs ck N sc st body x) s
  | .whl c body _, s => etB c && whlK (fun x => chkE ck N c sc x) (fun x => chkSs ck N sc st body x) s
  | .tryx body _ _ _ _, s => tryK ck sc (fun x => chkSs ck N sc st body x) s
  | .rse _ _, _ => true
  | .never, _ => true
  | _, _ => false
def chkSs (ck : Ck) (N : List Str) (sc : Scope) (st : List Nat) : List S → List Stmt → Bool
  | [], ss => ss.isEmpty
  | x :: xs, ss => (match ss with
    | s :: ss => chkS ck N sc st x s && chkSs ck N sc st xs ss
    | [] => false)
end
end Mr

/-! What the checker lets through is sound: the induction over statements. -/
namespace Mr
open PySem L2
section
variable {g : Gs} {W : WX} {X : Cx} {B : Addr → Prop} {pn st : List Nat} {N : List Str} {k kk fuel : Nat} {T : Tb} {fa : Nat → Addr} {ck : Ck} {sc : Scope} {es : List E} {a v : Expr} {e : E} {stm : Stmt} {i : Nat} {x : Str} {py pos : Pos}
theorem Ctx.var (C : Ctx g sc N k W X) {p : Pos} (h : nameOk N sc i x = true) : PE X (.Name x p) (tVar i) := by
  obtain ⟨h1, h2, h3, h4⟩ := nameOk_i h
  exact pe_var (by rw [C.hN]; exact h1) (by rw [C.hs]; exact h2) h3 h4
theorem lc_te {tg : Tg} {ik : IK} {ia cs : List E} {ee : E} {w : List Nat} (KO : CkOk g T fa ck) (TO : TOk g kk T fa) (hkk : kk + 1 ≤ k) (C : Ctx g sc N k W X) (hN : N[i]? = some x) (h : chkE ck N (.lc tg ik ia cs ee w) sc v = true) (hsw : swB sc x py v = true) :
    ∃ te, PS X (.Assign [.Name x py] v pos) (tAsg te (gName i)) ∧ TeOk g W B pn te (evalE T (.lc tg ik ia cs ee w)) := by
  have hs0 := sw_eq (l := pos.line) (v := v) (py := py) (y := x) C.hs C.kf
  rw [hsw] at hs0
  simp only [chkE] at h
  rw [Bool.and_eq_true] at h
  obtain ⟨e1, h⟩ := h
  unfold lcK at h
  split at h
  · rename_i el t it ifs scope cpos
    obtain ⟨h1, h2, h3⟩ := and3 h
    obtain ⟨b1, b2, b3, b4, b5⟩ := blk_snd (B := B) (pn := pn) KO (fun as h' => sndEs KO TO hkk ia sc as h') h1
    obtain ⟨c1, c2⟩ := sndCs (B := B) (pn := pn) KO TO hkk cs _ _ h2
    have hyl : X.env.scope.names.lookup x = some .local := by
      rw [C.hs]
      simp only [swB, compS, Bool.and_eq_true] at hsw
      have := hsw.1.1
      split at this
      · assumption
      · cases this
    refine ⟨_, ps_setLc (own := ownNm N w) C.calm C.nd (by rw [C.hN]; exact hN) hyl hs0 pi_wi (by rw [C.hN, C.hs]; exact blkOk_by b1) bG_p (bT_p c1) bE_p (fsi_ok b4 X.env), ?_⟩
    intro ρ σ G H E
    exact lc_run (blkOk_by b1).kind C own_snd.symm b3 b2 (b5 X W C) c2 (fun X' C' => (sndE KO TO hkk ee _ _ h3 X' W0 C').1 e1) E
  · cases h
theorem dc_te {tk : Bool} {tg : Tg} {ik : IK} {ia cs : List E} {ek ev : E} {w : List Nat} (KO : CkOk g T fa ck) (TO : TOk g kk T fa) (hkk : kk + 1 ≤ k) (C : Ctx g sc N k W X) (hN : N[i]? = some x) (h : chkE ck N (.dc tk tg ik ia cs ek ev w) sc v = true) (hsw : swB sc x py v = true) :
    ∃ te, PS X (.Assign [.Name x py] v pos) (tAsg te (gName i)) ∧ TeOk g W B pn te (evalE T (.dc tk tg ik ia cs ek ev w)) := by
  have hs0 := sw_eq (l := pos.line) (v := v) (py := py) (y := x) C.hs C.kf
  rw [hsw] at hs0
  simp only [chkE] at h
  rw [Bool.and_eq_true] at h
  obtain ⟨h0, h⟩ := h
  obtain ⟨e0, e1, e2⟩ := and3 h0
  have e0 : tk = false := by simpa using e0
  subst e0
  unfold dcK at h
  split at h
  · rename_i kx vx t it ifs scope cpos
    rw [Bool.and_eq_true] at h
    obtain ⟨h, h4⟩ := h
    obtain ⟨h1, h2, h3⟩ := and3 h
    obtain ⟨b1, b2, b3, b4, b5⟩ := blk_snd (B := B) (pn := pn) KO (fun as h' => sndEs KO TO hkk ia sc as h') h1
    obtain ⟨c1, c2⟩ := sndCs (B := B) (pn := pn) KO TO hkk cs _ _ h2
    have hyl : X.env.scope.names.lookup x = some .local := by
      rw [C.hs]
      simp only [swB, compS, Bool.and_eq_true] at hsw
      have := hsw.1.1
      split at this
      · assumption
      · cases this
    refine ⟨_, ps_setDc (own := ownNm N w) C.calm C.nd (by rw [C.hN]; exact hN) hyl hs0 pi_wi (by rw [C.hN, C.hs]; exact blkOk_by b1) bG_p (bT_p c1) bE_p bE_p (fsi_ok b4 X.env), ?_⟩
    intro ρ σ G H E
    exact dc_run (blkOk_by b1).kind C own_snd.symm b3 b2 (b5 X W C) c2 (fun X' C' => (sndE KO TO hkk ek _ _ h3 X' W0 C').1 e1) (fun X' C' => (sndE KO TO hkk ev _ _ h4 X' W0 C').1 e2) E
  · cases h
theorem asg1_snd (KO : CkOk g T fa ck) (TO : TOk g kk T fa) (hkk : kk + 1 ≤ k) (C : Ctx g sc N k W X) (sx : Sx X (stnF sc)) (e1 : evB e = true) (h : asg1K N sc st i e (fun a => chkE ck N e sc a) stm = true) : SOk g W B pn st (WS X stm) (run T fuel pn (.asg (.one i) e)) := by
  unfold asg1K at h
  split at h
  · rename_i x py v pos
    rw [Bool.and_eq_true, Bool.and_eq_true, Bool.and_eq_true, Bool.and_eq_true, decide_eq_true_eq] at h
    obtain ⟨⟨⟨⟨h1, h2⟩, h3⟩, h4⟩, h5⟩ := h
    have hst : ∀ j, j ∈ [i] → j ∈ st := fun j hj => by
      have : j = i := by simpa using hj
      rw [this]
      simpa using h3
    obtain ⟨lc, fn⟩ := sx.so x h2
    cases hsw : swB sc x py v with
    | false =>
      have hs0 := sw_eq (l := pos.line) (v := v) (py := py) (y := x) C.hs C.kf
      rw [hsw] at hs0
      have rule := ps_set (pos := pos) (pos' := py) C.nd (by rw [C.hN]; exact h1) lc (pe_w X v) hs0 fn
      exact ((asg1_ok ((sndE KO TO hkk e sc v h4 X W C).1 e1).te).ws rule).mono hst
    | true =>
      rw [hsw] at h5
      simp only [Bool.not_true, Bool.false_or] at h5
      split at h5
      · obtain ⟨te, rule, hte⟩ := lc_te (B := B) (pn := pn) (pos := pos) KO TO hkk C h1 h4 hsw
        exact ((asg1_ok hte).ws rule).mono hst
      · obtain ⟨te, rule, hte⟩ := dc_te (B := B) (pn := pn) (pos := pos) KO TO hkk C h1 h4 hsw
        exact ((asg1_ok hte).ws rule).mono hst
      · cases h5
  · cases h
theorem sole_other {t : Expr} {l : Nat} {env : Env} (h : isName t = false) : swapsWithSole [t] v l env = pure false := sw_other fun x p z => by rw [z] at h; cases h
theorem par_snd {i j : Nat} (KO : CkOk g T fa ck) (TO : TOk g kk T fa) (hkk : kk + 1 ≤ k) (C : Ctx g sc N k W X) (h : parK N sc st i j (fun as => chkEs ck N es sc as) stm = true) : SOk g W B pn st (WS X stm) (run T fuel pn (.par [i, j] es)) := by
  have e0 : ∃ x px y py kt pt a b k2 pt2 pos, stm = .Assign [.Tuple [.Name x px, .Name y py] kt pt] (.Tuple [a, b] k2 pt2) pos := by
    unfold parK at h
    split at h
    · exact ⟨_, _, _, _, _, _, _, _, _, _, _, rfl⟩
    · cases h
  obtain ⟨x, px, y, py, kt, pt, a, b, k2, pt2, pos, rfl⟩ := e0
  simp only [parK] at h
  rw [Bool.and_eq_true, Bool.and_eq_true, Bool.and_eq_true, Bool.and_eq_true, Bool.and_eq_true, Bool.and_eq_true, decide_eq_true_eq, decide_eq_true_eq, decide_eq_true_eq] at h
  obtain ⟨⟨⟨⟨⟨⟨h1, h2⟩, h3⟩, h4⟩, h5⟩, h6⟩, h7⟩ := h
  have ih := sndEs (B := B) (pn := pn) KO TO hkk es sc _ h7
  have hw := par_sw (kt := kt) (pt := pt) (k2 := k2) (pt2 := pt2) C.hs C.kf h4
  have lx : X.env.scope.names.lookup x = some .local ∧ X.env.scope.names.lookup y = some .local := by
    rw [C.hs]
    simp only [parB, Bool.and_eq_true] at h4
    obtain ⟨⟨⟨⟨⟨⟨⟨p1, p2⟩, _⟩, _⟩, _⟩, _⟩, _⟩, _⟩ := h4
    constructor
    · split at p1
      · assumption
      · cases p1
    · split at p2
      · assumption
      · cases p2
  have rule := ps_par (pos := pos) C.calm C.nd (by rw [C.hN]; exact h1) (by rw [C.hN]; exact h2) h3 lx.1 lx.2 (pa_w X [a, b]) hw (sole_other rfl)
  refine ((par_ok (by rw [ih.len]; rfl) h3 (ih.args C)).ws rule).mono fun l hl => ?_
  have : l = i ∨ l = j := by simpa using hl
  rcases this with z | z
  · rw [z]; simpa using h5
  · rw [z]; simpa using h6
theorem for_snd {tg : Tg} {ik : IK} {ia : List E} {Sb : List S} {tmp : List Nat} {cb : List Stmt → Bool} (KO : CkOk g T fa ck) (TO : TOk g kk T fa) (hkk : kk + 1 ≤ k) (C : Ctx g sc N k W X) (sx : Sx X (stnF sc)) (hb : ∀ body, cb body = true → SOk g W B pn st (WSs X body) (runs T fuel pn Sb)) (h : forK ck N sc st tg ik (fun as => chkEs ck N ia sc as) cb stm = true) :
    SOk g W B pn st (WS X stm) (run T fuel pn (.for_ tg ik ia Sb tmp)) := by
  have e0 : ∃ t it b pos, stm = .For t it b [] pos := by
    unfold forK at h
    split at h
    · exact ⟨_, _, _, _, rfl⟩
    · cases h
  obtain ⟨t, it, b, pos, rfl⟩ := e0
  simp only [forK] at h
  rw [Bool.and_eq_true, Bool.and_eq_true, Bool.and_eq_true, Bool.and_eq_true] at h
  obtain ⟨⟨⟨⟨h1, h2⟩, h3⟩, h4⟩, h5⟩ := h
  have hit : ItOk g W X B pn t it (itE T ik ia) := by
    split at h4
    · rename_i as e
      exact (sndEs KO TO hkk ia sc _ h4).it KO C e
    · cases h4
  exact for_ok C sx.so h1 h2 hit (fun j hj => by simpa using List.all_eq_true.mp h3 j hj) (hb b h5)
theorem hds_snd (KO : CkOk g T fa ck) (C : Ctx g sc N k W X) : ∀ {hds : List ExceptHandler}, hdsK ck sc hds = true → ∃ l, HdsOk X hds l
  | [], _ => ⟨_, .nil⟩
  | hd :: r, h => by
    unfold hdsK at h
    split at h
    · rename_i z; cases z
    · rename_i x np b0 suite p r' z
      cases z
      obtain ⟨h1, h2, h3⟩ := and3 h
      obtain ⟨l, hl⟩ := hds_snd KO C h3
      cases e : ck.gt.lookup x with
      | none => rw [e] at h1; cases h1
      | some gk =>
        rw [e] at h1
        cases gk <;> try cases h1
        obtain ⟨u, hu⟩ := KO.err x e
        exact ⟨_, .cons (c := u) (ts := fun _ _ _ => tNever) ⟨(C.gl h2).1, (C.gl h2).2, .inl (by rw [C.hm]; exact hu)⟩ (fun _ _ _ _ _ _ _ => pss_never) hl⟩
    · cases h
theorem try_snd {Sb : List S} {body : List Stmt} {h0 : ExceptHandler} {hds : List ExceptHandler} {cs tmp : List Nat} {bs : List (Option Nat)} {hss : List (List S)} {stn : Str → Bool} (C : Ctx g sc N k W X) (sx : Sx X stn) (hh : ∃ l, HdsOk X (h0 :: hds) l)
    (hb : ∀ X' W', Ctx g sc N k W' X' → Sx X' stn → SOk g W' B pn st (WSs X' body) (runs T fuel pn Sb)) : SOk g W B pn st (WS X (.Try body (h0 :: hds) [] [] pos)) (run T fuel pn (.tryx Sb cs bs hss tmp)) := by
  obtain ⟨l, hl⟩ := hh
  have rule := ps_try_many (pos := pos) (body := body) (tb := fun W' D σ H => ∀ pn xe, Takes (X.tr pn xe) W' → PassesOwn (model X.prog X.w) X.A X.env xe → WSs (X.tr pn xe) body D σ H) sx.stk sx.fr C.tk (fun W' pn xe t p => ⟨fun pins s σ H D I h => h pn xe t p pins s I⟩) hl
  have ctx : ∀ {W' : WX} {q : List (Addr × Obj)} {xe : Value → Shared → Prop}, Takes (X.tr q xe) W' → PassesOwn (model X.prog X.w) X.A X.env xe → Ctx g sc N k W' (X.tr q xe) := fun t po => ⟨C.hP, C.hw, C.hK, C.hm, C.hb, C.hs, C.hN, C.nd, C.calm, C.room, t, po, C.kf⟩
  have sx' : ∀ {q : List (Addr × Obj)} {xe : Value → Shared → Prop}, Sx (X.tr q xe) stn := ⟨sx.stk, sx.fr, sx.so⟩
  intro ρ σ G H E hB
  simp only [run]
  by_cases hf : free pn (.tup tmp) = true
  · rw [if_pos hf]
    cases e : runs T fuel pn Sb ρ with
    | stk => trivial
    | exc c fs ds => trivial
    | next ρ' =>
      refine fun D kk => ws_of rule fun q xe t po => ?_
      have z := hb _ _ (ctx t po) sx' ρ σ G H E hB
      rw [e] at z
      exact z D kk
    | brk ρ' =>
      refine fun D kk => ws_of rule fun q xe t po => ?_
      have z := hb _ _ (ctx t po) sx' ρ σ G H E hB
      rw [e] at z
      exact z D kk
    | cnt ρ' =>
      refine fun D kk => ws_of rule fun q xe t po => ?_
      have z := hb _ _ (ctx t po) sx' ρ σ G H E hB
      rw [e] at z
      exact z D kk
    | ret s ρ' =>
      refine fun D kk => ws_of rule fun q xe t po => ?_
      have z := hb _ _ (ctx t po) sx' ρ σ G H E hB
      rw [e] at z
      exact z D kk
  · rw [if_neg hf]
    trivial
mutual
theorem sndS (KO : CkOk g T fa ck) (TO : TOk g kk T fa) (hkk : kk + 1 ≤ k) (nox : ∀ c, T.xf c = none) : ∀ (s : S) (stm : Stmt), chkS ck N sc st s stm = true → ∀ X W, Ctx g sc N k W X → Sx X (stnF sc) → SOk g W B pn st (WS X stm) (run T fuel pn s)
  | .asg tg e, stm, h, X, W, C, sx => by
    simp only [chkS] at h
    rw [Bool.and_eq_true] at h
    obtain ⟨e1, h⟩ := h
    cases tg with
    | one i => exact asg1_snd KO TO hkk C sx e1 h
    | tup is =>
      simp only at h
      unfold asgTK at h
      split at h
      · rename_i ts kt pt v pos
        rw [Bool.and_eq_true, Bool.and_eq_true, Bool.and_eq_true] at h
        obtain ⟨⟨⟨h1, h2⟩, h3⟩, h4⟩ := h
        have rule := ps_asg (pos := pos) (pe_w X v) (pg_w (X := X) (tg := .Tuple ts kt pt)) (sole_other rfl) (ss_none h3) (by first | rfl | simp [assignEach])
        exact ((asgT_ok C sx.so h1 ((sndE KO TO hkk e sc v h4 X W C).1 e1)).ws rule).mono fun j hj => by simpa using List.all_eq_true.mp h2 j hj
      · cases h
  | .par is es, stm, h, X, W, C, sx => by
    simp only [chkS] at h
    match is, h with
    | [i, j], h => exact par_snd KO TO hkk C h
  | .sub j ie ve, stm, h, X, W, C, sx => by
    simp only [chkS] at h
    obtain ⟨e1, e2, h⟩ := and3 h
    unfold subK at h
    split at h
    · rw [Bool.and_eq_true, Bool.and_eq_true, Bool.and_eq_true] at h
      obtain ⟨⟨⟨h1, h2⟩, h3⟩, h4⟩ := h
      exact sub_ok (C.var h1) h2 C.u1 ((sndE KO TO hkk ie sc _ h3 X W C).1 e1) ((sndE KO TO hkk ve sc _ h4 X W C).1 e2) (sole_other rfl) ss_sub
    · cases h
  | .fld j f ve, stm, h, X, W, C, sx => by
    simp only [chkS] at h
    rw [Bool.and_eq_true] at h
    obtain ⟨e1, h⟩ := h
    unfold fldK at h
    split at h
    · obtain ⟨h1, h2, h3⟩ := and3 h
      exact fld_ok C TO ((of_decide_eq_true h2).trans (KO.fN f)) (C.var h1) ((sndE KO TO hkk ve sc _ h3 X W C).1 e1) (sw_other fun _ _ z => by cases z)
    · cases h
  | .app j ve, stm, h, X, W, C, sx => by
    simp only [chkS] at h
    rw [Bool.and_eq_true] at h
    obtain ⟨e1, h⟩ := h
    unfold appK at h
    split at h
    · rw [Bool.and_eq_true, Bool.and_eq_true, Bool.and_eq_true, Bool.and_eq_true, decide_eq_true_eq] at h
      obtain ⟨⟨⟨⟨rfl, h2⟩, h3⟩, h4⟩, h5⟩ := h
      exact app_ok (C.var h2) h3 h4 ((sndE KO TO hkk ve sc _ h5 X W C).1 e1)
    · cases h
  | .ex e, stm, h, X, W, C, sx => by
    simp only [chkS] at h
    rw [Bool.and_eq_true] at h
    obtain ⟨e1, h⟩ := h
    unfold exK at h
    split at h
    · rw [Bool.and_eq_true] at h
      exact ex_ok h.1 ((sndE KO TO hkk e sc _ h.2 X W C).1 e1)
    · cases h
  | .ret e, stm, h, X, W, C, sx => by
    simp only [chkS] at h
    rw [Bool.and_eq_true] at h
    obtain ⟨e1, h⟩ := h
    unfold retK at h
    split at h
    · exact ret_ok ((sndE KO TO hkk e sc _ h X W C).1 e1)
    · cases h
  | .retV i, stm, h, X, W, C, sx => by
    simp only [chkS] at h
    unfold retVK at h
    split at h
    · exact retV_ok (C.var h)
    · cases h
  | .retN, stm, h, X, W, C, sx => by
    simp only [chkS] at h
    unfold retNK at h
    split at h
    · exact retN_ok
    · cases h
  | .pass, stm, h, X, W, C, sx => by
    simp only [chkS] at h
    unfold passK at h
    split at h
    · exact pass_ok
    · exact doc_ok
    · cases h
  | .brk, stm, h, X, W, C, sx => by
    simp only [chkS] at h
    unfold brkK at h
    split at h
    · exact brk_ok
    · cases h
  | .cnt, stm, h, X, W, C, sx => by
    simp only [chkS] at h
    unfold cntK at h
    split at h
    · exact cnt_ok
    · cases h
  | .ite c a b, stm, h, X, W, C, sx => by
    simp only [chkS] at h
    rw [Bool.and_eq_true] at h
    obtain ⟨e1, h⟩ := h
    unfold iteK at h
    split at h
    · obtain ⟨h1, h2, h3⟩ := and3 h
      exact ite_ok ((sndE KO TO hkk c sc _ h1 X W C).2 e1) (sndSs KO TO hkk nox a _ h2 X W C sx) (sndSs KO TO hkk nox b _ h3 X W C sx)
    · cases h
  | .for_ tg ik ia body tmp, stm, h, X, W, C, sx => by
    simp only [chkS] at h
    exact for_snd KO TO hkk C sx (fun b hb => sndSs KO TO hkk nox body b hb X W C sx) h
  | .whl c body tmp, stm, h, X, W, C, sx => by
    simp only [chkS] at h
    rw [Bool.and_eq_true] at h
    obtain ⟨e1, h⟩ := h
    unfold whlK at h
    split at h
    · rw [Bool.and_eq_true] at h
      exact whl_ok C ((sndE KO TO hkk c sc _ h.1 X W C).2 e1) (sndSs KO TO hkk nox body _ h.2 X W C sx)
    · cases h
  | .tryx body cs bs hs tmp, stm, h, X, W, C, sx => by
    simp only [chkS] at h
    unfold tryK at h
    split at h
    · rw [Bool.and_eq_true] at h
      exact try_snd C sx (hds_snd KO C h.1) fun X' W' C' sx' => sndSs KO TO hkk nox body _ h.2 X' W' C' sx'
    · cases h
  | .rse c es, stm, h, X, W, C, sx => by
    intro ρ σ G H E hB
    simp only [run, nox]
  | .never, stm, h, X, W, C, sx => by
    intro ρ σ G H E hB
    simp only [run]
  | .aug _ _ _, stm, h, X, W, C, sx => by simp [chkS] at h
  | .clr _, stm, h, X, W, C, sx => by simp [chkS] at h
  | .rvs _, stm, h, X, W, C, sx => by simp [chkS] at h
theorem sndSs (KO : CkOk g T fa ck) (TO : TOk g kk T fa) (hkk : kk + 1 ≤ k) (nox : ∀ c, T.xf c = none) : ∀ (ss : List S) (sts : List Stmt), chkSs ck N sc st ss sts = true → ∀ X W, Ctx g sc N k W X → Sx X (stnF sc) → SOk g W B pn st (WSs X sts) (runs T fuel pn ss)
  | [], sts, h, X, W, C, sx => by
    simp only [chkSs] at h
    have : sts = [] := by simpa using h
    subst this
    exact (SOk.nil.wss pss_nil).to fun ρ => by simp only [runs]
  | x :: xs, sts, h, X, W, C, sx => by
    simp only [chkSs] at h
    cases sts with
    | nil => cases h
    | cons s ss =>
      simp only [Bool.and_eq_true] at h
      have h1 := sndS KO TO hkk nox x s h.1 X W C sx
      have h2 := sndSs KO TO hkk nox xs ss h.2 X W C sx
      exact ((h1.seq h2).wss (pss_cons (ps_w X s) (pss_w X ss))).to fun ρ => by simp only [runs]
end
end
end Mr

/-! The defs: every call answers as the small language says. -/
namespace Mr
open PySem L2
section
variable {g : Gs} {B : Addr → Prop} {pn st : List Nat} {N ps : List Str} {k kk fuel : Nat} {T : Tb} {fa : Nat → Addr} {ck : Ck} {cn : Cn} {K : PySem.W.Frag} {G H : Hp} {ρ : Rho} {σ : L2.St}
theorem rep_no {i : Nat} {s : Sl} {m : Nat} (h : (ρ ++ List.replicate m Sl.no)[i]? = some s) (n : s ≠ .no) : ρ[i]? = some s ∧ i < ρ.length := by
  by_cases hi : i < ρ.length
  · rw [List.getElem?_append_left hi] at h
    exact ⟨h, hi⟩
  · rw [List.getElem?_append_right (by omega), List.getElem?_replicate] at h
    split at h
    · cases h; exact absurd rfl n
    · cases h
theorem EnvR.ext (E : EnvR cn K B pn G H ρ σ) (m : Nat) : EnvR cn K B pn G H (ρ ++ List.replicate m .no) (σ ++ List.replicate m none) := by
  have hs : ∀ {i : Nat}, i < ρ.length → (σ ++ List.replicate m none)[i]? = σ[i]? := fun {i} hi => List.getElem?_append_left (by rw [← E.len]; exact hi)
  refine ⟨E.sub, by simp [E.len], fun i d h => ?_, fun i d h => ?_, fun i j d e a h1 h2 s1 s2 => ?_⟩
  · obtain ⟨h1, h2⟩ := rep_no h (by simp)
    rw [hs h2]
    exact E.val i d h1
  · obtain ⟨h1, h2⟩ := rep_no h (by simp)
    rw [hs h2]
    exact E.own i d h1
  · obtain ⟨q1, q2⟩ := rep_no h1 (by simp)
    obtain ⟨q3, q4⟩ := rep_no h2 (by simp)
    rw [hs q2] at s1
    rw [hs q4] at s2
    exact E.inj i j d e a q1 q3 s1 s2
theorem ownA_ext (hl : ρ.length = σ.length) {m : Nat} {a : Addr} (h : ownA (ρ ++ List.replicate m .no) (σ ++ List.replicate m none) a) : ownA ρ σ a := by
  obtain ⟨i, d, h1, h2⟩ := h
  obtain ⟨q1, q2⟩ := rep_no h1 (by simp)
  rw [List.getElem?_append_left (by omega)] at h2
  exact ⟨i, d, q1, h2⟩
theorem ExcR.mono {own own' : Addr → Prop} {t : Nat} {fs : List Nat} {ds : List D} {d : Option Addr} {H' : Hp} (x : ExcR g own G H t fs ds d H') (le : ∀ a, own a → own' a) : ExcR g own' G H t fs ds d H' := by
  obtain ⟨G', gr, q⟩ := x
  exact ⟨G', gr.mono le, q⟩
/-- behind a def's body: what its caller gets back -/
theorem back_of {as : List Sl} {vs : List V} {ρ' : Rho} {σ' : L2.St} {G' H' : Hp} {m np : Nat} (E : EnvR g.c g.K (Here H) (pinsOf 0 as) G H as (vs.map some)) (hnp : as.length = np) (P : PostS g (Here H) (pinsOf 0 as) st (as ++ List.replicate m .no) (vs.map some ++ List.replicate m none) G H ρ' σ' G' H') :
    Grow (ownA as (vs.map some)) G H G' H' ∧ BackR g.c g.K G' H' as (ρ'.take np) vs := by
  have hl : ρ'.length = as.length + m := by rw [P.env.len, P.len]; simp [← E.len]
  refine ⟨P.gr.mono fun a z => ownA_ext E.len z, ?_, fun i d hi => ?_⟩
  · rw [List.length_take, hl, ← hnp]; omega
  · obtain ⟨a, h1, ow, _⟩ := E.own i d hi
    have hil : i < as.length := (List.getElem?_eq_some_iff.mp hi).1
    have hp : i ∈ pinsOf 0 as := by have := pins_mem as 0 i d hi; rwa [Nat.zero_add] at this
    have hs : σ'[i]? = some (some (.ref a)) := by
      rw [P.pin i hp, List.getElem?_append_left (by rw [← E.len]; exact hil)]
      exact h1
    have ht : (ρ'.take np)[i]? = ρ'[i]? := by rw [List.getElem?_take]; rw [if_pos (by omega)]
    cases e : ρ'[i]? with
    | none =>
      have := List.getElem?_eq_none_iff.mp e
      omega
    | some s =>
      refine ⟨a, s, map_some_get.mp h1, by rw [ht, e], ?_⟩
      cases s with
      | no => trivial
      | val d' =>
        obtain ⟨v, q1, q2⟩ := P.env.val i d' e
        rw [hs] at q1
        cases q1
        exact q2
      | own d' =>
        obtain ⟨a', q1, q2, _⟩ := P.env.own i d' e
        rw [hs] at q1
        cases q1
        exact q2
theorem fn_ok {f : Addr} {name qual : Str} {params : Arguments} {body : List Stmt} {scope : Scope} {dV kV doc pm cdv ct oc : Value} {an od : Option Addr} {osl : Array (Option Value)} {F : Fn}
    (lk : g.K.lookup f = some ⟨oc, od, .func (PySem.W.fnOf name qual params body scope dV kV doc pm an cdv ct), osl⟩) (hcd : PySem.W.codeIn g.K cdv qual = true) (S : FnScope N ps scope) (hn : F.n = N.length) (hnp : F.np = ps.length)
    (hchk : chkSs ck N scope (List.range N.length) F.body body = true) (KO : CkOk g T fa ck) (TO : TOk g kk T fa) (nox : ∀ c, T.xf c = none) (as : List Sl) :
    FnOk g.P g.w g.K g.mg g.base (L2.CX g.P g.w) (kk + 2) f (PySem.W.fnOf name qual params body scope dV kV doc pm an cdv ct) ps (spOf g as (runFn T fuel F as)) := by
  have hpl : ps.length ≤ N.length := by have := congrArg List.length S.pre; rw [List.length_take] at this; omega
  have hlen : ∀ vs H Q E, spOf g as (runFn T fuel F as) vs H Q E → as.length = F.np ∧ vs.length = ps.length := fun vs H Q E h => by
    obtain ⟨G, En, h⟩ := h
    have hl := En.len
    rw [List.length_map] at hl
    unfold runFn at h
    by_cases hz : as.length = F.np
    · exact ⟨hz, by rw [← hl, hz, hnp]⟩
    · rw [if_neg hz] at h
      exact h.elim
  refine fn_of lk hcd S (fun vs H Q E h => (hlen vs H Q E h).2) fun A outer s H vs Q E hr h => ?_
  obtain ⟨hz, hvl⟩ := hlen vs H Q E h
  obtain ⟨G, En, h⟩ := h
  generalize hX : cxOf (L2.CX g.P g.w) g.P g.w g.K g.mg g.base N qual scope f cdv A outer s H E = X
  have C : Ctx g scope N (kk + 1) (fun cls d _ H => E cls d H) X := by
    subst hX
    exact ⟨rfl, rfl, rfl, rfl, rfl, rfl, rfl, S.nd, rfl, hr, takes_of rfl rfl rfl rfl, passes_of rfl, S.kind⟩
  have sx : Sx X (stnF scope) := by
    subst hX
    refine ⟨rfl, rfl, fun x hx => ?_⟩
    unfold stnF at hx
    split at hx
    · exact ⟨.inl (by assumption), .inl rfl⟩
    · exact ⟨.inr (by assumption), .inl rfl⟩
    · cases hx
  have snd := sndSs (B := Here H) (pn := pinsOf 0 as) (fuel := fuel) KO TO (Nat.le_refl _) nox F.body body hchk X _ C sx
  have e0 : L2.start N vs = vs.map some ++ List.replicate (F.n - F.np) none := by
    unfold L2.start
    rw [hn, hnp, hvl]
  refine ⟨_, pss_w X body, ?_⟩
  rw [e0]
  have q := snd (as ++ List.replicate (F.n - F.np) .no) (vs.map some ++ List.replicate (F.n - F.np) none) G H (En.ext _) (fun a z => Option.isSome_iff_exists.mp z)
  unfold runFn at h
  rw [if_pos hz] at h
  cases er : runs T fuel (pinsOf 0 as) F.body (as ++ List.replicate (F.n - F.np) .no) with
  | stk => rw [er] at h; exact h.elim
  | brk _ => rw [er] at h; exact h.elim
  | cnt _ => rw [er] at h; exact h.elim
  | next ρ' =>
    rw [er] at h q
    refine q _ fun σ' G' H' P => ?_
    obtain ⟨gr, bk⟩ := back_of En hz P
    exact h .non G' H' gr bk rfl
  | ret s ρ' =>
    rw [er] at h q
    refine q _ fun v σ' G' H' P r => ?_
    obtain ⟨gr, bk⟩ := back_of En hz P
    refine h v G' H' gr bk ?_
    cases s with
    | no => exact r
    | val d => exact r
    | own d =>
      obtain ⟨a, h1, h2, h3⟩ := r
      refine ⟨a, h1, h2, ?_⟩
      cases e : H a with
      | none => rfl
      | some o => exact absurd (show (H a).isSome = true by rw [e]; rfl) h3
  | exc c fs ds =>
    rw [er] at h q
    exact q (fun d σ' H' x _ _ => h d H' (x.mono fun a z => ownA_ext En.len z)) _

theorem fn_thm {f : Addr} {name qual : Str} {params : Arguments} {body : List Stmt} {scope : Scope} {dV kV doc pm cdv ct oc : Value} {an od : Option Addr} {osl : Array (Option Value)} {F : Fn}
    (lk : g.K.lookup f = some ⟨oc, od, .func (PySem.W.fnOf name qual params body scope dV kV doc pm an cdv ct), osl⟩) (hcd : PySem.W.codeIn g.K cdv qual = true) (S : FnScope N ps scope) (hn : F.n = N.length) (hnp : F.np = ps.length)
    (hchk : chkSs ck N scope (List.range N.length) F.body body = true) (hbd : Binds g.K (PySem.W.fnOf name qual params body scope dV kV doc pm an cdv ct) ps []) (KO : CkOk g T fa ck) (TO : TOk g kk T fa) (nox : ∀ c, T.xf c = none) (as : List Sl) :
    FnR g.P g.w g.K g.mg g.base (L2.CX g.P g.w) (kk + 2) f (spOf g as (runFn T fuel F as)) :=
  ((fn_ok lk hcd S hn hnp hchk KO TO nox as).raw hbd .nil).imp fun vs H Q E h => by rw [List.append_nil]; exact h
/-- all that is asked of a def -/
def FnFacts (g : Gs) (fa : Nat → Addr) (ck : Ck) (i : Nat) (N : List Str) (F : Fn) : Prop := F.body = [.never] ∨ ∃ (name qual : Str) (params : Arguments) (body : List Stmt) (scope : Scope) (dV kV doc pm cdv ct oc : Value) (an od : Option Addr) (osl : Array (Option Value)),
  g.K.lookup (fa i) = some ⟨oc, od, .func (PySem.W.fnOf name qual params body scope dV kV doc pm an cdv ct), osl⟩ ∧ PySem.W.codeIn g.K cdv qual = true ∧ FnScope N (N.take F.np) scope ∧ F.n = N.length ∧ F.np = (N.take F.np).length ∧
  chkSs ck N scope (List.range N.length) F.body body = true ∧ Binds g.K (PySem.W.fnOf name qual params body scope dV kV doc pm an cdv ct) (N.take F.np) []
def tbN (pg : Pg) (fuel n : Nat) : Tb := ⟨callN pg fuel n, pg.meth, pg.prop, pg.init, pg.eqm, pg.xf, pg.fld⟩
/-- what the row gives, at any level -/
structure PgOk (g : Gs) (pg : Pg) (fa : Nat → Addr) (ck : Ck) : Prop where
  fns : ∀ i F, pg.fns.lookup i = some F → ∃ N, FnFacts g fa ck i N F
  nox : ∀ c, pg.xf c = none
  fI : ∀ i j, g.c.fN i = g.c.fN j → i = j
  meth : ∀ c m f, pg.meth c m = some f → Meth g.K (g.c.cA c) (g.c.fN m) (fa f) ∧ Cls g.K (g.c.cA c)
  prop : ∀ c m f, pg.prop c m = some f → (∃ p, PropOf g.K (g.c.cA c) (g.c.fN m) p (fa f)) ∧ Cls g.K (g.c.cA c)
  init : ∀ c f, pg.init c = some f → Mk g.K (g.c.cA c) (fa f)
  eqm : ∀ c f, pg.eqm c = some f → PySem.W.findIn g.K (.ref (g.c.cA c)) "__eq__" = some (some (.ref (fa f))) ∧ PySem.W.isFn g.K (.ref (fa f)) = true
  ty : ∀ c f, pg.init c = some f → Cls g.K (g.c.cA c) ∧ PySem.W.findIn g.K (.ref (g.c.cA c)) "__class__" = some (some (.builtin "object.__class__")) ∧ PySem.W.specialIn g.K (.builtin "object.__class__") "__get__" = some (some (.builtin "getset_descriptor.__get__")) ∧ PySem.W.takesIn g.K (.builtin "object.__class__") = some true ∧ PySem.W.mroIn g.K (g.c.cA c) (.type "object") = some true
  fld : ∀ c f, pg.fld c f = true → NoAttr g.K (g.c.cA c) (g.c.fN f) ∧ Cls g.K (g.c.cA c)
  ko : ∀ fuel n, CkOk g (tbN pg fuel n) fa ck
theorem all_lv {pg : Pg} (PO : PgOk g pg fa ck) (fuel : Nat) : ∀ n, TOk g (2 * n) (tbN pg fuel n) fa
  | 0 => ⟨fun f as A outer s H us vs Q E _ _ _ h => by
      obtain ⟨_, _, h⟩ := h
      exact h.elim, PO.fI, PO.meth, PO.prop, PO.init, PO.eqm, PO.ty, PO.fld⟩
  | n + 1 => by
    have TO := all_lv PO fuel n
    refine ⟨fun f as => ?_, PO.fI, PO.meth, PO.prop, PO.init, PO.eqm, PO.ty, PO.fld⟩
    have e0 : (tbN pg fuel (n + 1)).call f as = match pg.fns.lookup f with | some F => runFn (tbN pg fuel n) fuel F as | none => .stk := rfl
    rw [e0]
    cases ef : pg.fns.lookup f with
    | none =>
      intro A outer s H us vs Q E _ _ _ h
      obtain ⟨_, _, h⟩ := h
      exact h.elim
    | some F =>
      obtain ⟨N, ff⟩ := PO.fns f F ef
      rcases ff with hb | ⟨name, qual, params, body, scope, dV, kV, doc, pm, cdv, ct, oc, an, od, osl, h1, h2, h3, h4, h5, h6, h7⟩
      · intro A outer s H us vs Q E _ _ _ h
        obtain ⟨_, _, h⟩ := h
        have er : runFn (tbN pg fuel n) fuel F as = .stk := by
          unfold runFn
          rw [hb]
          split
          · simp only [runs, run, Out.then_]
          · rfl
        simp only [er] at h
      · exact fn_thm h1 h2 h3 h4 h5 h6 h7 (PO.ko fuel n) TO PO.nox as
end
end Mr

/-! The row's facts as one Bool over a written part of the heap. -/
namespace Mr
open PySem L2
/-! ### parameters -/
theorem fm_congr {α β : Type} {f g : α → Option β} : ∀ {l : List α}, (∀ x ∈ l, f x = g x) → l.filterMap f = l.filterMap g
  | [], _ => rfl
  | a :: l, h => by
    rw [List.filterMap_cons, List.filterMap_cons, h a (by simp), fm_congr fun x hx => h x (List.mem_cons_of_mem _ hx)]
theorem zip_look {α : Type} : ∀ {ps : List Str} {us : List α}, ps.Nodup → us.length = ps.length → ps.filterMap (fun n => ((ps.zip us).lookup n).map (fun v => (n, v))) = ps.zip us
  | [], us, _, _ => by simp
  | p :: ps, [], _, h => by simp at h
  | p :: ps, u :: us, nd, h => by
    have ih := zip_look (ps := ps) (us := us) (List.nodup_cons.mp nd).2 (by simpa using h)
    rw [List.zip_cons_cons, List.filterMap_cons]
    simp only [List.lookup_cons_self, Option.map_some]
    congr 1
    refine Eq.trans (fm_congr fun x hx => ?_) ih
    have hne : (x == p) = false := by
      rw [beq_eq_false_iff_ne]
      exact fun z => (List.nodup_cons.mp nd).1 (z ▸ hx)
    rw [List.lookup_cons, hne]
theorem zip_some {α : Type} : ∀ {ps : List Str} {us : List α} {x : Str}, us.length = ps.length → x ∈ ps → ((ps.zip us).lookup x).isNone = false
  | [], us, x, _, h => by simp at h
  | p :: ps, [], x, h, _ => by simp at h
  | p :: ps, u :: us, x, h, hx => by
    rw [List.zip_cons_cons, List.lookup_cons]
    cases e : x == p with
    | true => rfl
    | false =>
      simp only
      refine zip_some (by simpa using h) ?_
      rcases List.mem_cons.mp hx with z | z
      · rw [z] at e; simp at e
      · exact z
theorem filt_nil {α : Type} {ps qs : List Str} {us : List α} (hl : us.length = ps.length) (h : ∀ x ∈ qs, x ∈ ps) : qs.filter (fun n => ((ps.zip us).lookup n).isNone) = [] := by
  rw [List.filter_eq_nil_iff]
  intro x hx
  rw [zip_some hl (h x hx)]
  decide
theorem loop_same : ∀ (l : List (Str × Value)) (sl : List (Str × Value)), (∀ q ∈ l, (sl.lookup q.1).isNone = false) →
   (forIn l sl fun (x : Str × Value) r => (if (r.lookup x.1).isNone = true then pure (ForInStep.yield (r ++ [(x.1, x.2)])) else pure (ForInStep.yield r) : Sem _)) = (pure sl : Sem _) := by
  intro l sl h
  induction l with
  | nil => rfl
  | cons q l ih =>
    rw [List.forIn_cons, if_neg (by rw [h q (by simp)]; decide), pure_bind]
    exact ih fun x hx => h x (List.mem_cons_of_mem _ hx)
theorem bind_eq {fd : FuncData} {ps : List Str} {us : List Value} (h1 : fd.params.posonlyargs = []) (h2 : fd.params.args.map (·.arg) = ps) (h3 : fd.params.kwonlyargs = []) (h4 : fd.params.vararg = none) (h5 : fd.params.kwarg = none) (nd : ps.Nodup) (hl : us.length = ps.length) :
   bindArgs fd ⟨us, []⟩ = seqItems? fd.defaults >>= fun _ => pure (ps.zip us) := by
  unfold bindArgs
  simp only [h1, h2, h3, h4, h5, List.map_nil, List.nil_append, List.append_nil, List.forIn_nil, pure_bind]
  congr 1
  funext o
  rw [if_neg (by rw [hl]; simp)]
  simp only [filt_nil hl fun x hx => List.mem_of_mem_take hx, List.isEmpty_nil, Bool.not_true, Bool.false_eq_true, if_false]
  rw [loop_same _ _ fun q hq => zip_some hl (List.mem_of_mem_drop (List.of_mem_zip hq).1)]
  simp only [pure_bind, zip_look nd hl]
/-- the defaults can be read -/
def dfB (K : PySem.W.Frag) : Value → Bool
  | .none => true
  | .ref T => (match K.lookup T with
    | some ⟨_, _, .seq _ _, _⟩ => true
    | _ => false)
  | _ => false
def parsB (p : Arguments) (ps : List Str) : Bool := p.posonlyargs.isEmpty && decide (p.args.map (·.arg) = ps) && p.kwonlyargs.isEmpty && p.vararg.isNone && p.kwarg.isNone
theorem binds_of {K : PySem.W.Frag} {fd : FuncData} {ps : List Str} (h : parsB fd.params ps = true) (hd : dfB K fd.defaults = true) (nd : ps.Nodup) : Binds K fd ps [] := by
  simp only [parsB, Bool.and_eq_true, List.isEmpty_iff, Option.isNone_iff_eq_none, decide_eq_true_eq] at h
  obtain ⟨⟨⟨⟨h1, h2⟩, h3⟩, h4⟩, h5⟩ := h
  intro s us X hl
  rw [List.append_nil] at hl ⊢
  have e := bind_eq (us := us) h1 h2 h3 h4 h5 nd hl
  cases hv : fd.defaults with
  | none => exact .of_eq (by rw [e, hv]; rfl)
  | ref T =>
    rw [hv] at hd
    unfold dfB at hd
    simp only at hd
    split at hd
    · rename_i oc od its n sl hl2
      exact BindsTo.of_defaults (k := fun _ => pure (ps.zip us)) hv (X _ _ hl2) rfl e rfl
    · cases hd
  | _ => rw [hv] at hd; cases hd
/-! ### scopes, defs -/
def scB (N ps : List Str) (sc : Scope) : Bool := decide (sc.kind = .function) && !sc.isCoroutine && !sc.isGenerator && decide N.Nodup && decide (N.take ps.length = ps) && (ps.all fun x => decide (sc.names.lookup x = some .local) || decide (sc.names.lookup x = some .cell)) && (sc.names.all fun y => !decide (y.2 = .free))
theorem scB_ok {N ps : List Str} {sc : Scope} (h : scB N ps sc = true) : FnScope N ps sc := by
  simp only [scB, Bool.and_eq_true, decide_eq_true_eq, Bool.not_eq_true', List.all_eq_true, Bool.or_eq_true, decide_eq_false_iff_not] at h
  obtain ⟨⟨⟨⟨⟨⟨h1, h2⟩, h3⟩, h4⟩, h5⟩, h6⟩, h7⟩ := h
  exact ⟨h1, h2, h3, h4, h5, h6, h7⟩
def isNever : List S → Bool
  | [.never] => true
  | _ => false
def fnB (K : PySem.W.Frag) (ck : Ck) (N : List Str) (F : Fn) (f : Addr) : Bool := isNever F.body || (match K.lookup f with
  | some ⟨_, _, .func fd, _⟩ => (match fd.body with
    | .stmts body => PySem.W.codeIn K fd.code fd.qualname && decide (fd.globals = mainGlobals) && fd.closure.isEmpty && decide (fd.builtins = builtinsNs) && scB N (N.take F.np) fd.scope && decide (F.n = N.length) && decide (F.np ≤ N.length) &&
      parsB fd.params (N.take F.np) && dfB K fd.defaults && chkSs ck N fd.scope (List.range N.length) F.body body
    | _ => false)
  | _ => false)
theorem fnB_ok {g : Gs} {fa : Nat → Addr} {ck : Ck} {i : Nat} {N : List Str} {F : Fn} (h : fnB g.K ck N F (fa i) = true) : FnFacts g fa ck i N F := by
  unfold fnB at h
  rw [Bool.or_eq_true] at h
  rcases h with h | h
  · refine .inl ?_
    unfold isNever at h
    split at h
    · assumption
    · cases h
  · refine .inr ?_
    split at h
    · rename_i oc od fd osl hl
      obtain ⟨n1, n2, n3, n4, n5, n6, n7, n8, n9, n10, n11, n12, n13, n14, n15⟩ := fd
      simp only at h
      split at h
      · rename_i body
        simp only [Bool.and_eq_true, decide_eq_true_eq, List.isEmpty_iff] at h
        obtain ⟨⟨⟨⟨⟨⟨⟨⟨⟨h1, h2⟩, h3⟩, h4⟩, h5⟩, h6⟩, h7⟩, h8⟩, h9⟩, h10⟩ := h
        subst h2 h3 h4
        have sc := scB_ok h5
        have nd : (N.take F.np).Nodup := sc.nd.sublist (List.take_sublist _ _)
        refine ⟨n1, n2, n3, body, n5, n8, n9, n10, n11, n13, n14, oc, n12, od, osl, hl, h1, sc, h6, by rw [List.length_take]; omega, h10, ?_⟩
        exact binds_of (fd := PySem.W.fnOf n1 n2 n3 body n5 n8 n9 n10 n11 n12 n13 n14) h8 h9 nd
      · cases h
    · cases h
/-! ### the layout of a row -/
structure Lay where
  cls : List (Nat × Str)
  fld : List (Nat × Str)
  fns : List (Nat × Str × Option Str × Bool × List Str)
  gt : List (Str × Gk)
  meth : List (Nat × Nat × Nat)
  prop : List (Nat × Nat × Nat)
  init : List (Nat × Nat)
  eqm : List (Nat × Nat)
  fds : List (Nat × List Nat)
def odd (i : Nat) : Str := ⟨Array.replicate (i + 1) 1⟩
def Lay.fN (L : Lay) (i : Nat) : Str := match L.fld.lookup i with
  | some x => x
  | none => odd i
def Lay.cA (L : Lay) (K : PySem.W.Frag) (c : Nat) : Addr := match L.cls.lookup c with
  | some x => He.ga K x
  | none => 0
/-- a property's getter -/
def gtr (K : PySem.W.Frag) (p : Addr) : Addr := match PySem.W.recIn K p "property" with
  | some (.ref f :: _) => f
  | _ => 0
def Lay.fa (L : Lay) (K : PySem.W.Frag) (i : Nat) : Addr := match L.fns.lookup i with
  | some (x, none, _, _) => He.ga K x
  | some (x, some m, false, _) => He.ma K (He.ga K x) m
  | some (x, some m, true, _) => gtr K (He.ma K (He.ga K x) m)
  | none => 0
def Lay.nm (L : Lay) (i : Nat) : List Str := match L.fns.lookup i with
  | some (_, _, _, N) => N
  | none => []
def look2 (l : List (Nat × Nat × Nat)) (c m : Nat) : Option Nat := match l with
  | [] => none
  | r :: t => if r.1 = c ∧ r.2.1 = m then some r.2.2 else look2 t c m
def Lay.pg (L : Lay) (fns : List (Nat × Fn)) : Pg where
  fns := fns
  meth := look2 L.meth
  prop := look2 L.prop
  init := fun c => L.init.lookup c
  eqm := fun c => L.eqm.lookup c
  xf := fun _ => none
  fld := fun c f => match L.fds.lookup c with
    | some l => l.contains f
    | none => false
def Lay.ck (L : Lay) : Ck := ⟨L.gt, L.fN, fun c => L.init.lookup c⟩
theorem look2_mem : ∀ {l : List (Nat × Nat × Nat)} {c m f : Nat}, look2 l c m = some f → (c, m, f) ∈ l
  | [], c, m, f, h => by cases h
  | (a, b, d) :: t, c, m, f, h => by
    unfold look2 at h
    split at h
    · rename_i q
      obtain ⟨q1, q2⟩ := q
      cases h
      simp only at q1 q2
      rw [q1, q2]
      exact List.mem_cons_self ..
    · exact List.mem_cons_of_mem _ (look2_mem h)
theorem lookup_in {α β : Type} [BEq α] [LawfulBEq α] : ∀ {l : List (α × β)} {a : α} {b : β}, l.lookup a = some b → (a, b) ∈ l
  | [], a, b, h => by cases h
  | (c, d) :: t, a, b, h => by
    rw [List.lookup_cons] at h
    cases e : a == c with
    | true =>
      rw [e] at h
      cases h
      rw [eq_of_beq e]
      exact List.mem_cons_self ..
    | false =>
      rw [e] at h
      exact List.mem_cons_of_mem _ (lookup_in h)
theorem odd_inj {i j : Nat} (h : odd i = odd j) : i = j := by
  have h2 : (Array.replicate (i + 1) 1 : Array Nat).size = (Array.replicate (j + 1) 1 : Array Nat).size := by
    have h3 := congrArg (fun s : Str => s.cps.size) h
    exact h3
  simpa using h2
def fldB (l : List (Nat × Str)) : Bool := decide (l.map (·.2)).Nodup && l.all fun x => !decide (x.2.cps[0]? = some 1)
theorem snd_inj {α β : Type} : ∀ {l : List (α × β)} {a b : α} {x : β}, (l.map (·.2)).Nodup → (a, x) ∈ l → (b, x) ∈ l → a = b
  | [], a, b, x, _, h, _ => by simp at h
  | r :: t, a, b, x, nd, h, h' => by
    rw [List.map_cons, List.nodup_cons] at nd
    rcases List.mem_cons.mp h with e | e
    · rcases List.mem_cons.mp h' with e' | e'
      · have := e.trans e'.symm
        exact (Prod.mk.inj this).1
      · exact absurd (List.mem_map.mpr ⟨_, e', by rw [← e]⟩) nd.1
    · rcases List.mem_cons.mp h' with e' | e'
      · exact absurd (List.mem_map.mpr ⟨_, e, by rw [← e']⟩) nd.1
      · exact snd_inj nd.2 e e'
theorem fN_inj {L : Lay} (h : fldB L.fld = true) (i j : Nat) (e : L.fN i = L.fN j) : i = j := by
  simp only [fldB, Bool.and_eq_true, decide_eq_true_eq, List.all_eq_true, Bool.not_eq_true', decide_eq_false_iff_not] at h
  obtain ⟨nd, no⟩ := h
  unfold Lay.fN at e
  have ho : ∀ k, (odd k).cps[0]? = some 1 := fun k => by simp [odd]
  cases ei : L.fld.lookup i with
  | none =>
    rw [ei] at e
    cases ej : L.fld.lookup j with
    | none =>
      rw [ej] at e
      exact odd_inj e
    | some y =>
      rw [ej] at e
      simp only at e
      exact absurd (by rw [← e]; exact ho i) (no _ (lookup_in ej))
  | some x =>
    rw [ei] at e
    cases ej : L.fld.lookup j with
    | none =>
      rw [ej] at e
      simp only at e
      exact absurd (by rw [e]; exact ho j) (no _ (lookup_in ei))
    | some y =>
      rw [ej] at e
      simp only at e
      subst e
      exact snd_inj nd (lookup_in ei) (lookup_in ej)
/-! ### one Bool -/
def clsB (K : PySem.W.Frag) (C : Addr) : Bool := PySem.W.plainGet K C Str.empty && PySem.W.hasDictIn K C && PySem.W.plainOver K C && He.eqO (PySem.W.findIn K (.ref C) "__setattr__") (some (some (.builtin "object.__setattr__")))
theorem clsB_ok {K : PySem.W.Frag} {C : Addr} (h : clsB K C = true) : Cls K C := by
  simp only [clsB, Bool.and_eq_true] at h
  obtain ⟨⟨⟨h1, h2⟩, h3⟩, h4⟩ := h
  exact ⟨h1, h2, h3, He.eqO_ok h4⟩
def methB (K : PySem.W.Frag) (C : Addr) (m : Str) (f : Addr) : Bool := He.eqO (PySem.W.findIn K (.ref C) m) (some (some (.ref f))) && PySem.W.isFn K (.ref f) && PySem.W.keepIn K (.ref f) && clsB K C
def propB (K : PySem.W.Frag) (C : Addr) (m : Str) (f : Addr) : Bool := He.eqO (PySem.W.findIn K (.ref C) m) (some (some (.ref (He.ma K C m)))) && He.eqO (PySem.W.specialIn K (.ref (He.ma K C m)) "__get__") (some (some (.builtin "property.__get__"))) && decide (PySem.W.takesIn K (.ref (He.ma K C m)) = some true) &&
  (match PySem.W.recIn K (He.ma K C m) "property" with
    | some (.ref g :: _) => decide (g = f)
    | _ => false) && clsB K C
def initB (K : PySem.W.Frag) (C f : Addr) : Bool := PySem.W.makesIn K C && He.eqO (PySem.W.findIn K (.ref C) "__init__") (some (some (.ref f))) && PySem.W.isFn K (.ref f) && PySem.W.keepIn K (.ref C) && clsB K C && He.eqO (PySem.W.findIn K (.ref C) "__class__") (some (some (.builtin "object.__class__"))) &&
  He.eqO (PySem.W.specialIn K (.builtin "object.__class__") "__get__") (some (some (.builtin "getset_descriptor.__get__"))) && decide (PySem.W.takesIn K (.builtin "object.__class__") = some true) && decide (PySem.W.mroIn K C (.type "object") = some true)
def eqmB (K : PySem.W.Frag) (C f : Addr) : Bool := He.eqO (PySem.W.findIn K (.ref C) "__eq__") (some (some (.ref f))) && PySem.W.isFn K (.ref f)
def gkB (L : Lay) (K : PySem.W.Frag) (x : Str) : Gk → Bool
  | .fn f => He.eqO (PySem.W.nsIn K mainGlobals x) (some (some (.ref (L.fa K f)))) && PySem.W.keepIn K (.ref (L.fa K f))
  | .cls c => He.eqO (PySem.W.nsIn K mainGlobals x) (some (some (.ref (L.cA K c))))
  | .cst d => (match PySem.W.nsIn K mainGlobals x, d with
    | some (some (.int j _)), .int i => decide (j = i)
    | some (some (.str y _)), .str z => decide (y = txS z) && txOk z
    | _, _ => false)
  | .blt => He.eqO (PySem.W.nsIn K mainGlobals x) (some none)
  | .err => (match PySem.W.nsIn K mainGlobals x with
    | some (some _) => true
    | _ => false)
def noLst (o : Obj) : Bool := match o.cls with
  | .type c => !decide (c = "list")
  | _ => true
def rowB (L : Lay) (fns : List (Nat × Fn)) (K : PySem.W.Frag) : Bool := fldB L.fld && (fns.all fun r => fnB K L.ck (L.nm r.1) r.2 (L.fa K r.1)) && (L.meth.all fun r => methB K (L.cA K r.1) (L.fN r.2.1) (L.fa K r.2.2)) && (L.prop.all fun r => propB K (L.cA K r.1) (L.fN r.2.1) (L.fa K r.2.2)) &&
  (L.init.all fun r => initB K (L.cA K r.1) (L.fa K r.2)) && (L.eqm.all fun r => eqmB K (L.cA K r.1) (L.fa K r.2)) && (L.fds.all fun r => clsB K (L.cA K r.1) && r.2.all fun f => He.eqO (PySem.W.findIn K (.ref (L.cA K r.1)) (L.fN f)) (some none)) && (L.gt.all fun r => gkB L K r.1 r.2) && (K.all fun r => noLst r.2)
theorem ckOk_of {L : Lay} {fns : List (Nat × Fn)} {g : Gs} {T : Tb} {h : Heap} (X : g.K.In h) (G : h.Ns mainGlobals g.mg) (hc : g.c = ⟨L.cA g.K, L.fN⟩) (hi : T.init = fun c => L.init.lookup c) (hg : ∀ r ∈ L.gt, gkB L g.K r.1 r.2 = true) : CkOk g T (L.fa g.K) L.ck where
  fn := fun x f e => by
    have q := hg _ (lookup_in e)
    simp only [gkB, Bool.and_eq_true] at q
    exact ⟨PySem.W.mg_of X G (He.eqO_ok q.1), q.2⟩
  cls := fun x c e => by
    have q := hg _ (lookup_in e)
    simp only [gkB] at q
    rw [hc]
    exact PySem.W.mg_of X G (He.eqO_ok q)
  cst := fun x d e => by
    have q := hg _ (lookup_in e)
    simp only [gkB] at q
    split at q
    · rename_i j t i e1
      have q : j = i := of_decide_eq_true q
      subst q
      exact ⟨_, .int j, PySem.W.mg_of X G e1, ⟨t, rfl⟩, fun _ => rfl⟩
    · rename_i y t z e1
      rw [Bool.and_eq_true] at q
      have q1 : y = txS z := of_decide_eq_true q.1
      subst q1
      exact ⟨_, .str (txS z), PySem.W.mg_of X G e1, ⟨t, rfl⟩, fun _ => ⟨rfl, q.2⟩⟩
    · cases q
  blt := fun x e => PySem.W.mg_none_of X G (He.eqO_ok (hg _ (lookup_in e)))
  err := fun x e => by
    have q := hg _ (lookup_in e)
    simp only [gkB] at q
    split at q
    · rename_i v e1
      exact ⟨v, PySem.W.mg_of X G e1⟩
    · cases q
  fN := fun i => by rw [hc]; rfl
  init := fun c => by rw [hi]; rfl
theorem pgOk_of {L : Lay} {fns : List (Nat × Fn)} {g : Gs} {h : Heap} (X : g.K.In h) (G : h.Ns mainGlobals g.mg) (hc : g.c = ⟨L.cA g.K, L.fN⟩) (b : rowB L fns g.K = true) : PgOk g (L.pg fns) (L.fa g.K) L.ck := by
  simp only [rowB, Bool.and_eq_true, List.all_eq_true] at b
  obtain ⟨⟨⟨⟨⟨⟨⟨⟨b1, b2⟩, b3⟩, b4⟩, b5⟩, b6⟩, b7⟩, b8⟩, _⟩ := b
  have hA : ∀ c, g.c.cA c = L.cA g.K c := fun c => by rw [hc]
  have hN : ∀ i, g.c.fN i = L.fN i := fun c => by rw [hc]
  refine ⟨fun i F hF => ⟨L.nm i, fnB_ok (b2 _ (lookup_in hF))⟩, fun _ => rfl, fun i j e => fN_inj b1 i j (by rw [← hN, ← hN]; exact e), fun c m f e => ?_, fun c m f e => ?_, fun c f e => ?_, fun c f e => ?_, fun c f e => ?_, fun c f e => ?_, fun fuel n => ckOk_of (fns := fns) X G hc rfl b8⟩
  · have q := b3 _ (look2_mem e)
    simp only [methB, Bool.and_eq_true] at q
    rw [hA, hN]
    exact ⟨⟨He.eqO_ok q.1.1.1, q.1.1.2, q.1.2⟩, clsB_ok q.2⟩
  · have q := b4 _ (look2_mem e)
    simp only [propB, Bool.and_eq_true] at q
    rw [hA, hN]
    refine ⟨⟨He.ma g.K (L.cA g.K c) (L.fN m), He.eqO_ok q.1.1.1.1, He.eqO_ok q.1.1.1.2, of_decide_eq_true q.1.1.2, ?_⟩, clsB_ok q.2⟩
    have q2 := q.1.2
    split at q2
    · rename_i gg rest e2
      have q3 : gg = L.fa g.K f := of_decide_eq_true q2
      rw [← q3]
      exact ⟨rest, e2⟩
    · cases q2
  · have q := b5 _ (lookup_in e)
    simp only [initB, Bool.and_eq_true] at q
    rw [hA]
    exact ⟨q.1.1.1.1.1.1.1.1, He.eqO_ok q.1.1.1.1.1.1.1.2, q.1.1.1.1.1.1.2, q.1.1.1.1.1.2⟩
  · have q := b6 _ (lookup_in e)
    simp only [eqmB, Bool.and_eq_true] at q
    rw [hA]
    exact ⟨He.eqO_ok q.1, q.2⟩
  · have q := b5 _ (lookup_in e)
    simp only [initB, Bool.and_eq_true] at q
    rw [hA]
    exact ⟨clsB_ok q.1.1.1.1.2, He.eqO_ok q.1.1.1.2, He.eqO_ok q.1.1.2, of_decide_eq_true q.1.2, of_decide_eq_true q.2⟩
  · have e : (match L.fds.lookup c with | some l => l.contains f | none => false) = true := e
    cases e1 : L.fds.lookup c with
    | none => rw [e1] at e; cases e
    | some l =>
      rw [e1] at e
      have q := b7 _ (lookup_in e1)
      obtain ⟨q1, q2⟩ := q
      rw [hA, hN]
      exact ⟨He.eqO_ok (q2 f (by simpa using e)), clsB_ok q1⟩
/-! ### the Hook -/
def rowG (n : Nat) (L : Lay) (fns : List (Nat × Fn)) (g : Addr → Option Obj) : Bool := rowB L fns (He.frG g (He.asD g n))
def hookM (n : Nat) (L : Lay) (fns : List (Nat × Fn)) : PySem.W.Hook where
  α := Bool
  obs := fun s => rowG n L fns s.heap.get?
  val := fun _ => true
  says := fun _ h => ∃ K : PySem.W.Frag, K.In h ∧ rowB L fns K = true
  of := fun _ _ e => ⟨_, He.frG_in, e⟩
  keeps := fun _ _ _ ⟨K, hK, c⟩ k => ⟨K, PySem.W.Frag.In.keeps hK k, c⟩
theorem rowG_eq {n : Nat} {L : Lay} {fns : List (Nat × Fn)} {g : Addr → Option Obj} {s : Shared} (h : ∀ a, g a = s.heap.get? a) : rowG n L fns g = (hookM n L fns).obs s := by
  have e : g = s.heap.get? := funext h
  rw [e] <;> rfl
end Mr

/-! The end: from the small language's answer to the row. -/
namespace Mr
open PySem L2
/-- the law's def: one parameter, no default -/
def lawB (K : PySem.W.Frag) (x : Str) (f : Addr) : Bool := match K.lookup f with
  | some ⟨_, _, .func fd, _⟩ => parsB fd.params [x] && (match fd.defaults with | .none => true | _ => false)
  | _ => false
theorem noCX {P : Program} {w : World} (H : Hp) (s : Shared) (e : Value) (s' : Shared) : L2.CX P w [] H s (fun _ _ _ => False) e s' → False := fun h => by
  obtain ⟨_, _, _, _, _, _, _, _, _, _, _, _, z⟩ := h
  exact z
theorem reps_ints {c : Cn} {K : PySem.W.Frag} {G : Hp} : ∀ ns : List Int, Reps c K G (ns.map D.int) (ns.map V.int)
  | [] => rfl
  | n :: ns => ⟨.int n, ns.map V.int, rfl, rfl, reps_ints ns⟩
def rowL (L : Lay) (fns : List (Nat × Fn)) (x : Str) (li : Nat) (K : PySem.W.Frag) : Bool := rowB L fns K && lawB K x (L.fa K li)
def rowLG (n : Nat) (L : Lay) (fns : List (Nat × Fn)) (x : Str) (li : Nat) (g : Addr → Option Obj) : Bool := rowL L fns x li (He.frG g (He.asD g n))
def hookL (n : Nat) (L : Lay) (fns : List (Nat × Fn)) (x : Str) (li : Nat) : PySem.W.Hook where
  α := Bool
  obs := fun s => rowLG n L fns x li s.heap.get?
  val := fun _ => true
  says := fun _ h => ∃ K : PySem.W.Frag, K.In h ∧ rowL L fns x li K = true
  of := fun _ _ e => ⟨_, He.frG_in, e⟩
  keeps := fun _ _ _ ⟨K, hK, c⟩ k => ⟨K, PySem.W.Frag.In.keeps hK k, c⟩
theorem rowLG_eq {n : Nat} {L : Lay} {fns : List (Nat × Fn)} {x : Str} {li : Nat} {g : Addr → Option Obj} {s : Shared} (h : ∀ a, g a = s.heap.get? a) : rowLG n L fns x li g = (hookL n L fns x li).obs s := by
  have e : g = s.heap.get? := funext h
  rw [e] <;> rfl
theorem law_walk {l : PySem.W.OpenLaw} {q : Program} {loose : List Str} {XP : (Str → Option Value) → Heap → Prop} {d : DefRec} {L : Lay} {fns : List (Nat × Fn)} {x : Str} {li nn n fuel : Nat} {Fl : Fn}
    (hn : l.most = some 63) (hdf : d.params.defaults = []) (hr : Room (2 * nn + 2) callerA) (hgt : L.gt.lookup d.name = some (.fn li)) (hF : fns.lookup li = some Fl) (hN : (L.nm li).take Fl.np = [x])
    (hm : ∀ ns : List Int, ns.length ≤ 63 → ∃ os, callN (L.pg fns) fuel (nn + 1) li [.val (.lst (ns.map .int))] = .ok (.val (.bl true), os)) :
    PySem.W.WalkO q loose XP (hookL n L fns x li).says l.row.toRowW d [] (fun f vs => PySem.call f vs) := by
  refine Att.attach_call hn hdf fun w s₀ s₁ mg mb fa o pm cd doc a vs ns G Y ho hd hcd hmg hobj hints hlen hg => ?_
  obtain ⟨K, KX, b⟩ := Y
  simp only [rowL, Bool.and_eq_true] at b
  obtain ⟨b1, b2⟩ := b
  have b1' := b1
  simp only [rowB, Bool.and_eq_true, List.all_eq_true] at b1'
  obtain ⟨_, nl⟩ := b1'
  -- where the law stands
  let g0 : Heap → Gs := fun base => ⟨l.prog, w, K, mg, base, ⟨L.cA K, L.fN⟩, tbN (L.pg fns) fuel nn⟩
  have PO : ∀ base, PgOk (g0 base) (L.pg fns) (L.fa K) L.ck := fun base => pgOk_of (g := g0 base) (h := s₁.heap) KX G.T.g rfl b1
  obtain ⟨e1, kp⟩ := ((PO s₁.heap).ko fuel nn).fn d.name li hgt
  have hfa : L.fa K li = fa := by
    have e2 : mg d.name = some (.ref (L.fa K li)) := e1
    rw [hmg] at e2
    cases e2
    rfl
  obtain ⟨oc0, F0⟩ : ∃ _ : Unit, ns.length ≤ 63 := ⟨(), hlen⟩
  have hcall : ∀ ns : List Int, ns.length ≤ 63 → ∃ os, runFn (tbN (L.pg fns) fuel nn) fuel Fl [.val (.lst (ns.map .int))] = .ok (.val (.bl true), os) := fun ns h => by
    obtain ⟨os, e⟩ := hm ns h
    refine ⟨os, ?_⟩
    have e0 : callN (L.pg fns) fuel (nn + 1) li [.val (.lst (ns.map .int))] = (match (L.pg fns).fns.lookup li with | some F => runFn (tbN (L.pg fns) fuel nn) fuel F [.val (.lst (ns.map .int))] | none => .stk) := rfl
    rw [e0, show (L.pg fns).fns.lookup li = some Fl from hF] at e
    exact e
  have ff0 : FnFacts (g0 s₁.heap) (L.fa K) L.ck li (L.nm li) Fl := by
    have b1'' := b1
    simp only [rowB, Bool.and_eq_true, List.all_eq_true] at b1''
    exact fnB_ok (g := g0 s₁.heap) (b1''.1.1.1.1.1.1.1.2 _ (lookup_in hF))
  rcases ff0 with hb | ⟨name, qual, params, body, scope, dV, kV, doc', pm', cdv, ct, oc, an, od, osl, h1, h2, h3, h4, h5, h6, h7⟩
  · obtain ⟨os, e⟩ := hcall [] (by simp)
    unfold runFn at e
    rw [hb] at e
    split at e
    · simp only [runs, run, Out.then_] at e
      cases e
    · cases e
  · have ebind : ∀ (s : Shared) (u : Value), BindsTo s (PySem.W.fnOf name qual params body scope dV kV doc' pm' an cdv ct) ⟨[u], []⟩ [(x, u)] := fun s u => by
      unfold lawB at b2
      rw [show K.lookup (L.fa K li) = _ from h1] at b2
      simp only [Bool.and_eq_true] at b2
      obtain ⟨p1, p2⟩ := b2
      simp only [parsB, Bool.and_eq_true, List.isEmpty_iff, Option.isNone_iff_eq_none, decide_eq_true_eq] at p1
      obtain ⟨⟨⟨⟨q1, q2⟩, q3⟩, q4⟩, q5⟩ := p1
      have ed : dV = .none := by
        cases dV <;> first | rfl | cases p2
      refine .of_eq ?_
      rw [bind_eq (fd := PySem.W.fnOf name qual params body scope dV kV doc' pm' an cdv ct) (ps := [x]) (us := [u]) q1 q2 q3 q4 q5 (by simp) rfl]
      show seqItems? dV >>= _ = _
      rw [ed]
      rfl
    refine law_call (CX := L2.CX l.prog w) (sp := fun us H Q E => ∃ ns : List Int, ns.length ≤ 63 ∧ spOf (g0 s₁.heap) [.val (.lst (ns.map .int))] (runFn (tbN (L.pg fns) fuel nn) fuel Fl [.val (.lst (ns.map .int))]) us H Q E) KX G.T.g G.T.b G.T.builtins G.T.nolimit hg hobj hints (Nat.le_trans hlen (by rw [sizeLine_eq]; decide)) hr (fun base _ _ => ?_) ebind (fun H hO hS => ?_) fun H e s' => noCX H s₁ e s'
    · have ok : ∀ as, FnOk l.prog w K mg base (L2.CX l.prog w) (2 * nn + 2) fa (PySem.W.fnOf name qual params body scope dV kV doc' pm' an cdv ct) [x] (spOf (g0 base) as (runFn (tbN (L.pg fns) fuel nn) fuel Fl as)) := fun as => by
        have z := fn_ok (g := g0 base) (fuel := fuel) h1 h2 h3 h4 h5 h6 ((PO base).ko fuel nn) (all_lv (PO base) fuel nn) (PO base).nox as
        rw [hN, hfa] at z
        exact z
      refine ⟨fun us H Q E ⟨ns, _, hs⟩ => (ok _).len us H Q E hs, fun A outer s H args us vs Q E hr e0 hb r ⟨ns, _, hs⟩ => (ok _).run A outer s H args us vs Q E hr e0 hb r hs⟩
    · refine ⟨ns, hlen, H, ⟨.refl H, rfl, fun i d hi => ?_, fun i d hi => ?_, fun i j d e b hi => ?_⟩, ?_⟩
      · cases i with
        | zero =>
          cases hi
          refine ⟨.ref a, rfl, a, ns.map V.int, rfl, ?_, reps_ints ns⟩
          rcases hS with hS | ⟨o, its, n, hk, hc, _⟩
          · exact hS
          · have := nl (a, o) (lookup_in hk)
            simp only [noLst, hc] at this
            simp at this
        | succ i => simp at hi
      · cases i with
        | zero => cases hi
        | succ i => simp at hi
      · cases i with
        | zero => cases hi
        | succ i => simp at hi
      · obtain ⟨os, e⟩ := hcall ns hlen
        rw [e]
        intro v G' H' _ _ r
        exact r
end Mr

/-! printed by gen.py: the program's defs. fields: index 0, name 1, place 2, spot 3, number 4, line 5, a 6, b 7, c 8, reason 9, size 10, __init__ 11, rings 12, joints 13, lengths 14, steps 15, mates 16, check_name 17, told 18, checked 19, has_place 20, rings_as_passed 21, names 22, __eq__ 23, __len__ 24, __contains__ 25, length 26, step 27, meetings 28, spots 29, spot_of 30, places 31, moved 32, __or__ 33, joined 34, without 35, with_step 36, chain 37, board 38, join 39, split 40, strip 41, append 42, web 43, turns 44, removeprefix 45, where 46, undone 47, items 48, __getitem__ 49, __iter__ 50, __add__ 51, came 52, trail 53, pushes 54, goals 55, origins 56, goal 57, plain 58, origin 59, pop 60, strange_places 61, __call__ 62, __mul__ 63, inverse 64, shifts 65, exceptions 66, form 67, lanes 68, marks 69, ahead 70, round_from 71, strange_lengths 72, stand 73, lone_length 74, lone_count 75, get 76, counts 77, sizes 78, pairs 79, lots 80, numbers 81, is_still 82, pure_count 83, is_pure 84, home 85, lot_size 86, moving 87, values 88, held 89, row 90, free_rings 91, kept 92, of_cycles 93, goes 94, cycles 95, is_even 96, layout 97, hinges 98, near 99, guide 100, stands 101, made 102, found 103, round_turns 104, pair 105, rotate 106, way 107, helper 108, three_turns 109, steps_along 110, advance 111, tracks 112, lead 113, even_turns 114, put_aside 115, call 116, rest 117, shown 118, first 119, second 120, seen 121, script 122, label_counts 123, lot_goes 124, like_spots 125, ring_turns 126, is_strict 127, fits_lots 128, wanted_row 129, track_steps 130, choices 131, leads_by 132, even_goes 133, masked 134, labels 135, past 136, future 137, step_on 138, turns_in_effect 139, present 140, undoable 141, redoable 142, turn 143, make 144, __iadd__ 145, undo 146, redo 147; classes: Web 100, Script 101, Form 102, Runs 103, Layout 104, Rearrangement 105, Guide 106, Gathering 107, Spread 108, Change 109, Desk 110; errors: RingError 0, InvalidRing 1, InvalidMeeting 2, UnknownRing 3, NameTaken 4, InvalidPlace 5, InvalidSpot 6, InvalidNumber 7, InvalidText 8, UnlikeWebs 9, UnlikeRests 10, NotOneToOne 11, NotOneLot 12, NotReachable 13, TooMany 14, NothingToUndo 15, NothingToRedo 16 -/
namespace Mr.P
def k_SMALL : Tx := [97, 98, 99, 100, 101, 102, 103, 104, 105, 106, 107, 108, 109, 110, 111, 112, 113, 114, 115, 116, 117, 118, 119, 120, 121, 122]
def k_FIGURES : Tx := [48, 49, 50, 51, 52, 53, 54, 55, 56, 57]
/-! is_name: name 0, sign 1 -/
def f0_0 : S := .ret (.cst (.bl false))
def f0_1 : S := .ite (.bool false [(.not (.chain .le .le (.cst (.int 1)) (.prim .len [(.var 0)]) (.gl 0 (.int 8)))), (.prim .nin [(.idxV 0 (.cst (.int 0))), (.gl 0 (.str Mr.P.k_SMALL))])]) [f0_0] []
def f0_e0 : E := (.bool false [(.prim .inn [(.var 1), (.gl 0 (.str Mr.P.k_SMALL))]), (.prim .inn [(.var 1), (.gl 0 (.str Mr.P.k_FIGURES))])])
def f0_2 : S := .ret (.prim .all [(.lc (.one 1) .seq [(.var 0)] [] f0_e0 [1])])
def f0 : Fn := ⟨2, 1, [], [f0_1, f0_2]⟩
/-! ring_fault: rings 0, names 1, index 2, ring 3, name 4, length 5, step 6 -/
def f1_e0 : E := (.var 4)
def f1_0 : S := .asg (.one 1) (.lc (.tup [4, 5, 6]) .seq [(.var 0)] [] f1_e0 [4, 5, 6])
def f1_1 : S := .asg (.tup [4, 5, 6]) (.var 3)
def f1_2 : S := .retV 2
def f1_3 : S := .ite (.bool false [(.not (.call 0 [none] [(.var 4)])), (.prim .inn [(.var 4), (.prim .sl01 [(.var 1), (.var 2)])]), (.prim .lt [(.var 5), (.cst (.int 1))]), (.prim .lt [(.var 6), (.cst (.int 1))])]) [f1_2] []
def f1_4 : S := .for_ (.tup [2, 3]) .enum [(.var 0)] [f1_1, f1_3] [2, 3, 4, 5, 6]
def f1_5 : S := .ret (.ifx (.chain .le .le (.cst (.int 1)) (.prim .len [(.var 0)]) (.gl 0 (.int 12))) (.cst .non) (.prim .len [(.var 0)]))
def f1 : Fn := ⟨7, 1, [], [f1_0, f1_4, f1_5]⟩
/-! meeting_fault: lengths 0, meetings 1, places 2, pairs 3, index 4, meeting 5, name 6, i 7, other 8, j 9 -/
def f2_0 : S := .asg (.one 2) (.lst [])
def f2_1 : S := .asg (.one 3) (.lst [])
def f2_2 : S := .asg (.tup [6, 7, 8, 9]) (.var 5)
def f2_3 : S := .retV 4
def f2_4 : S := .ite (.bool false [(.prim .nin [(.var 6), (.var 0)]), (.prim .nin [(.var 8), (.var 0)]), (.eqO false (.var 6) (.var 8))]) [f2_3] []
def f2_5 : S := .retV 4
def f2_6 : S := .ite (.bool false [(.not (.chain .le .lt (.cst (.int 0)) (.var 7) (.idxV 0 (.var 6)))), (.not (.chain .le .lt (.cst (.int 0)) (.var 9) (.idxV 0 (.var 8))))]) [f2_5] []
def f2_7 : S := .retV 4
def f2_8 : S := .ite (.bool false [(.prim .inn [(.tup [(.var 6), (.var 7)]), (.var 2)]), (.prim .inn [(.tup [(.var 8), (.var 9)]), (.var 2)]), (.prim .inn [(.tup [(.var 6), (.var 8)]), (.var 3)])]) [f2_7] []
def f2_9 : S := .asg (.one 2) (.lstS (.var 2) [(.tup [(.var 6), (.var 7)]), (.tup [(.var 8), (.var 9)])])
def f2_10 : S := .asg (.one 3) (.lstS (.var 3) [(.tup [(.var 6), (.var 8)]), (.tup [(.var 8), (.var 6)])])
def f2_11 : S := .for_ (.tup [4, 5]) .enum [(.var 1)] [f2_2, f2_4, f2_6, f2_8, f2_9, f2_10] [4, 5, 6, 7, 8, 9]
def f2_12 : S := .ret (.cst .non)
def f2 : Fn := ⟨10, 2, [], [f2_0, f2_1, f2_11, f2_12]⟩
/-! in_order: meeting 0, name 1, i 2, other 3, j 4 -/
def f3_0 : S := .asg (.tup [1, 2, 3, 4]) (.var 0)
def f3_1 : S := .ret (.ifx (.prim .lt [(.var 1), (.var 3)]) (.tup [(.var 1), (.var 2), (.var 3), (.var 4)]) (.tup [(.var 3), (.var 4), (.var 1), (.var 2)]))
def f3 : Fn := ⟨5, 1, [], [f3_0, f3_1]⟩
/-! Web.__init__: self 0, rings 1, meetings 2, fault 3, lengths 4, ends 5, name 6, length 7, step 8, i 9, other 10, j 11, meeting 12, first 13, second 14 -/
def f4_0 : S := .asg (.one 3) (.call 1 [none] [(.var 1)])
def f4_1 : S := .rse 1 [(.var 3)]
def f4_2 : S := .ite (.prim .ntN [(.var 3)]) [f4_1] []
def f4_e0 : E := (.var 6)
def f4_e1 : E := (.var 7)
def f4_3 : S := .asg (.one 4) (.dc false (.tup [6, 7, 8]) .seq [(.var 1)] [] f4_e0 f4_e1 [6, 7, 8])
def f4_4 : S := .asg (.one 3) (.call 2 [none, none] [(.var 4), (.var 2)])
def f4_5 : S := .rse 2 [(.var 3)]
def f4_6 : S := .ite (.prim .ntN [(.var 3)]) [f4_5] []
def f4_e2 : E := (.tup [(.var 6), (.var 7), (.prim .mod [(.var 8), (.var 7)])])
def f4_7 : S := .fld 0 12 (.prim .tuple [(.prim .sorted [(.lc (.tup [6, 7, 8]) .seq [(.var 1)] [] f4_e2 [6, 7, 8])])])
def f4_e3 : E := (.call 3 [none] [(.var 12)])
def f4_8 : S := .fld 0 13 (.prim .tuple [(.prim .sorted [(.lc (.one 12) .seq [(.var 2)] [] f4_e3 [12])])])
def f4_9 : S := .fld 0 14 (.var 4)
def f4_e4 : E := (.var 6)
def f4_e5 : E := (.var 8)
def f4_10 : S := .fld 0 15 (.dc false (.tup [6, 7, 8]) .seq [(.attrV 12 0)] [] f4_e4 f4_e5 [6, 7, 8])
def f4_e6 : E := (.tup [(.tup [(.var 6), (.var 9)]), (.tup [(.var 10), (.var 11)])])
def f4_11 : S := .asg (.one 5) (.lc (.tup [6, 9, 10, 11]) .seq [(.attrV 13 0)] [] f4_e6 [6, 9, 10, 11])
def f4_e7 : E := (.tup [(.var 14), (.var 13)])
def f4_12 : S := .fld 0 16 (.prim .dictT [(.prim .add [(.var 5), (.lc (.tup [13, 14]) .seq [(.var 5)] [] f4_e7 [13, 14])])])
def f4 : Fn := ⟨15, 3, [], [f4_0, f4_2, f4_3, f4_4, f4_6, f4_7, f4_8, f4_9, f4_10, f4_11, f4_12]⟩
/-! Web.__eq__: self 0, other 1 -/
def f5_0 : S := .ret (.bool true [(.isi 100 (.var 1)), (.eqO false (.attrV 12 0) (.attrV 12 1)), (.eqO false (.attrV 13 0) (.attrV 13 1))])
def f5 : Fn := ⟨2, 2, [], [f5_0]⟩
/-! Web.__len__: self 0 -/
def f6_0 : S := .ret (.prim .len [(.attrV 12 0)])
def f6 : Fn := ⟨1, 1, [], [f6_0]⟩
/-! Web.__contains__: self 0, name 1 -/
def f7_0 : S := .ret (.prim .inn [(.var 1), (.attrV 14 0)])
def f7 : Fn := ⟨2, 2, [], [f7_0]⟩
/-! Web.names: self 0, name 1, length 2, step 3 -/
def f8_e0 : E := (.var 1)
def f8_0 : S := .ret (.lc (.tup [1, 2, 3]) .seq [(.attrV 12 0)] [] f8_e0 [1, 2, 3])
def f8 : Fn := ⟨4, 1, [], [f8_0]⟩
/-! Web.check_name: self 0, name 1 -/
def f9_0 : S := .rse 3 [(.var 1)]
def f9_1 : S := .ite (.prim .nin [(.var 1), (.attrV 14 0)]) [f9_0] []
def f9 : Fn := ⟨2, 2, [], [f9_1]⟩
/-! Web.length: self 0, name 1 -/
def f10_0 : S := .ex (.meth 17 [none] (.var 0) [(.var 1)])
def f10_1 : S := .ret (.prim .idx [(.attrV 14 0), (.var 1)])
def f10 : Fn := ⟨2, 2, [], [f10_0, f10_1]⟩
/-! Web.step: self 0, name 1 -/
def f11_0 : S := .ex (.meth 17 [none] (.var 0) [(.var 1)])
def f11_1 : S := .ret (.prim .idx [(.attrV 15 0), (.var 1)])
def f11 : Fn := ⟨2, 2, [], [f11_0, f11_1]⟩
/-! Web.meetings: self 0 -/
def f12_0 : S := .ret (.prim .list [(.attrV 13 0)])
def f12 : Fn := ⟨1, 1, [], [f12_0]⟩
/-! Web.spots: self 0, name 1, length 2, step 3 -/
def f13_e0 : E := (.var 2)
def f13_0 : S := .ret (.prim .sub [(.prim .sum [(.lc (.tup [1, 2, 3]) .seq [(.attrV 12 0)] [] f13_e0 [1, 2, 3])]), (.prim .len [(.attrV 13 0)])])
def f13 : Fn := ⟨4, 1, [], [f13_0]⟩
/-! Web.has_place: self 0, place 1, name 2, i 3 -/
def f14_0 : S := .asg (.tup [2, 3]) (.var 1)
def f14_1 : S := .ret (.bool true [(.prim .inn [(.var 2), (.attrV 14 0)]), (.chain .le .lt (.cst (.int 0)) (.var 3) (.prim .idx [(.attrV 14 0), (.var 2)]))])
def f14 : Fn := ⟨4, 2, [], [f14_0, f14_1]⟩
/-! Web.told: self 0, place 1 -/
def f15_0 : S := .ret (.ifx (.prim .inn [(.var 1), (.attrV 16 0)]) (.prim .min [(.var 1), (.prim .idx [(.attrV 16 0), (.var 1)])]) (.var 1))
def f15 : Fn := ⟨2, 2, [], [f15_0]⟩
/-! Web.spot_of: self 0, name 1, i 2 -/
def f16_0 : S := .ex (.meth 17 [none] (.var 0) [(.var 1)])
def f16_1 : S := .rse 5 [(.tup [(.var 1), (.var 2)])]
def f16_2 : S := .ite (.not (.chain .le .lt (.cst (.int 0)) (.var 2) (.prim .idx [(.attrV 14 0), (.var 1)]))) [f16_1] []
def f16_3 : S := .ret (.meth 18 [none] (.var 0) [(.tup [(.var 1), (.var 2)])])
def f16 : Fn := ⟨3, 3, [], [f16_0, f16_2, f16_3]⟩
/-! Web.checked: self 0, spot 1 -/
def f17_0 : S := .rse 6 [(.var 1)]
def f17_1 : S := .ite (.not (.meth 20 [none] (.var 0) [(.var 1)])) [f17_0] []
def f17_2 : S := .ret (.meth 18 [none] (.var 0) [(.var 1)])
def f17 : Fn := ⟨2, 2, [], [f17_1, f17_2]⟩
/-! Web.places: self 0, spot 1, place 2 -/
def f18_0 : S := .asg (.one 2) (.meth 19 [none] (.var 0) [(.var 1)])
def f18_1 : S := .ret (.ifx (.prim .inn [(.var 2), (.attrV 16 0)]) (.lst [(.var 2), (.prim .idx [(.attrV 16 0), (.var 2)])]) (.lst [(.var 2)]))
def f18 : Fn := ⟨3, 2, [], [f18_0, f18_1]⟩
/-! Web.moved: self 0, spot 1, name 2, places 3, place 4 -/
def f19_0 : S := .asg (.one 4) (.var 1)
def f19_1 : S := .asg (.one 4) (.prim .idx [(.attrV 16 0), (.var 4)])
def f19_2 : S := .ite (.bool true [(.eqO true (.idxV 4 (.cst (.int 0))) (.var 2)), (.prim .inn [(.var 4), (.attrV 16 0)])]) [f19_1] []
def f19_3 : S := .retV 1
def f19_4 : S := .ite (.eqO true (.idxV 4 (.cst (.int 0))) (.var 2)) [f19_3] []
def f19_5 : S := .ret (.meth 18 [none] (.var 0) [(.tup [(.var 2), (.prim .mod [(.prim .add [(.idxV 4 (.cst (.int 1))), (.var 3)]), (.prim .idx [(.attrV 14 0), (.var 2)])])])])
def f19 : Fn := ⟨5, 4, [], [f19_0, f19_2, f19_4, f19_5]⟩
/-! Web.__or__: self 0, other 1, both 2, name 3 -/
def f20_e0 : E := (.var 3)
def f20_0 : S := .asg (.one 2) (.lc (.one 3) .seq [(.meth 22 [] (.var 0) [])] [(.prim .inn [(.var 3), (.var 1)])] f20_e0 [3])
def f20_1 : S := .rse 4 [(.idxV 2 (.cst (.int 0)))]
def f20_2 : S := .ite (.var 2) [f20_1] []
def f20_3 : S := .ret (.make 100 [(.prim .add [(.meth 21 [] (.var 0) []), (.meth 21 [] (.var 1) [])]), (.prim .add [(.attrV 13 0), (.attrV 13 1)])])
def f20 : Fn := ⟨4, 2, [], [f20_0, f20_2, f20_3]⟩
/-! Web.rings_as_passed: self 0, name 1, length 2, step 3 -/
def f21_e0 : E := (.tup [(.var 1), (.var 2), (.bool false [(.var 3), (.var 2)])])
def f21_0 : S := .ret (.prim .tuple [(.lc (.tup [1, 2, 3]) .seq [(.attrV 12 0)] [] f21_e0 [1, 2, 3])])
def f21 : Fn := ⟨4, 1, [], [f21_0]⟩
/-! Web.joined: self 0, name 1, i 2, other 3, j 4 -/
def f22_0 : S := .ret (.make 100 [(.meth 21 [] (.var 0) []), (.lstS (.attrV 13 0) [(.tup [(.var 1), (.var 2), (.var 3), (.var 4)])])])
def f22 : Fn := ⟨5, 5, [], [f22_0]⟩
/-! Web.without: self 0, name 1, rings 2, ring 3, joint 4 -/
def f23_0 : S := .ex (.meth 17 [none] (.var 0) [(.var 1)])
def f23_e0 : E := (.var 3)
def f23_1 : S := .asg (.one 2) (.lc (.one 3) .seq [(.meth 21 [] (.var 0) [])] [(.eqO true (.idxV 3 (.cst (.int 0))) (.var 1))] f23_e0 [3])
def f23_e1 : E := (.var 4)
def f23_2 : S := .ret (.make 100 [(.var 2), (.lc (.one 4) .seq [(.attrV 13 0)] [(.prim .nin [(.var 1), (.tup [(.idxV 4 (.cst (.int 0))), (.idxV 4 (.cst (.int 2)))])])] f23_e1 [4])])
def f23 : Fn := ⟨5, 2, [], [f23_0, f23_1, f23_2]⟩
/-! Web.with_step: self 0, name 1, step 2, rings 3, ring 4, length 5, old 6 -/
def f24_0 : S := .ex (.meth 17 [none] (.var 0) [(.var 1)])
def f24_1 : S := .rse 7 [(.var 2)]
def f24_2 : S := .ite (.prim .lt [(.var 2), (.cst (.int 1))]) [f24_1] []
def f24_e0 : E := (.tup [(.var 4), (.var 5), (.ifx (.eqO false (.var 4) (.var 1)) (.var 2) (.var 6))])
def f24_3 : S := .asg (.one 3) (.lc (.tup [4, 5, 6]) .seq [(.meth 21 [] (.var 0) [])] [] f24_e0 [4, 5, 6])
def f24_4 : S := .ret (.make 100 [(.var 3), (.attrV 13 0)])
def f24 : Fn := ⟨7, 3, [], [f24_0, f24_2, f24_3, f24_4]⟩
/-! format_web: web 0, lines 1, name 2, length 3, step 4, i 5, other 6, j 7 -/
def f27_e0 : E := (.fst [(.cst (.str [114, 105, 110, 103, 32])), (.var 2), (.cst (.str [32])), (.var 3), (.cst (.str [32])), (.var 4)])
def f27_0 : S := .asg (.one 1) (.lc (.tup [2, 3, 4]) .seq [(.meth 21 [] (.var 0) [])] [] f27_e0 [2, 3, 4])
def f27_e1 : E := (.fst [(.cst (.str [109, 101, 101, 116, 32])), (.var 2), (.cst (.str [32])), (.var 5), (.cst (.str [32])), (.var 6), (.cst (.str [32])), (.var 7)])
def f27_1 : S := .asg (.one 1) (.prim .add [(.var 1), (.lc (.tup [2, 5, 6, 7]) .seq [(.meth 28 [] (.var 0) [])] [] f27_e1 [2, 5, 6, 7])])
def f27_2 : S := .ret (.tm .join (.cst (.str [10])) (.var 1))
def f27 : Fn := ⟨8, 1, [], [f27_0, f27_1, f27_2]⟩
/-! number_of: word 0 -/
def f28_0 : S := .ret (.cst .non)
def f28_1 : S := .ite (.bool false [(.eqO false (.var 0) (.cst (.str []))), (.eqO true (.tm .strip (.var 0) (.gl 0 (.str Mr.P.k_FIGURES))) (.cst (.str []))), (.bool true [(.eqO false (.idxV 0 (.cst (.int 0))) (.cst (.str [48]))), (.prim .gt [(.prim .len [(.var 0)]), (.cst (.int 1))])]), (.prim .gt [(.prim .len [(.var 0)]), (.gl 0 (.int 1000))])]) [f28_0] []
def f28_2 : S := .ret (.prim .int [(.var 0)])
def f28 : Fn := ⟨1, 1, [], [f28_1, f28_2]⟩
/-! ring_of: words 0, length 1, step 2 -/
def f29_0 : S := .ret (.cst .non)
def f29_1 : S := .ite (.bool false [(.eqO true (.prim .len [(.var 0)]) (.cst (.int 4))), (.eqO true (.idxV 0 (.cst (.int 0))) (.cst (.str [114, 105, 110, 103]))), (.not (.call 0 [none] [(.idxV 0 (.cst (.int 1)))]))]) [f29_0] []
def f29_2 : S := .par [1, 2] [(.call 28 [none] [(.idxV 0 (.cst (.int 2)))]), (.call 28 [none] [(.idxV 0 (.cst (.int 3)))])]
def f29_3 : S := .ret (.ifx (.bool false [(.not (.var 1)), (.not (.var 2))]) (.cst .non) (.tup [(.idxV 0 (.cst (.int 1))), (.var 1), (.var 2)]))
def f29 : Fn := ⟨3, 1, [], [f29_1, f29_2, f29_3]⟩
/-! meeting_of: words 0, i 1, j 2 -/
def f30_0 : S := .ret (.cst .non)
def f30_1 : S := .ite (.bool false [(.eqO true (.prim .len [(.var 0)]) (.cst (.int 5))), (.eqO true (.idxV 0 (.cst (.int 0))) (.cst (.str [109, 101, 101, 116]))), (.not (.call 0 [none] [(.idxV 0 (.cst (.int 1)))])), (.not (.call 0 [none] [(.idxV 0 (.cst (.int 3)))]))]) [f30_0] []
def f30_2 : S := .par [1, 2] [(.call 28 [none] [(.idxV 0 (.cst (.int 2)))]), (.call 28 [none] [(.idxV 0 (.cst (.int 4)))])]
def f30_3 : S := .ret (.ifx (.bool false [(.prim .isN [(.var 1)]), (.prim .isN [(.var 2)])]) (.cst .non) (.tup [(.idxV 0 (.cst (.int 1))), (.var 1), (.idxV 0 (.cst (.int 3))), (.var 2)]))
def f30 : Fn := ⟨3, 1, [], [f30_1, f30_2, f30_3]⟩
/-! web_of: rings 0, meetings 1 -/
def f31_0 : S := .ret (.make 100 [(.var 0), (.var 1)])
def f31_1 : S := .ret (.cst .non)
def f31_2 : S := .tryx [f31_0] [0] [none] [[f31_1]] []
def f31 : Fn := ⟨2, 2, [], [f31_2]⟩
/-! parse_web: text 0, rings 1, meetings 2, web 3, at 4, line 5, words 6, ring 7, meeting 8 -/
def f32_0 : S := .asg (.one 1) (.lst [])
def f32_1 : S := .asg (.one 2) (.lst [])
def f32_2 : S := .asg (.one 6) (.tm .split (.var 5) (.cst (.str [32])))
def f32_3 : S := .asg (.one 7) (.call 29 [none] [(.var 6)])
def f32_4 : S := .asg (.one 8) (.call 30 [none] [(.var 6)])
def f32_5 : S := .rse 8 [(.prim .add [(.var 4), (.cst (.int 1))])]
def f32_6 : S := .ite (.borT (.bool false [(.bool true [(.prim .isN [(.var 7)]), (.prim .isN [(.var 8)])]), (.bool true [(.prim .ntN [(.var 7)]), (.var 2)])])) [f32_5] []
def f32_7 : S := .app 1 (.var 7)
def f32_8 : S := .app 2 (.var 8)
def f32_9 : S := .ite (.prim .ntN [(.var 7)]) [f32_7] [f32_8]
def f32_10 : S := .for_ (.tup [4, 5]) .enum [(.tm .split (.var 0) (.cst (.str [10])))] [f32_2, f32_3, f32_4, f32_6, f32_9] [4, 5, 6, 7, 8]
def f32_11 : S := .asg (.one 3) (.call 31 [none, none] [(.var 1), (.var 2)])
def f32_12 : S := .rse 8 [(.cst (.int 0))]
def f32_13 : S := .ite (.bool false [(.prim .isN [(.var 3)]), (.eqO true (.call 27 [none] [(.var 3)]) (.var 0))]) [f32_12] []
def f32_14 : S := .retV 3
def f32 : Fn := ⟨9, 1, [], [f32_0, f32_1, f32_10, f32_11, f32_13, f32_14]⟩
/-! common_divisor: first 0, second 1 -/
def f33_0 : S := .par [0, 1] [(.var 1), (.prim .mod [(.var 0), (.var 1)])]
def f33_1 : S := .whl (.var 1) [f33_0] []
def f33_2 : S := .retV 0
def f33 : Fn := ⟨2, 2, [], [f33_1, f33_2]⟩
/-! solution: factor 0, wanted 1, modulus 2, divisor 3, small 4, first 5, second 6, one 7, other 8, share 9 -/
def f34_0 : S := .asg (.one 3) (.call 33 [none, none] [(.prim .mod [(.var 0), (.var 2)]), (.var 2)])
def f34_1 : S := .ret (.cst .non)
def f34_2 : S := .ite (.eqO true (.prim .mod [(.var 1), (.var 3)]) (.cst (.int 0))) [f34_1] []
def f34_3 : S := .asg (.one 4) (.prim .fdiv [(.var 2), (.var 3)])
def f34_4 : S := .par [5, 6] [(.prim .mod [(.prim .fdiv [(.var 0), (.var 3)]), (.var 4)]), (.var 4)]
def f34_5 : S := .par [7, 8] [(.cst (.int 1)), (.cst (.int 0))]
def f34_6 : S := .asg (.one 9) (.prim .fdiv [(.var 5), (.var 6)])
def f34_7 : S := .par [5, 6] [(.var 6), (.prim .sub [(.var 5), (.prim .mul [(.var 9), (.var 6)])])]
def f34_8 : S := .par [7, 8] [(.var 8), (.prim .sub [(.var 7), (.prim .mul [(.var 9), (.var 8)])])]
def f34_9 : S := .whl (.var 6) [f34_6, f34_7, f34_8] [9]
def f34_10 : S := .ret (.prim .mod [(.prim .mul [(.var 7), (.prim .fdiv [(.var 1), (.var 3)])]), (.var 4)])
def f34 : Fn := ⟨10, 3, [], [f34_0, f34_2, f34_3, f34_4, f34_5, f34_9, f34_10]⟩
/-! summed: first 0, second 1, one 2, other 3 -/
def f35_e0 : E := (.prim .mod [(.prim .add [(.var 2), (.var 3)]), (.cst (.int 2))])
def f35_0 : S := .ret (.prim .tuple [(.lc (.tup [2, 3]) .zip [(.var 0), (.var 1)] [] f35_e0 [2, 3])])
def f35 : Fn := ⟨4, 2, [], [f35_0]⟩
/-! is_odd_pair: first 0, second 1, one 2, other 3 -/
def f37_e0 : E := (.prim .mul [(.var 2), (.var 3)])
def f37_0 : S := .ret (.eqO false (.prim .mod [(.prim .sum [(.lc (.tup [2, 3]) .zip [(.var 0), (.var 1)] [] f37_e0 [2, 3])]), (.cst (.int 2))]) (.cst (.int 1)))
def f37 : Fn := ⟨4, 2, [], [f37_0]⟩
/-! Script.__init__: self 0, web 1, turns 2, name 3, k 4 -/
def f38_0 : S := .ex (.meth 17 [none] (.var 1) [(.var 3)])
def f38_1 : S := .for_ (.tup [3, 4]) .seq [(.var 2)] [f38_0] []
def f38_2 : S := .fld 0 43 (.var 1)
def f38_e0 : E := (.tup [(.var 3), (.var 4)])
def f38_3 : S := .fld 0 44 (.prim .tuple [(.lc (.tup [3, 4]) .seq [(.var 2)] [] f38_e0 [3, 4])])
def f38 : Fn := ⟨5, 3, [], [f38_1, f38_2, f38_3]⟩
/-! Script.__eq__: self 0, other 1 -/
def f39_0 : S := .ret (.bool true [(.isi 101 (.var 1)), (.eqO false (.attrV 43 0) (.attrV 43 1)), (.eqO false (.attrV 44 0) (.attrV 44 1))])
def f39 : Fn := ⟨2, 2, [], [f39_0]⟩
/-! Script.__len__: self 0 -/
def f40_0 : S := .ret (.prim .len [(.attrV 44 0)])
def f40 : Fn := ⟨1, 1, [], [f40_0]⟩
/-! Script.__getitem__: self 0, index 1 -/
def f41_0 : S := .rse 7 [(.var 1)]
def f41_1 : S := .ite (.not (.chain .le .lt (.cst (.int 0)) (.var 1) (.prim .len [(.attrV 44 0)]))) [f41_0] []
def f41_2 : S := .ret (.prim .idx [(.attrV 44 0), (.var 1)])
def f41 : Fn := ⟨2, 2, [], [f41_1, f41_2]⟩
/-! Script.__add__: self 0, other 1 -/
def f43_0 : S := .rse 9 []
def f43_1 : S := .ite (.eqO true (.attrV 43 0) (.attrV 43 1)) [f43_0] []
def f43_2 : S := .ret (.make 101 [(.attrV 43 0), (.prim .add [(.attrV 44 0), (.attrV 44 1)])])
def f43 : Fn := ⟨2, 2, [], [f43_1, f43_2]⟩
/-! Script.undone: self 0 -/
def f44_0 : S := .ret (.make 101 [(.attrV 43 0), (.call 48 [none] [(.attrV 44 0)])])
def f44 : Fn := ⟨1, 1, [], [f44_0]⟩
/-! Script.where: self 0, spot 1, place 2, name 3, k 4 -/
def f45_0 : S := .asg (.one 2) (.meth 19 [none] (.attrV 43 0) [(.var 1)])
def f45_1 : S := .asg (.one 2) (.meth 32 [none, none, none] (.attrV 43 0) [(.var 2), (.var 3), (.prim .mul [(.var 4), (.prim .idx [(.attr 15 (.attrV 43 0)), (.var 3)])])])
def f45_2 : S := .for_ (.tup [3, 4]) .seq [(.attrV 44 0)] [f45_1] [3, 4]
def f45_3 : S := .retV 2
def f45 : Fn := ⟨5, 2, [], [f45_0, f45_2, f45_3]⟩
/-! Script.came: self 0, spot 1 -/
def f46_0 : S := .ret (.meth 46 [none] (.attrV 47 0) [(.var 1)])
def f46 : Fn := ⟨2, 2, [], [f46_0]⟩
/-! turned_back: turns 0, name 1, k 2 -/
def f48_e0 : E := (.tup [(.var 1), (.prim .neg [(.var 2)])])
def f48_0 : S := .ret (.lc (.tup [1, 2]) .seq [(.prim .rev [(.var 0)])] [] f48_e0 [1, 2])
def f48 : Fn := ⟨3, 1, [], [f48_0]⟩
/-! format_script: script 0, words 1, name 2, k 3 -/
def f50_e0 : E := (.fst [(.var 2), (.cst (.str [58])), (.var 3)])
def f50_0 : S := .asg (.one 1) (.lc (.tup [2, 3]) .seq [(.attrV 44 0)] [] f50_e0 [2, 3])
def f50_1 : S := .ret (.ifx (.var 1) (.tm .join (.cst (.str [32])) (.var 1)) (.gl 0 (.str [45])))
def f50 : Fn := ⟨4, 1, [], [f50_0, f50_1]⟩
/-! integer_of: text 0, figures 1, sign 2 -/
def f51_0 : S := .asg (.one 1) (.meth 45 [none] (.var 0) [(.cst (.str [45]))])
def f51_e0 : E := (.prim .inn [(.var 2), (.gl 0 (.str Mr.P.k_FIGURES))])
def f51_1 : S := .ret (.cst .non)
def f51_2 : S := .ite (.bool false [(.not (.chain .le .le (.cst (.int 1)) (.prim .len [(.var 1)]) (.gl 0 (.int 1000)))), (.not (.prim .all [(.lc (.one 2) .seq [(.var 1)] [] f51_e0 [2])]))]) [f51_1] []
def f51_3 : S := .ret (.ifx (.bool true [(.eqO false (.idxV 1 (.cst (.int 0))) (.cst (.str [48]))), (.eqO true (.var 0) (.cst (.str [48])))]) (.cst .non) (.prim .int [(.var 0)]))
def f51 : Fn := ⟨3, 1, [], [f51_0, f51_2, f51_3]⟩
/-! turn_of: web 0, word 1, parts 2, k 3 -/
def f52_0 : S := .asg (.one 2) (.tm .split (.var 1) (.cst (.str [58])))
def f52_1 : S := .ret (.cst .non)
def f52_2 : S := .ite (.bool false [(.eqO true (.prim .len [(.var 2)]) (.cst (.int 2))), (.prim .nin [(.idxV 2 (.cst (.int 0))), (.var 0)])]) [f52_1] []
def f52_3 : S := .asg (.one 3) (.call 51 [none] [(.idxV 2 (.cst (.int 1)))])
def f52_4 : S := .ret (.ifx (.prim .isN [(.var 3)]) (.cst .non) (.tup [(.idxV 2 (.cst (.int 0))), (.var 3)]))
def f52 : Fn := ⟨4, 2, [], [f52_0, f52_2, f52_3, f52_4]⟩
/-! parse_script: web 0, text 1, turns 2, word 3 -/
def f53_0 : S := .ret (.make 101 [(.var 0)])
def f53_1 : S := .ite (.eqO false (.var 1) (.gl 0 (.str [45]))) [f53_0] []
def f53_e0 : E := (.call 52 [none, none] [(.var 0), (.var 3)])
def f53_2 : S := .asg (.one 2) (.lc (.one 3) .seq [(.tm .split (.var 1) (.cst (.str [32])))] [] f53_e0 [3])
def f53_3 : S := .rse 8 [(.meth 0 [none] (.var 2) [(.cst .non)])]
def f53_4 : S := .ite (.prim .inn [(.cst .non), (.var 2)]) [f53_3] []
def f53_5 : S := .ret (.make 101 [(.var 0), (.var 2)])
def f53 : Fn := ⟨4, 2, [], [f53_1, f53_2, f53_4, f53_5]⟩
/-! Form.__init__: self 0, web 1, shifts 2, goes 3, name 4, a 5, b 6, spot 7, goal 8 -/
def f54_0 : S := .fld 0 43 (.var 1)
def f54_e0 : E := (.var 4)
def f54_e1 : E := (.prim .mod [(.idxV 2 (.var 4)), (.prim .idx [(.attrV 14 1), (.var 4)])])
def f54_1 : S := .fld 0 54 (.dc false (.one 4) .seq [(.meth 22 [] (.var 1) [])] [] f54_e0 f54_e1 [4])
def f54_e2 : E := (.var 5)
def f54_e3 : E := (.var 6)
def f54_2 : S := .fld 0 55 (.dc false (.tup [5, 6]) .items [(.var 3)] [(.bor (.bool false [(.prim .inn [(.var 5), (.attrV 16 1)]), (.eqO true (.var 6) (.meth 58 [none, none] (.var 0) [(.var 5), (.cst (.int 1))]))]))] f54_e2 f54_e3 [5, 6])
def f54_e4 : E := (.var 8)
def f54_e5 : E := (.var 7)
def f54_3 : S := .fld 0 56 (.dc false (.tup [7, 8]) .items [(.attrV 55 0)] [] f54_e4 f54_e5 [7, 8])
def f54 : Fn := ⟨9, 4, [], [f54_0, f54_1, f54_2, f54_3]⟩
/-! Form.plain: self 0, spot 1, times 2, name 3, i 4 -/
def f55_0 : S := .asg (.tup [3, 4]) (.var 1)
def f55_1 : S := .ret (.meth 18 [none] (.attrV 43 0) [(.tup [(.var 3), (.prim .mod [(.prim .add [(.var 4), (.prim .mul [(.var 2), (.prim .idx [(.attrV 54 0), (.var 3)])])]), (.prim .idx [(.attr 14 (.attrV 43 0)), (.var 3)])])])])
def f55 : Fn := ⟨5, 3, [], [f55_0, f55_1]⟩
/-! Form.goal: self 0, spot 1 -/
def f56_0 : S := .ret (.ifx (.prim .inn [(.var 1), (.attrV 55 0)]) (.prim .idx [(.attrV 55 0), (.var 1)]) (.meth 58 [none, none] (.var 0) [(.var 1), (.cst (.int 1))]))
def f56 : Fn := ⟨2, 2, [], [f56_0]⟩
/-! Form.origin: self 0, spot 1, found 2, name 3, i 4, place 5 -/
def f57_0 : S := .ret (.prim .idx [(.attrV 56 0), (.var 1)])
def f57_1 : S := .ite (.prim .inn [(.var 1), (.attrV 56 0)]) [f57_0] []
def f57_2 : S := .asg (.one 2) (.var 1)
def f57_3 : S := .asg (.one 5) (.meth 18 [none] (.attrV 43 0) [(.tup [(.var 3), (.prim .mod [(.prim .sub [(.var 4), (.prim .idx [(.attrV 54 0), (.var 3)])]), (.prim .idx [(.attr 14 (.attrV 43 0)), (.var 3)])])])])
def f57_4 : S := .asg (.one 2) (.var 5)
def f57_5 : S := .ite (.prim .nin [(.var 5), (.attrV 55 0)]) [f57_4] []
def f57_6 : S := .for_ (.tup [3, 4]) .seq [(.meth 31 [none] (.attrV 43 0) [(.var 1)])] [f57_3, f57_5] [3, 4, 5]
def f57_7 : S := .retV 2
def f57 : Fn := ⟨6, 2, [], [f57_1, f57_2, f57_6, f57_7]⟩
/-! Form.__call__: self 0, spot 1 -/
def f58_0 : S := .ret (.meth 57 [none] (.var 0) [(.meth 19 [none] (.attrV 43 0) [(.var 1)])])
def f58 : Fn := ⟨2, 2, [], [f58_0]⟩
/-! Form.__mul__: self 0, other 1, shifts 2, goes 3, spot 4, goal 5, name 6 -/
def f59_0 : S := .rse 9 []
def f59_1 : S := .ite (.eqO true (.attrV 43 0) (.attrV 43 1)) [f59_0] []
def f59_e0 : E := (.var 6)
def f59_e1 : E := (.prim .add [(.prim .idx [(.attrV 54 0), (.var 6)]), (.prim .idx [(.attrV 54 1), (.var 6)])])
def f59_2 : S := .asg (.one 2) (.dc false (.one 6) .seq [(.meth 22 [] (.attrV 43 0) [])] [] f59_e0 f59_e1 [6])
def f59_3 : S := .asg (.one 3) .newT
def f59_4 : S := .sub 3 (.var 4) (.meth 57 [none] (.var 1) [(.var 5)])
def f59_5 : S := .for_ (.tup [4, 5]) .items [(.attrV 55 0)] [f59_4] [4, 5]
def f59_6 : S := .sub 3 (.meth 59 [none] (.var 0) [(.var 4)]) (.var 5)
def f59_7 : S := .for_ (.tup [4, 5]) .items [(.attrV 55 1)] [f59_6] [4, 5]
def f59_8 : S := .ret (.make 102 [(.attrV 43 0), (.var 2), (.var 3)])
def f59 : Fn := ⟨7, 2, [], [f59_1, f59_2, f59_3, f59_5, f59_7, f59_8]⟩
/-! Form.inverse: self 0, goes 1, spot 2, goal 3, told 4, name 5, push 6 -/
def f60_0 : S := .asg (.one 1) .newT
def f60_1 : S := .sub 1 (.var 3) (.var 2)
def f60_2 : S := .for_ (.tup [2, 3]) .items [(.attrV 55 0)] [f60_1] [2, 3]
def f60_3 : S := .asg (.one 4) (.meth 18 [none] (.attrV 43 0) [(.var 2)])
def f60_4 : S := .sub 1 (.var 4) (.meth 59 [none] (.var 0) [(.var 4)])
def f60_5 : S := .for_ (.one 2) .seq [(.attr 16 (.attrV 43 0))] [f60_3, f60_4] [2, 4]
def f60_e0 : E := (.var 5)
def f60_e1 : E := (.prim .neg [(.var 6)])
def f60_6 : S := .ret (.make 102 [(.attrV 43 0), (.dc false (.tup [5, 6]) .items [(.attrV 54 0)] [] f60_e0 f60_e1 [5, 6]), (.var 1)])
def f60 : Fn := ⟨7, 1, [], [f60_0, f60_2, f60_5, f60_6]⟩
/-! Form.shifts: self 0 -/
def f61_0 : S := .ret (.prim .dictT [(.attrV 54 0)])
def f61 : Fn := ⟨1, 1, [], [f61_0]⟩
/-! Form.exceptions: self 0 -/
def f62_0 : S := .ret (.prim .dictT [(.attrV 55 0)])
def f62 : Fn := ⟨1, 1, [], [f62_0]⟩
/-! Form.moved: self 0, count 1, name 2, push 3, spot 4, goal 5 -/
def f64_e0 : E := (.var 4)
def f64_0 : S := .asg (.one 1) (.prim .len [(.lc (.tup [4, 5]) .items [(.attrV 55 0)] [(.eqO true (.var 4) (.var 5))] f64_e0 [4, 5])])
def f64_1 : S := .aug 1 .add (.prim .sub [(.prim .idx [(.attr 14 (.attrV 43 0)), (.var 2)]), (.prim .len [(.meth 61 [none] (.var 0) [(.var 2)])])])
def f64_2 : S := .ite (.eqO true (.var 3) (.cst (.int 0))) [f64_1] []
def f64_3 : S := .for_ (.tup [2, 3]) .items [(.attrV 54 0)] [f64_2] [2, 3]
def f64_4 : S := .retV 1
def f64 : Fn := ⟨6, 1, [], [f64_0, f64_3, f64_4]⟩
/-! told_goals: web 0, offsets 1, cells 2, shared 3, goes 4, name 5, held 6, place 7, origin 8, spot 9 -/
def f65_e0 : E := (.var 8)
def f65_e1 : E := (.var 9)
def f65_0 : S := .asg (.one 4) (.dc false (.tup [9, 8]) .items [(.var 3)] [] f65_e0 f65_e1 [9, 8])
def f65_1 : S := .sub 4 (.var 8) (.meth 18 [none] (.var 0) [(.tup [(.var 5), (.prim .mod [(.prim .add [(.var 7), (.idxV 1 (.var 5))]), (.prim .idx [(.attrV 14 0), (.var 5)])])])])
def f65_2 : S := .for_ (.tup [7, 8]) .items [(.var 6)] [f65_1] [7, 8]
def f65_3 : S := .for_ (.tup [5, 6]) .items [(.var 2)] [f65_2] [5, 6, 7, 8]
def f65_4 : S := .retV 4
def f65 : Fn := ⟨10, 4, [], [f65_0, f65_3, f65_4]⟩
/-! form_of: script 0, web 1, offsets 2, cells 3, shared 4, doors 5, name 6, k 7, length 8, held 9, i 10, place 11, ring 12 -/
def f66_0 : S := .asg (.one 1) (.attrV 43 0)
def f66_e0 : E := (.var 6)
def f66_e1 : E := (.cst (.int 0))
def f66_1 : S := .asg (.one 2) (.dc false (.one 6) .seq [(.meth 22 [] (.var 1) [])] [] f66_e0 f66_e1 [6])
def f66_e2 : E := (.var 6)
def f66_e3 : E := .newT
def f66_2 : S := .asg (.one 3) (.dc false (.one 6) .seq [(.meth 22 [] (.var 1) [])] [] f66_e2 f66_e3 [6])
def f66_e4 : E := (.meth 18 [none] (.var 1) [(.var 11)])
def f66_e5 : E := (.meth 18 [none] (.var 1) [(.var 11)])
def f66_3 : S := .asg (.one 4) (.dc false (.one 11) .seq [(.attrV 16 1)] [] f66_e4 f66_e5 [11])
def f66_e6 : E := (.var 6)
def f66_e7 : E := (.var 10)
def f66_e8 : E := (.lc (.tup [12, 10]) .seq [(.attrV 16 1)] [(.eqO false (.var 12) (.var 6))] f66_e7 [12, 10])
def f66_4 : S := .asg (.one 5) (.dc false (.one 6) .seq [(.meth 22 [] (.var 1) [])] [] f66_e6 f66_e8 [6])
def f66_5 : S := .asg (.one 8) (.prim .idx [(.attrV 14 1), (.var 6)])
def f66_6 : S := .asg (.one 9) (.idxV 3 (.var 6))
def f66_7 : S := .sub 9 (.prim .mod [(.prim .sub [(.var 10), (.idxV 2 (.var 6))]), (.var 8)]) (.idxV 4 (.meth 18 [none] (.var 1) [(.tup [(.var 6), (.var 10)])]))
def f66_8 : S := .for_ (.one 10) .seq [(.idxV 5 (.var 6))] [f66_7] [10]
def f66_9 : S := .sub 2 (.var 6) (.prim .mod [(.prim .add [(.idxV 2 (.var 6)), (.prim .mul [(.var 7), (.prim .idx [(.attrV 15 1), (.var 6)])])]), (.var 8)])
def f66_10 : S := .asg (.one 11) (.prim .mod [(.prim .sub [(.var 10), (.idxV 2 (.var 6))]), (.var 8)])
def f66_11 : S := .sub 4 (.meth 18 [none] (.var 1) [(.tup [(.var 6), (.var 10)])]) (.meth 60 [none, none] (.var 9) [(.var 11), (.tup [(.var 6), (.var 11)])])
def f66_12 : S := .for_ (.one 10) .seq [(.idxV 5 (.var 6))] [f66_10, f66_11] [10, 11]
def f66_13 : S := .for_ (.tup [6, 7]) .seq [(.attrV 44 0)] [f66_5, f66_6, f66_8, f66_9, f66_12] [6, 7, 8, 9, 10, 11]
def f66_14 : S := .ret (.make 102 [(.var 1), (.var 2), (.call 65 [none, none, none, none] [(.var 1), (.var 2), (.var 3), (.var 4)])])
def f66 : Fn := ⟨13, 1, [], [f66_0, f66_1, f66_2, f66_3, f66_4, f66_13, f66_14]⟩
/-! alike: one 0, other 1 -/
def f69_0 : S := .ret (.prim .isN [(.call 68 [none, none] [(.var 0), (.var 1)])])
def f69 : Fn := ⟨2, 2, [], [f69_0]⟩
/-! Runs.stand: self 0, place 1, name 2, i 3, divisor 4, size 5, back 6 -/
def f71_0 : S := .asg (.tup [2, 3]) (.var 1)
def f71_1 : S := .asg (.tup [4, 5, 6]) (.prim .idx [(.attrV 68 0), (.var 2)])
def f71_2 : S := .ret (.tup [(.tup [(.var 2), (.prim .mod [(.var 3), (.var 4)])]), (.prim .mod [(.prim .mul [(.prim .fdiv [(.var 3), (.var 4)]), (.var 6)]), (.var 5)])])
def f71 : Fn := ⟨7, 2, [], [f71_0, f71_1, f71_2]⟩
/-! Runs.ahead: self 0, spot 1, size 2, lane 3, at 4, mark 5, found 6 -/
def f72_0 : S := .ret (.tup [(.cst (.int 0)), (.var 1)])
def f72_1 : S := .ite (.prim .inn [(.var 1), (.attr 55 (.attrV 67 0))]) [f72_0] []
def f72_2 : S := .asg (.tup [3, 4]) (.meth 73 [none] (.var 0) [(.var 1)])
def f72_3 : S := .ret (.cst .non)
def f72_4 : S := .ite (.prim .nin [(.var 3), (.attrV 69 0)]) [f72_3] []
def f72_5 : S := .asg (.one 2) (.prim .idx [(.prim .idx [(.attrV 68 0), (.idxV 1 (.cst (.int 0)))]), (.cst (.int 1))])
def f72_e0 : E := (.tup [(.prim .mod [(.prim .sub [(.var 5), (.var 4)]), (.var 2)]), (.var 6)])
def f72_6 : S := .ret (.prim .min [(.lc (.tup [5, 6]) .items [(.prim .idx [(.attrV 69 0), (.var 3)])] [] f72_e0 [5, 6])])
def f72 : Fn := ⟨7, 2, [], [f72_1, f72_2, f72_4, f72_5, f72_6]⟩
/-! Runs.round_from: self 0, start 1, found 2, spot 3, times 4, following 5 -/
def f73_0 : S := .asg (.one 2) (.lst [])
def f73_1 : S := .asg (.one 3) (.var 1)
def f73_2 : S := .asg (.tup [4, 5]) (.bool false [(.meth 70 [none] (.var 0) [(.meth 57 [none] (.attrV 67 0) [(.var 3)])]), (.tup [(.cst (.int 0)), (.var 1)])])
def f73_3 : S := .app 2 (.tup [(.var 3), (.prim .add [(.var 4), (.cst (.int 1))])])
def f73_4 : S := .asg (.one 3) (.var 5)
def f73_5 : S := .whl (.borT (.bool false [(.eqO false (.prim .len [(.var 2)]) (.cst (.int 0))), (.eqO true (.var 3) (.var 1))])) [f73_2, f73_3, f73_4] [4, 5]
def f73_6 : S := .retV 2
def f73 : Fn := ⟨6, 2, [], [f73_0, f73_1, f73_5, f73_6]⟩
/-! Runs.lone_length: self 0, name 1 -/
def f74_0 : S := .ret (.prim .idx [(.prim .idx [(.attrV 68 0), (.var 1)]), (.cst (.int 1))])
def f74 : Fn := ⟨2, 2, [], [f74_0]⟩
/-! Runs.lone_count: self 0, name 1, lane 2 -/
def f75_e0 : E := (.var 2)
def f75_0 : S := .ret (.prim .sub [(.prim .idx [(.prim .idx [(.attrV 68 0), (.var 1)]), (.cst (.int 0))]), (.prim .len [(.lc (.one 2) .seq [(.attrV 69 0)] [(.eqO false (.idxV 2 (.cst (.int 0))) (.var 1))] f75_e0 [2])])])
def f75 : Fn := ⟨3, 2, [], [f75_0]⟩
/-! Runs.strange_lengths: self 0, lengths 1, met 2, start 3, steps 4, spot 5, times 6 -/
def f76_0 : S := .asg (.one 1) (.lst [])
def f76_1 : S := .asg (.one 2) .newT
def f76_2 : S := .asg (.one 4) (.meth 71 [none] (.var 0) [(.var 3)])
def f76_e0 : E := (.var 6)
def f76_3 : S := .app 1 (.prim .sum [(.lc (.tup [5, 6]) .seq [(.var 4)] [] f76_e0 [5, 6])])
def f76_4 : S := .sub 2 (.var 5) (.cst (.bl true))
def f76_5 : S := .for_ (.tup [5, 6]) .seq [(.var 4)] [f76_4] [5]
def f76_6 : S := .ite (.borT (.prim .nin [(.var 3), (.var 2)])) [f76_2, f76_3, f76_5] []
def f76_7 : S := .for_ (.one 3) .seq [(.attr 55 (.attrV 67 0))] [f76_6] [3, 4, 5]
def f76_8 : S := .retV 1
def f76 : Fn := ⟨7, 1, [], [f76_0, f76_1, f76_7, f76_8]⟩
/-! after: form 0, spot 1, times 2, told 3, runs 4, first 5, steps 6, left 7, station 8, count 9 -/
def f77_0 : S := .asg (.one 3) (.meth 19 [none] (.attrV 43 0) [(.var 1)])
def f77_1 : S := .ret (.call 77 [none, none, none] [(.attrV 64 0), (.var 3), (.prim .neg [(.var 2)])])
def f77_2 : S := .ite (.prim .lt [(.var 2), (.cst (.int 0))]) [f77_1] []
def f77_3 : S := .asg (.one 4) (.make 103 [(.var 0)])
def f77_4 : S := .asg (.one 5) (.meth 70 [none] (.var 4) [(.var 3)])
def f77_5 : S := .ret (.meth 58 [none, none] (.var 0) [(.var 3), (.var 2)])
def f77_6 : S := .ite (.bool false [(.prim .isN [(.var 5)]), (.prim .lt [(.var 2), (.idxV 5 (.cst (.int 0)))])]) [f77_5] []
def f77_7 : S := .asg (.one 6) (.meth 71 [none] (.var 4) [(.idxV 5 (.cst (.int 1)))])
def f77_e0 : E := (.var 9)
def f77_8 : S := .asg (.one 7) (.prim .mod [(.prim .sub [(.var 2), (.idxV 5 (.cst (.int 0)))]), (.prim .sum [(.lc (.tup [8, 9]) .seq [(.var 6)] [] f77_e0 [8, 9])])])
def f77_9 : S := .retV 8
def f77_10 : S := .ite (.eqO false (.var 7) (.cst (.int 0))) [f77_9] []
def f77_11 : S := .ret (.meth 58 [none, none] (.var 0) [(.meth 57 [none] (.var 0) [(.var 8)]), (.prim .sub [(.var 7), (.cst (.int 1))])])
def f77_12 : S := .ite (.prim .lt [(.var 7), (.var 9)]) [f77_11] []
def f77_13 : S := .aug 7 .sub (.var 9)
def f77_14 : S := .for_ (.tup [8, 9]) .seq [(.var 6)] [f77_10, f77_12, f77_13] [8, 9]
def f77_15 : S := .ret (.idxV 5 (.cst (.int 1)))
def f77 : Fn := ⟨10, 3, [], [f77_0, f77_2, f77_3, f77_4, f77_6, f77_7, f77_8, f77_14, f77_15]⟩
/-! back: form 0, spot 1, told 2, runs 3, first 4, station 5, count 6 -/
def f78_0 : S := .asg (.one 2) (.meth 19 [none] (.attrV 43 0) [(.var 1)])
def f78_1 : S := .asg (.one 3) (.make 103 [(.var 0)])
def f78_2 : S := .asg (.one 4) (.meth 70 [none] (.var 3) [(.var 2)])
def f78_3 : S := .ret (.meth 74 [none] (.var 3) [(.idxV 2 (.cst (.int 0)))])
def f78_4 : S := .ite (.prim .isN [(.var 4)]) [f78_3] []
def f78_e0 : E := (.var 6)
def f78_5 : S := .ret (.prim .sum [(.lc (.tup [5, 6]) .seq [(.meth 71 [none] (.var 3) [(.idxV 4 (.cst (.int 1)))])] [] f78_e0 [5, 6])])
def f78 : Fn := ⟨7, 2, [], [f78_0, f78_1, f78_2, f78_4, f78_5]⟩
/-! rounds: form 0, runs 1, counts 2, length 3, name 4, lone 5 -/
def f79_0 : S := .asg (.one 1) (.make 103 [(.var 0)])
def f79_1 : S := .asg (.one 2) .newT
def f79_2 : S := .sub 2 (.var 3) (.prim .add [(.meth 76 [none, none] (.var 2) [(.var 3), (.cst (.int 0))]), (.cst (.int 1))])
def f79_3 : S := .for_ (.one 3) .seq [(.meth 72 [] (.var 1) [])] [f79_2] [3]
def f79_4 : S := .asg (.one 5) (.meth 75 [none] (.var 1) [(.var 4)])
def f79_5 : S := .asg (.one 3) (.meth 74 [none] (.var 1) [(.var 4)])
def f79_6 : S := .sub 2 (.var 3) (.prim .add [(.meth 76 [none, none] (.var 2) [(.var 3), (.cst (.int 0))]), (.var 5)])
def f79_7 : S := .ite (.prim .gt [(.var 5), (.cst (.int 0))]) [f79_5, f79_6] []
def f79_8 : S := .for_ (.one 4) .seq [(.meth 22 [] (.attrV 43 0) [])] [f79_4, f79_7] [3, 4, 5]
def f79_9 : S := .ret (.prim .sorted [(.prim .list [(.meth 48 [] (.var 2) [])])])
def f79 : Fn := ⟨6, 1, [], [f79_0, f79_1, f79_3, f79_8, f79_9]⟩
/-! period: form 0, result 1, length 2, count 3 -/
def f80_0 : S := .asg (.one 1) (.cst (.int 1))
def f80_1 : S := .asg (.one 1) (.prim .mul [(.prim .fdiv [(.var 1), (.call 33 [none, none] [(.var 1), (.var 2)])]), (.var 2)])
def f80_2 : S := .for_ (.tup [2, 3]) .seq [(.call 79 [none] [(.var 0)])] [f80_1] [2, 3]
def f80_3 : S := .retV 1
def f80 : Fn := ⟨4, 1, [], [f80_0, f80_2, f80_3]⟩
/-! Layout.__init__: self 0, web 1, track 2, name 3, length 4, step 5, number 6, lot 7 -/
def f81_0 : S := .fld 0 43 (.var 1)
def f81_e0 : E := (.var 3)
def f81_e1 : E := (.call 33 [none, none] [(.var 5), (.var 4)])
def f81_1 : S := .fld 0 77 (.dc false (.tup [3, 4, 5]) .seq [(.attrV 12 1)] [] f81_e0 f81_e1 [3, 4, 5])
def f81_e2 : E := (.var 3)
def f81_e3 : E := (.prim .fdiv [(.var 4), (.prim .idx [(.attrV 77 0), (.var 3)])])
def f81_2 : S := .fld 0 78 (.dc false (.tup [3, 4, 5]) .seq [(.attrV 12 1)] [] f81_e2 f81_e3 [3, 4, 5])
def f81_3 : S := .fld 0 79 (.call 91 [none, none, none] [(.attrV 77 0), (.attrV 78 0), (.attrV 13 1)])
def f81_4 : S := .fld 0 80 (.call 92 [none] [(.attrV 79 0)])
def f81_e4 : E := (.var 2)
def f81_e5 : E := (.var 6)
def f81_5 : S := .fld 0 81 (.dc false (.tup [6, 7]) .enum [(.attrV 80 0)] [] f81_e4 f81_e5 [6, 7])
def f81 : Fn := ⟨8, 2, [], [f81_0, f81_1, f81_2, f81_3, f81_4, f81_5]⟩
/-! Layout.is_still: self 0, name 1 -/
def f82_0 : S := .ret (.eqO false (.prim .idx [(.attrV 78 0), (.var 1)]) (.cst (.int 1)))
def f82 : Fn := ⟨2, 2, [], [f82_0]⟩
/-! Layout.held: self 0, name 1, track 2 -/
def f83_e0 : E := (.var 2)
def f83_0 : S := .ret (.lc (.one 2) .seq [(.attrV 81 0)] [(.eqO false (.idxV 2 (.cst (.int 0))) (.var 1))] f83_e0 [2])
def f83 : Fn := ⟨3, 2, [], [f83_0]⟩
/-! Layout.pure_count: self 0, name 1 -/
def f84_0 : S := .ret (.ifx (.meth 82 [none] (.var 0) [(.var 1)]) (.cst (.int 0)) (.prim .sub [(.prim .idx [(.attrV 77 0), (.var 1)]), (.prim .len [(.meth 89 [none] (.var 0) [(.var 1)])])]))
def f84 : Fn := ⟨2, 2, [], [f84_0]⟩
/-! Layout.is_pure: self 0, track 1 -/
def f85_0 : S := .ret (.bool true [(.not (.meth 82 [none] (.var 0) [(.idxV 1 (.cst (.int 0)))])), (.prim .nin [(.var 1), (.attrV 81 0)])])
def f85 : Fn := ⟨2, 2, [], [f85_0]⟩
/-! Layout.moving: self 0, spot 1, name 2, i 3 -/
def f86_e0 : E := (.tup [(.var 2), (.prim .mod [(.var 3), (.prim .idx [(.attrV 77 0), (.var 2)])])])
def f86_0 : S := .ret (.lc (.tup [2, 3]) .seq [(.meth 31 [none] (.attrV 43 0) [(.var 1)])] [(.not (.meth 82 [none] (.var 0) [(.var 2)]))] f86_e0 [2, 3])
def f86 : Fn := ⟨4, 2, [], [f86_0]⟩
/-! Layout.lot_size: self 0, number 1, places 2, name 3, r 4, one 5, other 6 -/
def f88_e0 : E := (.prim .idx [(.attrV 78 0), (.var 3)])
def f88_0 : S := .asg (.one 2) (.prim .sum [(.lc (.tup [3, 4]) .seq [(.prim .idx [(.attrV 80 0), (.var 1)])] [] f88_e0 [3, 4])])
def f88_e1 : E := (.var 5)
def f88_1 : S := .ret (.prim .sub [(.var 2), (.prim .len [(.lc (.tup [5, 6]) .seq [(.attrV 79 0)] [(.prim .inn [(.var 5), (.prim .idx [(.attrV 80 0), (.var 1)])])] f88_e1 [5, 6])])])
def f88 : Fn := ⟨7, 2, [], [f88_0, f88_1]⟩
/-! Layout.row: self 0, name 1, odd 2, lot 3, track 4 -/
def f89_0 : S := .asg (.one 2) (.prim .mod [(.prim .sub [(.prim .idx [(.attrV 78 0), (.var 1)]), (.cst (.int 1))]), (.cst (.int 2))])
def f89_e0 : E := (.var 4)
def f89_e1 : E := (.prim .mod [(.prim .mul [(.prim .len [(.lc (.one 4) .seq [(.var 3)] [(.eqO false (.idxV 4 (.cst (.int 0))) (.var 1))] f89_e0 [4])]), (.var 2)]), (.cst (.int 2))])
def f89_1 : S := .ret (.prim .tuple [(.lc (.one 3) .seq [(.attrV 80 0)] [] f89_e1 [3])])
def f89 : Fn := ⟨5, 2, [], [f89_0, f89_1]⟩
/-! Layout.free_rings: self 0, name 1 -/
def f90_e0 : E := (.var 1)
def f90_0 : S := .ret (.lc (.one 1) .seq [(.meth 22 [] (.attrV 43 0) [])] [(.bool true [(.not (.meth 82 [none] (.var 0) [(.var 1)])), (.eqO false (.meth 83 [none] (.var 0) [(.var 1)]) (.cst (.int 0)))])] f90_e0 [1])
def f90 : Fn := ⟨2, 1, [], [f90_0]⟩
/-! joined_pairs: counts 0, sizes 1, joints 2, name 3, i 4, other 5, j 6 -/
def f91_e0 : E := (.tup [(.tup [(.var 3), (.prim .mod [(.var 4), (.idxV 0 (.var 3))])]), (.tup [(.var 5), (.prim .mod [(.var 6), (.idxV 0 (.var 5))])])])
def f91_0 : S := .ret (.lc (.tup [3, 4, 5, 6]) .seq [(.var 2)] [(.bool true [(.prim .gt [(.idxV 1 (.var 3)), (.cst (.int 1))]), (.prim .gt [(.idxV 1 (.var 5)), (.cst (.int 1))])])] f91_e0 [3, 4, 5, 6])
def f91 : Fn := ⟨7, 3, [], [f91_0]⟩
/-! track_count: web 0, name 1 -/
def f93_0 : S := .ex (.meth 17 [none] (.var 0) [(.var 1)])
def f93_1 : S := .ret (.prim .idx [(.attr 77 (.make 104 [(.var 0)])), (.var 1)])
def f93 : Fn := ⟨2, 2, [], [f93_0, f93_1]⟩
/-! track_length: web 0, name 1 -/
def f94_0 : S := .ex (.meth 17 [none] (.var 0) [(.var 1)])
def f94_1 : S := .ret (.prim .idx [(.attr 78 (.make 104 [(.var 0)])), (.var 1)])
def f94 : Fn := ⟨2, 2, [], [f94_0, f94_1]⟩
/-! is_still: web 0, name 1 -/
def f95_0 : S := .ex (.meth 17 [none] (.var 0) [(.var 1)])
def f95_1 : S := .ret (.meth 82 [none] (.make 104 [(.var 0)]) [(.var 1)])
def f95 : Fn := ⟨2, 2, [], [f95_0, f95_1]⟩
/-! pure_count: web 0, name 1 -/
def f96_0 : S := .ex (.meth 17 [none] (.var 0) [(.var 1)])
def f96_1 : S := .ret (.meth 83 [none] (.make 104 [(.var 0)]) [(.var 1)])
def f96 : Fn := ⟨2, 2, [], [f96_0, f96_1]⟩
/-! track_of: web 0, name 1, i 2, count 3 -/
def f97_0 : S := .asg (.one 3) (.call 93 [none, none] [(.var 0), (.var 1)])
def f97_1 : S := .rse 5 [(.tup [(.var 1), (.var 2)])]
def f97_2 : S := .ite (.not (.chain .le .lt (.cst (.int 0)) (.var 2) (.meth 26 [none] (.var 0) [(.var 1)]))) [f97_1] []
def f97_3 : S := .ret (.tup [(.var 1), (.prim .mod [(.var 2), (.var 3)])])
def f97 : Fn := ⟨4, 3, [], [f97_0, f97_2, f97_3]⟩
/-! is_pure: web 0, name 1, r 2, count 3 -/
def f98_0 : S := .asg (.one 3) (.call 93 [none, none] [(.var 0), (.var 1)])
def f98_1 : S := .rse 7 [(.var 2)]
def f98_2 : S := .ite (.not (.chain .le .lt (.cst (.int 0)) (.var 2) (.var 3))) [f98_1] []
def f98_3 : S := .ret (.meth 84 [none] (.make 104 [(.var 0)]) [(.tup [(.var 1), (.var 2)])])
def f98 : Fn := ⟨4, 3, [], [f98_0, f98_2, f98_3]⟩
/-! lots: web 0, lot 1 -/
def f99_e0 : E := (.prim .list [(.var 1)])
def f99_0 : S := .ret (.lc (.one 1) .seq [(.attr 80 (.make 104 [(.var 0)]))] [] f99_e0 [1])
def f99 : Fn := ⟨2, 1, [], [f99_0]⟩
/-! lot_of: web 0, spot 1, found 2 -/
def f100_0 : S := .asg (.one 2) (.meth 85 [none] (.make 104 [(.var 0)]) [(.meth 19 [none] (.var 0) [(.var 1)])])
def f100_1 : S := .ret (.ifx (.bool true [(.prim .ntN [(.var 2)]), (.eqO false (.idxV 2 (.cst (.int 0))) (.cst (.str [108, 111, 116])))]) (.idxV 2 (.cst (.int 1))) (.cst .non))
def f100 : Fn := ⟨3, 2, [], [f100_0, f100_1]⟩
/-! lot_size: web 0, number 1, layout 2 -/
def f101_0 : S := .asg (.one 2) (.make 104 [(.var 0)])
def f101_1 : S := .rse 7 [(.var 1)]
def f101_2 : S := .ite (.not (.chain .le .lt (.cst (.int 0)) (.var 1) (.prim .len [(.attrV 80 2)]))) [f101_1] []
def f101_3 : S := .ret (.meth 86 [none] (.var 2) [(.var 1)])
def f101 : Fn := ⟨3, 2, [], [f101_0, f101_2, f101_3]⟩
/-! sign_row: web 0, name 1 -/
def f102_0 : S := .ex (.meth 17 [none] (.var 0) [(.var 1)])
def f102_1 : S := .ret (.meth 90 [none] (.make 104 [(.var 0)]) [(.var 1)])
def f102 : Fn := ⟨2, 2, [], [f102_0, f102_1]⟩
/-! free_rings: web 0 -/
def f103_0 : S := .ret (.meth 91 [] (.make 104 [(.var 0)]) [])
def f103 : Fn := ⟨1, 1, [], [f103_0]⟩
/-! free_basis: layout 0, name 1 -/
def f104_e0 : E := (.meth 90 [none] (.var 0) [(.var 1)])
def f104_0 : S := .ret (.call 36 [none] [(.lc (.one 1) .seq [(.meth 91 [] (.var 0) [])] [] f104_e0 [1])])
def f104 : Fn := ⟨2, 1, [], [f104_0]⟩
/-! checks_of: basis 0, size 1, leads 2, result 3, free 4, row 5, lead 6, known 7, k 8 -/
def f105_e0 : E := (.meth 0 [none] (.var 5) [(.cst (.int 1))])
def f105_0 : S := .asg (.one 2) (.lc (.one 5) .seq [(.var 0)] [] f105_e0 [5])
def f105_1 : S := .asg (.one 3) (.lst [])
def f105_e1 : E := (.cst (.int 0))
def f105_2 : S := .asg (.one 5) (.lc (.one 8) .rng1 [(.var 1)] [] f105_e1 [8])
def f105_3 : S := .sub 5 (.var 4) (.cst (.int 1))
def f105_4 : S := .sub 5 (.var 6) (.idxV 7 (.var 4))
def f105_5 : S := .for_ (.tup [6, 7]) .zip [(.var 2), (.var 0)] [f105_4] [6, 7]
def f105_6 : S := .app 3 (.prim .tuple [(.var 5)])
def f105_7 : S := .ite (.prim .nin [(.var 4), (.var 2)]) [f105_2, f105_3, f105_5, f105_6] []
def f105_8 : S := .for_ (.one 4) .rng1 [(.var 1)] [f105_7] [4, 5, 6, 7]
def f105_9 : S := .ret (.call 36 [none] [(.var 3)])
def f105 : Fn := ⟨9, 2, [], [f105_0, f105_1, f105_8, f105_9]⟩
/-! checks: web 0, layout 1 -/
def f106_0 : S := .asg (.one 1) (.make 104 [(.var 0)])
def f106_1 : S := .ret (.call 105 [none, none] [(.call 104 [none] [(.var 1)]), (.prim .len [(.attrV 80 1)])])
def f106 : Fn := ⟨2, 1, [], [f106_0, f106_1]⟩
/-! halved_factorial: size 0, result 1, factor 2 -/
def f107_0 : S := .asg (.one 1) (.cst (.int 1))
def f107_1 : S := .aug 1 .mul (.var 2)
def f107_2 : S := .for_ (.one 2) .rng2 [(.cst (.int 3)), (.prim .add [(.var 0), (.cst (.int 1))])] [f107_1] [2]
def f107_3 : S := .retV 1
def f107 : Fn := ⟨3, 1, [], [f107_0, f107_2, f107_3]⟩
/-! permutations: web 0, layout 1, sizes 2, result 3, size 4, name 5, row 6, number 7 -/
def f108_0 : S := .asg (.one 1) (.make 104 [(.var 0)])
def f108_e0 : E := (.meth 86 [none] (.var 1) [(.var 7)])
def f108_1 : S := .asg (.one 2) (.lc (.one 7) .rng1 [(.prim .len [(.attrV 80 1)])] [] f108_e0 [7])
def f108_2 : S := .rse 14 [(.prim .sum [(.var 2)])]
def f108_3 : S := .ite (.prim .gt [(.prim .sum [(.var 2)]), (.gl 0 (.int 1000))]) [f108_2] []
def f108_4 : S := .asg (.one 3) (.cst (.int 1))
def f108_5 : S := .aug 3 .mul (.call 107 [none] [(.var 4)])
def f108_6 : S := .for_ (.one 4) .seq [(.var 2)] [f108_5] [4]
def f108_7 : S := .aug 3 .mul (.prim .idx [(.attrV 78 1), (.var 5)])
def f108_8 : S := .ite (.prim .gt [(.meth 83 [none] (.var 1) [(.var 5)]), (.cst (.int 0))]) [f108_7] []
def f108_9 : S := .for_ (.one 5) .seq [(.meth 22 [] (.var 0) [])] [f108_8] [5]
def f108_10 : S := .aug 3 .mul (.cst (.int 2))
def f108_11 : S := .for_ (.one 6) .seq [(.call 104 [none] [(.var 1)])] [f108_10] [6]
def f108_12 : S := .retV 3
def f108 : Fn := ⟨8, 1, [], [f108_0, f108_1, f108_3, f108_4, f108_6, f108_9, f108_11, f108_12]⟩
/-! cycles_in: goes 0, met 1, result 2, start 3, cycle 4, spot 5 -/
def f109_0 : S := .asg (.one 1) .newT
def f109_1 : S := .asg (.one 2) (.lst [])
def f109_2 : S := .asg (.one 4) (.lst [])
def f109_3 : S := .asg (.one 5) (.var 3)
def f109_4 : S := .sub 1 (.var 5) (.cst (.bl true))
def f109_5 : S := .app 4 (.var 5)
def f109_6 : S := .asg (.one 5) (.idxV 0 (.var 5))
def f109_7 : S := .whl (.borT (.prim .nin [(.var 5), (.var 1)])) [f109_4, f109_5, f109_6] []
def f109_8 : S := .app 2 (.prim .tuple [(.var 4)])
def f109_9 : S := .ite (.borT (.var 4)) [f109_8] []
def f109_10 : S := .for_ (.one 3) .seq [(.prim .sorted [(.prim .list [(.var 0)])])] [f109_2, f109_3, f109_7, f109_9] [3, 4, 5]
def f109_11 : S := .retV 2
def f109 : Fn := ⟨6, 1, [], [f109_0, f109_1, f109_10, f109_11]⟩
/-! Rearrangement.__init__: self 0, web 1, goes 2, known 3, starts 4, spot 5, goal 6 -/
def f110_e0 : E := (.tup [(.meth 19 [none] (.var 1) [(.var 5)]), (.meth 19 [none] (.var 1) [(.var 6)])])
def f110_0 : S := .asg (.one 3) (.lc (.tup [5, 6]) .items [(.var 2)] [] f110_e0 [5, 6])
def f110_e1 : E := (.var 5)
def f110_1 : S := .asg (.one 4) (.prim .sorted [(.lc (.tup [5, 6]) .seq [(.var 3)] [] f110_e1 [5, 6])])
def f110_e2 : E := (.var 6)
def f110_e3 : E := (.var 5)
def f110_e4 : E := (.cst (.bl true))
def f110_2 : S := .rse 11 []
def f110_3 : S := .ite (.bool false [(.eqO true (.var 4) (.prim .sorted [(.lc (.tup [5, 6]) .seq [(.var 3)] [] f110_e2 [5, 6])])), (.prim .lt [(.prim .len [(.dc false (.one 5) .seq [(.var 4)] [] f110_e3 f110_e4 [5])]), (.prim .len [(.var 4)])])]) [f110_2] []
def f110_4 : S := .fld 0 43 (.var 1)
def f110_e5 : E := (.var 5)
def f110_e6 : E := (.var 6)
def f110_5 : S := .fld 0 92 (.dc false (.tup [5, 6]) .seq [(.var 3)] [(.eqO true (.var 5) (.var 6))] f110_e5 f110_e6 [5, 6])
def f110 : Fn := ⟨7, 3, [], [f110_0, f110_1, f110_3, f110_4, f110_5]⟩
/-! Rearrangement.__eq__: self 0, other 1 -/
def f111_0 : S := .ret (.bool true [(.isi 105 (.var 1)), (.eqO false (.attrV 43 0) (.attrV 43 1)), (.eqO false (.attrV 92 0) (.attrV 92 1))])
def f111 : Fn := ⟨2, 2, [], [f111_0]⟩
/-! Rearrangement.__len__: self 0 -/
def f112_0 : S := .ret (.prim .len [(.attrV 92 0)])
def f112 : Fn := ⟨1, 1, [], [f112_0]⟩
/-! Rearrangement.__call__: self 0, spot 1, place 2 -/
def f113_0 : S := .asg (.one 2) (.meth 19 [none] (.attrV 43 0) [(.var 1)])
def f113_1 : S := .ret (.meth 76 [none, none] (.attrV 92 0) [(.var 2), (.var 2)])
def f113 : Fn := ⟨3, 2, [], [f113_0, f113_1]⟩
/-! Rearrangement.goes: self 0 -/
def f115_0 : S := .ret (.prim .dictT [(.attrV 92 0)])
def f115 : Fn := ⟨1, 1, [], [f115_0]⟩
/-! Rearrangement.inverse: self 0, spot 1, goal 2 -/
def f117_e0 : E := (.var 2)
def f117_e1 : E := (.var 1)
def f117_0 : S := .ret (.make 105 [(.attrV 43 0), (.dc false (.tup [1, 2]) .items [(.attrV 92 0)] [] f117_e0 f117_e1 [1, 2])])
def f117 : Fn := ⟨3, 1, [], [f117_0]⟩
/-! Rearrangement.cycles: self 0 -/
def f118_0 : S := .ret (.call 109 [none] [(.attrV 92 0)])
def f118 : Fn := ⟨1, 1, [], [f118_0]⟩
/-! Rearrangement.is_even: self 0, cycle 1 -/
def f119_e0 : E := (.prim .sub [(.prim .len [(.var 1)]), (.cst (.int 1))])
def f119_0 : S := .ret (.eqO false (.prim .mod [(.prim .sum [(.lc (.one 1) .seq [(.call 109 [none] [(.attrV 92 0)])] [] f119_e0 [1])]), (.cst (.int 2))]) (.cst (.int 0)))
def f119 : Fn := ⟨2, 1, [], [f119_0]⟩
/-! place_on: web 0, spot 1, name 2, ring 3, i 4 -/
def f120_e0 : E := (.var 4)
def f120_0 : S := .ret (.prim .idx [(.lc (.tup [3, 4]) .seq [(.meth 31 [none] (.var 0) [(.var 1)])] [(.eqO false (.var 3) (.var 2))] f120_e0 [3, 4]), (.cst (.int 0))])
def f120 : Fn := ⟨5, 3, [], [f120_0]⟩
/-! steps_between: layout 0, name 1, spot 2, goal 3, web 4 -/
def f121_0 : S := .ret (.cst .non)
def f121_1 : S := .ite (.eqO true (.meth 85 [none] (.var 0) [(.var 3)]) (.meth 85 [none] (.var 0) [(.var 2)])) [f121_0] []
def f121_2 : S := .asg (.one 4) (.attrV 43 0)
def f121_3 : S := .ret (.call 34 [none, none, none] [(.meth 27 [none] (.var 4) [(.var 1)]), (.prim .sub [(.call 120 [none, none, none] [(.var 4), (.var 3), (.var 1)]), (.call 120 [none, none, none] [(.var 4), (.var 2), (.var 1)])]), (.meth 26 [none] (.var 4) [(.var 1)])])
def f121 : Fn := ⟨5, 4, [], [f121_1, f121_2, f121_3]⟩
/-! pure_steps: layout 0, goes 1, moved 2, result 3, spot 4, goal 5, mark 6, track 7, steps 8, whole 9, step 10 -/
def f122_0 : S := .asg (.one 2) .newT
def f122_1 : S := .asg (.one 6) (.meth 85 [none] (.var 0) [(.var 4)])
def f122_2 : S := .sub 2 (.prim .sl10 [(.var 6), (.cst (.int 1))]) (.lstS (.meth 76 [none, none] (.var 2) [(.prim .sl10 [(.var 6), (.cst (.int 1))]), (.lst [])]) [(.call 121 [none, none, none, none] [(.var 0), (.idxV 6 (.cst (.int 1))), (.var 4), (.var 5)])])
def f122_3 : S := .ite (.bool true [(.prim .ntN [(.var 6)]), (.eqO false (.idxV 6 (.cst (.int 0))) (.cst (.str [116, 114, 97, 99, 107])))]) [f122_2] []
def f122_4 : S := .for_ (.tup [4, 5]) .items [(.var 1)] [f122_1, f122_3] [4, 5, 6]
def f122_5 : S := .asg (.one 3) .newT
def f122_e0 : E := (.idxV 8 (.cst (.int 0)))
def f122_6 : S := .asg (.one 9) (.bool true [(.eqO false (.prim .len [(.var 8)]) (.prim .idx [(.attrV 78 0), (.idxV 7 (.cst (.int 0)))])), (.eqO false (.var 8) (.lc (.one 10) .seq [(.var 8)] [] f122_e0 [10]))])
def f122_7 : S := .sub 3 (.var 7) (.ifx (.var 9) (.idxV 8 (.cst (.int 0))) (.cst .non))
def f122_8 : S := .for_ (.tup [7, 8]) .items [(.var 2)] [f122_6, f122_7] [7, 8, 9]
def f122_9 : S := .retV 3
def f122 : Fn := ⟨11, 2, [], [f122_0, f122_4, f122_5, f122_8, f122_9]⟩
/-! idle_track: layout 0, name 1, told 2, held 3, r 4 -/
def f123_0 : S := .asg (.one 3) (.meth 89 [none] (.var 0) [(.var 1)])
def f123_1 : S := .retV 4
def f123_2 : S := .ite (.bool true [(.prim .nin [(.tup [(.var 1), (.var 4)]), (.var 2)]), (.prim .nin [(.tup [(.var 1), (.var 4)]), (.var 3)])]) [f123_1] []
def f123_3 : S := .for_ (.one 4) .rng1 [(.prim .min [(.prim .idx [(.attrV 77 0), (.var 1)]), (.prim .add [(.prim .add [(.prim .len [(.var 2)]), (.prim .len [(.var 3)])]), (.cst (.int 1))])])] [f123_2] [4]
def f123_4 : S := .ret (.cst .non)
def f123 : Fn := ⟨5, 3, [], [f123_0, f123_3, f123_4]⟩
/-! ring_steps: layout 0, name 1, told 2, tracks 3, first 4, track 5, idle 6 -/
def f124_e0 : E := (.var 5)
def f124_0 : S := .asg (.one 3) (.prim .sorted [(.lc (.one 5) .seq [(.var 2)] [(.eqO false (.idxV 5 (.cst (.int 0))) (.var 1))] f124_e0 [5])])
def f124_1 : S := .ret (.tup [(.cst (.int 0)), (.cst .non), (.cst .non)])
def f124_2 : S := .ite (.not (.var 3)) [f124_1] []
def f124_3 : S := .asg (.one 4) (.idxV 2 (.idxV 3 (.cst (.int 0))))
def f124_4 : S := .ret (.tup [(.cst .non), (.prim .idx [(.idxV 3 (.cst (.int 0))), (.cst (.int 1))]), (.idxV 5 (.cst (.int 1)))])
def f124_5 : S := .ite (.eqO true (.idxV 2 (.var 5)) (.var 4)) [f124_4] []
def f124_6 : S := .for_ (.one 5) .seq [(.prim .sl10 [(.var 3), (.cst (.int 1))])] [f124_5] [5]
def f124_7 : S := .asg (.one 6) (.call 123 [none, none, none] [(.var 0), (.var 1), (.var 2)])
def f124_8 : S := .ret (.ifx (.prim .isN [(.var 6)]) (.tup [(.var 4), (.cst .non), (.cst .non)]) (.tup [(.cst .non), (.prim .idx [(.idxV 3 (.cst (.int 0))), (.cst (.int 1))]), (.var 6)]))
def f124 : Fn := ⟨7, 3, [], [f124_0, f124_2, f124_3, f124_6, f124_7, f124_8]⟩
/-! told_steps: layout 0, goes 1, told 2, names 3, name 4 -/
def f126_0 : S := .asg (.one 2) (.call 122 [none, none] [(.var 0), (.var 1)])
def f126_e0 : E := (.var 4)
def f126_1 : S := .asg (.one 3) (.lc (.one 4) .seq [(.meth 22 [] (.attrV 43 0) [])] [(.prim .gt [(.meth 83 [none] (.var 0) [(.var 4)]), (.cst (.int 0))])] f126_e0 [4])
def f126_e1 : E := (.var 4)
def f126_e2 : E := (.bool false [(.prim .idx [(.call 124 [none, none, none] [(.var 0), (.var 4), (.var 2)]), (.cst (.int 0))]), (.cst (.int 0))])
def f126_2 : S := .ret (.dc false (.one 4) .seq [(.var 3)] [] f126_e1 f126_e2 [4])
def f126 : Fn := ⟨5, 2, [], [f126_0, f126_1, f126_2]⟩
/-! steps_told: rearrangement 0, layout 1, found 2 -/
def f127_0 : S := .asg (.one 1) (.make 104 [(.attrV 43 0)])
def f127_1 : S := .asg (.one 2) (.call 125 [none, none] [(.var 1), (.meth 94 [] (.var 0) [])])
def f127_2 : S := .rse 13 [(.var 2)]
def f127_3 : S := .ite (.prim .ntN [(.var 2)]) [f127_2] []
def f127_4 : S := .ret (.call 126 [none, none] [(.var 1), (.meth 94 [] (.var 0) [])])
def f127 : Fn := ⟨3, 1, [], [f127_0, f127_1, f127_3, f127_4]⟩
/-! left_signs: layout 0, goes 1, signs 2, cycle 3, row 4, mark 5, name 6, steps 7, lot 8 -/
def f128_e0 : E := (.cst (.int 0))
def f128_0 : S := .asg (.one 2) (.lc (.one 8) .seq [(.attrV 80 0)] [] f128_e0 [8])
def f128_1 : S := .asg (.one 5) (.meth 85 [none] (.var 0) [(.idxV 3 (.cst (.int 0)))])
def f128_2 : S := .sub 2 (.idxV 5 (.cst (.int 1))) (.prim .mod [(.prim .sub [(.prim .add [(.idxV 2 (.idxV 5 (.cst (.int 1)))), (.prim .len [(.var 3)])]), (.cst (.int 1))]), (.cst (.int 2))])
def f128_3 : S := .ite (.eqO false (.idxV 5 (.cst (.int 0))) (.cst (.str [108, 111, 116]))) [f128_2] []
def f128_4 : S := .for_ (.one 3) .seq [(.call 109 [none] [(.var 1)])] [f128_1, f128_3] [3, 5]
def f128_5 : S := .asg (.one 4) (.prim .tuple [(.var 2)])
def f128_6 : S := .asg (.one 4) (.call 35 [none, none] [(.var 4), (.meth 90 [none] (.var 0) [(.var 6)])])
def f128_7 : S := .ite (.eqO false (.prim .mod [(.var 7), (.cst (.int 2))]) (.cst (.int 1))) [f128_6] []
def f128_8 : S := .for_ (.tup [6, 7]) .items [(.call 126 [none, none] [(.var 0), (.var 1)])] [f128_7] [6, 7]
def f128_9 : S := .retV 4
def f128 : Fn := ⟨9, 2, [], [f128_0, f128_4, f128_5, f128_8, f128_9]⟩
/-! bar: rearrangement 0, layout 1, goes 2, found 3, row 4, check 5 -/
def f129_0 : S := .asg (.one 1) (.make 104 [(.attrV 43 0)])
def f129_1 : S := .asg (.one 2) (.meth 94 [] (.var 0) [])
def f129_2 : S := .asg (.one 3) (.call 125 [none, none] [(.var 1), (.var 2)])
def f129_3 : S := .retV 3
def f129_4 : S := .ite (.prim .ntN [(.var 3)]) [f129_3] []
def f129_5 : S := .asg (.one 4) (.call 128 [none, none] [(.var 1), (.var 2)])
def f129_6 : S := .ret (.tup [(.cst (.str [115, 105, 103, 110, 115])), (.var 5)])
def f129_7 : S := .ite (.call 37 [none, none] [(.var 5), (.var 4)]) [f129_6] []
def f129_8 : S := .for_ (.one 5) .seq [(.call 105 [none, none] [(.call 104 [none] [(.var 1)]), (.prim .len [(.attrV 80 1)])])] [f129_7] [5]
def f129_9 : S := .ret (.cst .non)
def f129 : Fn := ⟨6, 1, [], [f129_0, f129_1, f129_2, f129_4, f129_5, f129_8, f129_9]⟩
/-! reaches: rearrangement 0 -/
def f130_0 : S := .ret (.prim .isN [(.call 129 [none] [(.var 0)])])
def f130 : Fn := ⟨1, 1, [], [f130_0]⟩
/-! are_pure: layout 0, name 1, remainders 2, r 3 -/
def f131_0 : S := .ret (.cst (.bl false))
def f131_1 : S := .ite (.bool false [(.prim .nin [(.var 1), (.attrV 43 0)]), (.meth 82 [none] (.var 0) [(.var 1)])]) [f131_0] []
def f131_e0 : E := (.bool true [(.chain .le .lt (.cst (.int 0)) (.var 3) (.prim .idx [(.attrV 77 0), (.var 1)])), (.meth 84 [none] (.var 0) [(.tup [(.var 1), (.var 3)])])])
def f131_2 : S := .ret (.prim .all [(.lc (.one 3) .seq [(.var 2)] [] f131_e0 [3])])
def f131 : Fn := ⟨4, 3, [], [f131_1, f131_2]⟩
/-! is_away: layout 0, goes 1, spot 2, web 3, start 4 -/
def f132_0 : S := .asg (.one 3) (.attrV 43 0)
def f132_1 : S := .ret (.cst (.bl false))
def f132_2 : S := .ite (.bool false [(.not (.meth 20 [none] (.var 3) [(.var 2)])), (.prim .nin [(.meth 18 [none] (.var 3) [(.var 2)]), (.var 1)])]) [f132_1] []
def f132_3 : S := .asg (.one 4) (.meth 18 [none] (.var 3) [(.var 2)])
def f132_4 : S := .ret (.bool false [(.prim .isN [(.meth 85 [none] (.var 0) [(.var 4)])]), (.eqO true (.meth 85 [none] (.var 0) [(.var 4)]) (.meth 85 [none] (.var 0) [(.idxV 1 (.var 4))]))])
def f132 : Fn := ⟨5, 3, [], [f132_0, f132_2, f132_3, f132_4]⟩
/-! is_track_bar: layout 0, goes 1, track 2, told 3 -/
def f133_0 : S := .ret (.cst (.bl false))
def f133_1 : S := .ite (.not (.call 131 [none, none, none] [(.var 0), (.idxV 2 (.cst (.int 0))), (.prim .sl10 [(.var 2), (.cst (.int 1))])])) [f133_0] []
def f133_2 : S := .asg (.one 3) (.call 122 [none, none] [(.var 0), (.var 1)])
def f133_3 : S := .ret (.bool true [(.prim .inn [(.var 2), (.var 3)]), (.prim .isN [(.idxV 3 (.var 2))])])
def f133 : Fn := ⟨4, 3, [], [f133_1, f133_2, f133_3]⟩
/-! is_ring_bar: layout 0, goes 1, name 2, remainders 3, told 4, steps 5, r 6 -/
def f134_0 : S := .ret (.cst (.bl false))
def f134_1 : S := .ite (.not (.call 131 [none, none, none] [(.var 0), (.var 2), (.var 3)])) [f134_0] []
def f134_2 : S := .asg (.one 4) (.call 122 [none, none] [(.var 0), (.var 1)])
def f134_e0 : E := (.meth 76 [none, none] (.var 4) [(.tup [(.var 2), (.var 6)]), (.cst (.int 0))])
def f134_3 : S := .asg (.one 5) (.lc (.one 6) .seq [(.var 3)] [] f134_e0 [6])
def f134_4 : S := .ret (.bool true [(.prim .nin [(.cst .non), (.var 5)]), (.eqO true (.idxV 5 (.cst (.int 0))) (.idxV 5 (.cst (.int 1))))])
def f134 : Fn := ⟨7, 4, [], [f134_1, f134_2, f134_3, f134_4]⟩
/-! Guide.steps_along: self 0, name 1, spot 2, goal 3, way 4 -/
def f138_0 : S := .asg (.one 4) (.prim .sub [(.call 120 [none, none, none] [(.attrV 43 0), (.var 3), (.var 1)]), (.call 120 [none, none, none] [(.attrV 43 0), (.var 2), (.var 1)])])
def f138_1 : S := .ret (.bool false [(.call 34 [none, none, none] [(.prim .idx [(.attr 15 (.attrV 43 0)), (.var 1)]), (.var 4), (.prim .idx [(.attr 14 (.attrV 43 0)), (.var 1)])]), (.cst (.int 0))])
def f138 : Fn := ⟨5, 4, [], [f138_0, f138_1]⟩
/-! Guide.round_turns: self 0, one 1, a 2, other 3, b 4, hinge 5, j 6, k 7 -/
def f139_0 : S := .asg (.one 5) (.prim .idx [(.attrV 98 0), (.tup [(.var 1), (.var 3)])])
def f139_1 : S := .par [6, 7] [(.meth 110 [none, none, none] (.var 0) [(.idxV 1 (.cst (.int 0))), (.var 2), (.var 5)]), (.meth 110 [none, none, none] (.var 0) [(.idxV 3 (.cst (.int 0))), (.var 4), (.var 5)])]
def f139_2 : S := .ret (.lst [(.tup [(.idxV 1 (.cst (.int 0))), (.var 6)]), (.tup [(.idxV 3 (.cst (.int 0))), (.var 7)]), (.tup [(.idxV 1 (.cst (.int 0))), (.prim .neg [(.var 6)])]), (.tup [(.idxV 3 (.cst (.int 0))), (.prim .neg [(.var 7)])])])
def f139 : Fn := ⟨8, 5, [], [f139_0, f139_1, f139_2]⟩
/-! Guide.helper: self 0, track 1, hinge 2, taken 3, name 4, start 5, found 6, k 7, free 8, spot 9 -/
def f140_0 : S := .asg (.one 4) (.idxV 1 (.cst (.int 0)))
def f140_1 : S := .asg (.one 5) (.call 120 [none, none, none] [(.attrV 43 0), (.var 2), (.var 4)])
def f140_2 : S := .asg (.one 6) (.lst [])
def f140_3 : S := .app 6 (.meth 18 [none] (.attrV 43 0) [(.tup [(.var 4), (.prim .mod [(.prim .add [(.var 5), (.prim .mul [(.var 7), (.prim .idx [(.attr 15 (.attrV 43 0)), (.var 4)])])]), (.prim .idx [(.attr 14 (.attrV 43 0)), (.var 4)])])])])
def f140_4 : S := .for_ (.one 7) .rng2 [(.cst (.int 1)), (.prim .add [(.prim .min [(.prim .sub [(.prim .idx [(.attr 78 (.attrV 97 0)), (.var 4)]), (.cst (.int 1))]), (.gl 0 (.int 3))]), (.cst (.int 1))])] [f140_3] [7]
def f140_e0 : E := (.var 9)
def f140_5 : S := .asg (.one 8) (.lc (.one 9) .seq [(.var 6)] [(.prim .nin [(.var 9), (.var 3)])] f140_e0 [9])
def f140_6 : S := .ret (.ifx (.var 8) (.idxV 8 (.cst (.int 0))) (.idxV 6 (.cst (.int 0))))
def f140 : Fn := ⟨10, 4, [], [f140_0, f140_1, f140_2, f140_4, f140_5, f140_6]⟩
/-! Guide.way: self 0, starts 1, goals 2, rows 3, met 4, row 5, track 6 -/
def f141_e0 : E := (.lst [(.var 6)])
def f141_0 : S := .asg (.one 3) (.lc (.one 6) .seq [(.var 1)] [] f141_e0 [6])
def f141_e1 : E := (.var 6)
def f141_e2 : E := (.cst (.bl true))
def f141_1 : S := .asg (.one 4) (.dc false (.one 6) .seq [(.var 1)] [] f141_e1 f141_e2 [6])
def f141_2 : S := .asg (.one 5) (.meth 60 [none] (.var 3) [(.cst (.int 0))])
def f141_3 : S := .sub 4 (.var 6) (.cst (.bl true))
def f141_4 : S := .app 3 (.lstS (.var 5) [(.var 6)])
def f141_5 : S := .ite (.borT (.prim .nin [(.var 6), (.var 4)])) [f141_3, f141_4] []
def f141_6 : S := .for_ (.one 6) .seq [(.prim .idx [(.attrV 99 0), (.idxV 5 (.prim .neg [(.cst (.int 1))]))])] [f141_5] [6]
def f141_7 : S := .whl (.prim .nin [(.prim .idx [(.idxV 3 (.cst (.int 0))), (.prim .neg [(.cst (.int 1))])]), (.var 2)]) [f141_2, f141_6] [5, 6]
def f141_8 : S := .ret (.idxV 3 (.cst (.int 0)))
def f141 : Fn := ⟨7, 3, [], [f141_0, f141_1, f141_7, f141_8]⟩
/-! Gathering.__init__: self 0, guide 1, spots 2 -/
def f144_0 : S := .fld 0 100 (.var 1)
def f144_1 : S := .fld 0 101 (.prim .list [(.var 2)])
def f144_2 : S := .fld 0 102 (.lst [])
def f144 : Fn := ⟨3, 3, [], [f144_0, f144_1, f144_2]⟩
/-! Gathering.tracks: self 0, spot 1 -/
def f145_0 : S := .ret (.meth 87 [none] (.attr 97 (.attrV 100 0)) [(.var 1)])
def f145 : Fn := ⟨2, 2, [], [f145_0]⟩
/-! Gathering.found: self 0, at 1, hinge 2, tracks 3, rest 4 -/
def f146_0 : S := .asg (.one 3) (.meth 112 [none] (.var 0) [(.var 2)])
def f146_1 : S := .asg (.one 4) (.prim .add [(.prim .sl01 [(.attrV 101 0), (.var 1)]), (.prim .sl10 [(.attrV 101 0), (.prim .add [(.var 1), (.cst (.int 1))])])])
def f146_2 : S := .ret (.tup [(.idxV 3 (.cst (.int 0))), (.idxV 4 (.cst (.int 0))), (.idxV 3 (.cst (.int 1))), (.idxV 4 (.cst (.int 1)))])
def f146_3 : S := .ite (.bool true [(.eqO false (.prim .len [(.var 3)]) (.cst (.int 2))), (.prim .inn [(.idxV 3 (.cst (.int 0))), (.meth 112 [none] (.var 0) [(.idxV 4 (.cst (.int 0)))])]), (.prim .inn [(.idxV 3 (.cst (.int 1))), (.meth 112 [none] (.var 0) [(.idxV 4 (.cst (.int 1)))])])]) [f146_2] []
def f146_4 : S := .ret (.tup [(.idxV 3 (.cst (.int 0))), (.idxV 4 (.cst (.int 1))), (.idxV 3 (.cst (.int 1))), (.idxV 4 (.cst (.int 0)))])
def f146_5 : S := .ite (.bool true [(.eqO false (.prim .len [(.var 3)]) (.cst (.int 2))), (.prim .inn [(.idxV 3 (.cst (.int 0))), (.meth 112 [none] (.var 0) [(.idxV 4 (.cst (.int 1)))])]), (.prim .inn [(.idxV 3 (.cst (.int 1))), (.meth 112 [none] (.var 0) [(.idxV 4 (.cst (.int 0)))])])]) [f146_4] []
def f146_6 : S := .for_ (.tup [1, 2]) .enum [(.attrV 101 0)] [f146_0, f146_1, f146_3, f146_5] [1, 2, 3, 4]
def f146_7 : S := .ret (.cst .non)
def f146 : Fn := ⟨5, 1, [], [f146_6, f146_7]⟩
/-! Gathering.pair: self 0, first 1, second 2, third 3, x 4, y 5, z 6, both 7, track 8 -/
def f147_0 : S := .asg (.tup [1, 2, 3]) (.attrV 101 0)
def f147_e0 : E := (.var 8)
def f147_1 : S := .asg (.one 7) (.lc (.one 8) .seq [(.meth 112 [none] (.var 0) [(.var 4)])] [(.prim .inn [(.var 8), (.meth 112 [none] (.var 0) [(.var 5)])])] f147_e0 [8])
def f147_2 : S := .ret (.tup [(.idxV 7 (.cst (.int 0))), (.var 4), (.var 5), (.var 6)])
def f147_3 : S := .ite (.var 7) [f147_2] []
def f147_4 : S := .for_ (.tup [4, 5, 6]) .seq [(.tup [(.tup [(.var 1), (.var 2), (.var 3)]), (.tup [(.var 1), (.var 3), (.var 2)]), (.tup [(.var 2), (.var 3), (.var 1)])])] [f147_1, f147_3] [4, 5, 6, 7]
def f147_5 : S := .ret (.cst .non)
def f147 : Fn := ⟨9, 1, [], [f147_0, f147_4, f147_5]⟩
/-! Gathering.rotate: self 0, name 1, k 2, web 3, spot 4 -/
def f149_0 : S := .asg (.one 3) (.attr 43 (.attrV 100 0))
def f149_1 : S := .fld 0 102 (.lstS (.attrV 102 0) [(.tup [(.var 1), (.var 2)])])
def f149_e0 : E := (.meth 32 [none, none, none] (.var 3) [(.var 4), (.var 1), (.prim .mul [(.var 2), (.prim .idx [(.attrV 15 3), (.var 1)])])])
def f149_2 : S := .fld 0 101 (.lc (.one 4) .seq [(.attrV 101 0)] [] f149_e0 [4])
def f149 : Fn := ⟨5, 3, [], [f149_0, f149_1, f149_2]⟩
/-! Gathering.put_aside: self 0, track 1, spot 2, other 3 -/
def f151_0 : S := .asg (.one 3) (.prim .idx [(.prim .idx [(.attr 99 (.attrV 100 0)), (.var 1)]), (.cst (.int 0))])
def f151_1 : S := .ex (.meth 106 [none, none] (.var 0) [(.idxV 1 (.cst (.int 0))), (.meth 110 [none, none, none] (.attrV 100 0) [(.idxV 1 (.cst (.int 0))), (.var 2), (.prim .idx [(.attr 98 (.attrV 100 0)), (.tup [(.var 1), (.var 3)])])])])
def f151_2 : S := .ex (.meth 106 [none, none] (.var 0) [(.idxV 3 (.cst (.int 0))), (.cst (.int 1))])
def f151 : Fn := ⟨4, 3, [], [f151_0, f151_1, f151_2]⟩
/-! Gathering.call: self 0, track 1, x 2, y 3, z 4, way 5, hinge 6, helper 7 -/
def f152_0 : S := .asg (.one 5) (.meth 107 [none, none] (.attrV 100 0) [(.lst [(.var 1)]), (.meth 112 [none] (.var 0) [(.var 4)])])
def f152_1 : S := .asg (.one 6) (.prim .idx [(.attr 98 (.attrV 100 0)), (.tup [(.idxV 5 (.prim .neg [(.cst (.int 1))])), (.idxV 5 (.prim .neg [(.cst (.int 2))]))])])
def f152_2 : S := .ex (.meth 106 [none, none] (.var 0) [(.idxV 1 (.cst (.int 0))), (.meth 110 [none, none, none] (.attrV 100 0) [(.idxV 1 (.cst (.int 0))), (.var 2), (.var 6)])])
def f152_3 : S := .ite (.eqO false (.prim .len [(.var 5)]) (.cst (.int 2))) [f152_2, .retN] []
def f152_4 : S := .asg (.one 7) (.meth 108 [none, none, none] (.attrV 100 0) [(.idxV 5 (.prim .neg [(.cst (.int 2))])), (.var 6), (.attrV 101 0)])
def f152_5 : S := .ex (.meth 113 [none, none, none, none] (.var 0) [(.idxV 5 (.prim .neg [(.cst (.int 1))])), (.var 4), (.idxV 5 (.prim .neg [(.cst (.int 2))])), (.var 7)])
def f152_6 : S := .ex (.meth 113 [none, none, none, none] (.var 0) [(.var 1), (.ifx (.eqO false (.var 7) (.var 2)) (.var 3) (.var 2)), (.idxV 5 (.prim .neg [(.cst (.int 2))])), (.var 6)])
def f152_7 : S := .ite (.prim .nin [(.var 7), (.attrV 101 0)]) [f152_5] [f152_6]
def f152 : Fn := ⟨8, 5, [], [f152_0, f152_1, f152_3, f152_4, f152_7]⟩
/-! three_cycle: web 0, a 1, b 2, c 3, spots 4, guide 5, homes 6, spot 7 -/
def f153_0 : S := .asg (.one 4) (.lst [(.meth 19 [none] (.var 0) [(.var 1)]), (.meth 19 [none] (.var 0) [(.var 2)]), (.meth 19 [none] (.var 0) [(.var 3)])])
def f153_1 : S := .asg (.one 5) (.make 106 [(.var 0)])
def f153_e0 : E := (.meth 85 [none] (.attrV 97 5) [(.var 7)])
def f153_2 : S := .asg (.one 6) (.lc (.one 7) .seq [(.var 4)] [] f153_e0 [7])
def f153_3 : S := .rse 12 [(.var 1), (.var 2), (.var 3)]
def f153_4 : S := .ite (.bool false [(.prim .isN [(.idxV 6 (.cst (.int 0)))]), (.eqO true (.prim .idx [(.idxV 6 (.cst (.int 0))), (.cst (.int 0))]) (.cst (.str [108, 111, 116]))), (.eqO true (.var 6) (.lst [(.idxV 6 (.cst (.int 0))), (.idxV 6 (.cst (.int 0))), (.idxV 6 (.cst (.int 0)))]))]) [f153_3] []
def f153_e1 : E := (.var 7)
def f153_e2 : E := (.cst (.bl true))
def f153_5 : S := .rse 12 [(.var 1), (.var 2), (.var 3)]
def f153_6 : S := .ite (.prim .lt [(.prim .len [(.dc false (.one 7) .seq [(.var 4)] [] f153_e1 f153_e2 [7])]), (.cst (.int 3))]) [f153_5] []
def f153_7 : S := .ret (.make 101 [(.var 0), (.meth 109 [none] (.var 5) [(.var 4)])])
def f153 : Fn := ⟨8, 4, [], [f153_0, f153_1, f153_2, f153_4, f153_6, f153_7]⟩
/-! script_to: rearrangement 0, reason 1, web 2, guide 3, goes 4, turns 5, weight 6, form 7, names 8, name 9, steps 10 -/
def f156_0 : S := .asg (.one 1) (.call 129 [none] [(.var 0)])
def f156_1 : S := .rse 13 [(.var 1)]
def f156_2 : S := .ite (.prim .ntN [(.var 1)]) [f156_1] []
def f156_3 : S := .asg (.one 2) (.attrV 43 0)
def f156_4 : S := .asg (.one 3) (.make 106 [(.var 2)])
def f156_5 : S := .asg (.one 4) (.meth 94 [] (.var 0) [])
def f156_e0 : E := (.tup [(.var 9), (.var 10)])
def f156_6 : S := .asg (.one 5) (.lc (.tup [9, 10]) .items [(.call 126 [none, none] [(.attrV 97 3), (.var 4)])] [(.prim .gt [(.var 10), (.cst (.int 0))])] f156_e0 [9, 10])
def f156_7 : S := .asg (.tup [6, 8]) (.call 154 [none, none] [(.attrV 97 3), (.call 128 [none, none] [(.attrV 97 3), (.var 4)])])
def f156_e1 : E := (.prim .idx [(.attrV 14 2), (.var 9)])
def f156_8 : S := .aug 6 .add (.prim .add [(.prim .len [(.var 4)]), (.prim .sum [(.lc (.tup [9, 10]) .seq [(.var 5)] [] f156_e1 [9, 10])])])
def f156_9 : S := .rse 14 [(.var 6)]
def f156_10 : S := .ite (.prim .gt [(.var 6), (.gl 0 (.int 1000))]) [f156_9] []
def f156_e2 : E := (.tup [(.var 9), (.cst (.int 1))])
def f156_11 : S := .asg (.one 5) (.prim .add [(.var 5), (.lc (.one 9) .seq [(.var 8)] [] f156_e2 [9])])
def f156_12 : S := .asg (.one 7) (.call 66 [none] [(.make 101 [(.var 2), (.var 5)])])
def f156_e3 : E := (.var 9)
def f156_13 : S := .ret (.make 101 [(.var 2), (.prim .add [(.var 5), (.meth 114 [none] (.var 3) [(.call 155 [none, none, none] [(.var 7), (.lc (.tup [9, 10]) .seq [(.var 5)] [] f156_e3 [9, 10]), (.var 4)])])])])
def f156 : Fn := ⟨11, 1, [], [f156_0, f156_2, f156_3, f156_4, f156_5, f156_6, f156_7, f156_8, f156_10, f156_11, f156_12, f156_13]⟩
/-! Spread.__init__: self 0, web 1, labels 2, rest 3, spot 4, label 5 -/
def f158_0 : S := .fld 0 43 (.var 1)
def f158_1 : S := .fld 0 117 (.var 3)
def f158_e0 : E := (.meth 19 [none] (.var 1) [(.var 4)])
def f158_e1 : E := (.var 5)
def f158_2 : S := .fld 0 118 (.dc false (.tup [4, 5]) .items [(.var 2)] [] f158_e0 f158_e1 [4, 5])
def f158_e2 : E := (.var 4)
def f158_e3 : E := (.var 5)
def f158_3 : S := .fld 0 118 (.dc false (.tup [4, 5]) .items [(.attrV 118 0)] [(.eqO true (.var 5) (.var 3))] f158_e2 f158_e3 [4, 5])
def f158 : Fn := ⟨6, 4, [], [f158_0, f158_1, f158_2, f158_3]⟩
/-! Spread.__eq__: self 0, other 1 -/
def f159_0 : S := .ret (.bool true [(.isi 108 (.var 1)), (.eqO false (.attrV 43 0) (.attrV 43 1)), (.eqO false (.attrV 118 0) (.attrV 118 1)), (.eqO false (.attrV 117 0) (.attrV 117 1))])
def f159 : Fn := ⟨2, 2, [], [f159_0]⟩
/-! Spread.__call__: self 0, spot 1 -/
def f160_0 : S := .ret (.meth 76 [none, none] (.attrV 118 0) [(.meth 19 [none] (.attrV 43 0) [(.var 1)]), (.attrV 117 0)])
def f160 : Fn := ⟨2, 2, [], [f160_0]⟩
/-! Spread.labels: self 0 -/
def f161_0 : S := .ret (.prim .dictT [(.attrV 118 0)])
def f161 : Fn := ⟨1, 1, [], [f161_0]⟩
/-! Spread.moved: self 0, form 1, spot 2, label 3 -/
def f162_0 : S := .rse 9 []
def f162_1 : S := .ite (.eqO true (.attrV 43 1) (.attrV 43 0)) [f162_0] []
def f162_e0 : E := (.meth 57 [none] (.var 1) [(.var 2)])
def f162_e1 : E := (.var 3)
def f162_2 : S := .ret (.make 108 [(.attrV 43 0), (.dc false (.tup [2, 3]) .items [(.attrV 118 0)] [] f162_e0 f162_e1 [2, 3]), (.attrV 117 0)])
def f162 : Fn := ⟨4, 2, [], [f162_1, f162_2]⟩
/-! Change.fits_lots: self 0, mark 1, spots 2, spot 3 -/
def f165_e0 : E := (.var 3)
def f165_0 : S := .ret (.cst (.bl false))
def f165_1 : S := .ite (.bool true [(.prim .isN [(.var 1)]), (.lc (.one 3) .seq [(.var 2)] [(.eqO true (.meth 119 [none] (.var 0) [(.var 3)]) (.meth 120 [none] (.var 0) [(.var 3)]))] f165_e0 [3])]) [f165_0] []
def f165_2 : S := .ret (.cst (.bl false))
def f165_3 : S := .ite (.eqO true (.meth 123 [none, none] (.var 0) [(.attrV 119 0), (.var 1)]) (.meth 123 [none, none] (.var 0) [(.attrV 120 0), (.var 1)])) [f165_2] []
def f165_4 : S := .ite (.bool true [(.prim .ntN [(.var 1)]), (.eqO false (.idxV 1 (.cst (.int 0))) (.cst (.str [108, 111, 116])))]) [f165_3] []
def f165_5 : S := .for_ (.tup [1, 2]) .items [(.attrV 121 0)] [f165_1, f165_4] [1, 2]
def f165_6 : S := .ret (.cst (.bl true))
def f165 : Fn := ⟨4, 1, [], [f165_5, f165_6]⟩
/-! Change.track_steps: self 0, mark 1, name 2, olds 3, news 4, steps 5, spot 6, k 7 -/
def f166_0 : S := .asg (.one 2) (.idxV 1 (.cst (.int 1)))
def f166_e0 : E := (.var 6)
def f166_1 : S := .asg (.one 3) (.lc (.one 6) .seq [(.prim .idx [(.attrV 121 0), (.var 1)])] [(.prim .inn [(.var 6), (.attr 118 (.attrV 119 0))])] f166_e0 [6])
def f166_e1 : E := (.var 6)
def f166_2 : S := .asg (.one 4) (.lc (.one 6) .seq [(.prim .idx [(.attrV 121 0), (.var 1)])] [(.prim .inn [(.var 6), (.attr 118 (.attrV 120 0))])] f166_e1 [6])
def f166_3 : S := .ret (.lst [])
def f166_4 : S := .ite (.eqO true (.prim .len [(.var 3)]) (.prim .len [(.var 4)])) [f166_3] []
def f166_e2 : E := (.call 121 [none, none, none, none] [(.attrV 97 0), (.var 2), (.idxV 3 (.cst (.int 0))), (.var 6)])
def f166_5 : S := .asg (.one 5) (.lc (.one 6) .seq [(.var 4)] [] f166_e2 [6])
def f166_e3 : E := (.var 7)
def f166_6 : S := .ret (.prim .sorted [(.lc (.one 7) .seq [(.var 5)] [(.meth 132 [none, none, none] (.var 0) [(.var 2), (.var 3), (.var 7)])] f166_e3 [7])])
def f166 : Fn := ⟨8, 2, [], [f166_0, f166_1, f166_2, f166_4, f166_5, f166_6]⟩
/-! Change.leads_by: self 0, name 1, spots 2, k 3, web 4, goes 5, spot 6, goal 7 -/
def f167_0 : S := .asg (.one 4) (.attr 43 (.attrV 119 0))
def f167_e0 : E := (.tup [(.var 6), (.meth 32 [none, none, none] (.var 4) [(.var 6), (.var 1), (.prim .mul [(.var 3), (.prim .idx [(.attrV 15 4), (.var 1)])])])])
def f167_1 : S := .asg (.one 5) (.lc (.one 6) .seq [(.var 2)] [] f167_e0 [6])
def f167_e1 : E := (.eqO false (.meth 119 [none] (.var 0) [(.var 6)]) (.meth 120 [none] (.var 0) [(.var 7)]))
def f167_2 : S := .ret (.prim .all [(.lc (.tup [6, 7]) .seq [(.var 5)] [] f167_e1 [6, 7])])
def f167 : Fn := ⟨8, 4, [], [f167_0, f167_1, f167_2]⟩
/-! Change.wanted_row: self 0, row 1, number 2, sign 3, goes 4, cycle 5 -/
def f170_0 : S := .asg (.one 1) (.lst [])
def f170_1 : S := .asg (.one 3) (.cst (.int 0))
def f170_2 : S := .asg (.one 4) (.meth 124 [none, none] (.var 0) [(.attrV 119 0), (.tup [(.cst (.str [108, 111, 116])), (.var 2)])])
def f170_e0 : E := (.prim .sub [(.prim .len [(.var 5)]), (.cst (.int 1))])
def f170_3 : S := .asg (.one 3) (.prim .mod [(.prim .sum [(.lc (.one 5) .seq [(.call 109 [none] [(.var 4)])] [] f170_e0 [5])]), (.cst (.int 2))])
def f170_4 : S := .ite (.meth 127 [none] (.var 0) [(.var 2)]) [f170_2, f170_3] []
def f170_5 : S := .app 1 (.var 3)
def f170_6 : S := .for_ (.one 2) .rng1 [(.prim .len [(.attr 80 (.attrV 97 0))])] [f170_1, f170_4, f170_5] [2, 3, 4]
def f170_7 : S := .ret (.prim .tuple [(.var 1)])
def f170 : Fn := ⟨6, 1, [], [f170_0, f170_6, f170_7]⟩
/-! Change.masked: self 0, row 1, number 2, entry 3 -/
def f171_e0 : E := (.ifx (.meth 127 [none] (.var 0) [(.var 2)]) (.var 3) (.cst (.int 0)))
def f171_0 : S := .ret (.prim .tuple [(.lc (.tup [2, 3]) .enum [(.var 1)] [] f171_e0 [2, 3])])
def f171 : Fn := ⟨4, 2, [], [f171_0]⟩
/-! Change.like_spots: self 0, number 1, met 2, name 3, r 4, k 5, size 6, step 7, spot 8, label 9 -/
def f174_0 : S := .asg (.one 2) .newT
def f174_1 : S := .par [6, 7] [(.prim .idx [(.attr 78 (.attrV 97 0)), (.var 3)]), (.prim .idx [(.attr 15 (.attr 43 (.attrV 119 0))), (.var 3)])]
def f174_2 : S := .asg (.one 8) (.meth 18 [none] (.attr 43 (.attrV 119 0)) [(.tup [(.var 3), (.prim .mod [(.prim .add [(.var 4), (.prim .mul [(.var 5), (.var 7)])]), (.prim .idx [(.attr 14 (.attr 43 (.attrV 119 0))), (.var 3)])])])])
def f174_3 : S := .asg (.one 9) (.meth 120 [none] (.var 0) [(.var 8)])
def f174_4 : S := .ret (.tup [(.idxV 2 (.var 9)), (.var 8)])
def f174_5 : S := .ite (.borT (.bool true [(.prim .inn [(.var 9), (.var 2)]), (.eqO true (.idxV 2 (.var 9)) (.var 8))])) [f174_4] []
def f174_6 : S := .sub 2 (.var 9) (.var 8)
def f174_7 : S := .for_ (.one 5) .rng1 [(.prim .min [(.var 6), (.prim .add [(.prim .len [(.attr 118 (.attrV 120 0))]), (.cst (.int 2))])])] [f174_2, f174_3, f174_5, f174_6] [5, 8, 9]
def f174_8 : S := .for_ (.tup [3, 4]) .seq [(.prim .idx [(.attr 80 (.attrV 97 0)), (.var 1)])] [f174_1, f174_7] [3, 4, 5, 6, 7, 8, 9]
def f174_9 : S := .ret (.cst .non)
def f174 : Fn := ⟨10, 2, [], [f174_0, f174_8, f174_9]⟩
/-! Change.script: self 0, turns 1, spread 2, number 3 -/
def f176_0 : S := .asg (.one 1) (.meth 126 [] (.var 0) [])
def f176_1 : S := .ret (.cst .non)
def f176_2 : S := .ite (.prim .isN [(.var 1)]) [f176_1] []
def f176_3 : S := .asg (.one 2) (.meth 32 [none] (.attrV 119 0) [(.call 66 [none] [(.make 101 [(.attr 43 (.attrV 119 0)), (.var 1)])])])
def f176_4 : S := .asg (.one 1) (.prim .add [(.var 1), (.meth 114 [none] (.attrV 100 0) [(.meth 133 [none, none] (.var 0) [(.var 2), (.var 3)])])])
def f176_5 : S := .for_ (.one 3) .rng1 [(.prim .len [(.attr 80 (.attrV 97 0))])] [f176_4] [3]
def f176_6 : S := .ret (.make 101 [(.attr 43 (.attrV 119 0)), (.var 1)])
def f176 : Fn := ⟨4, 1, [], [f176_0, f176_2, f176_3, f176_5, f176_6]⟩
/-! change_of: first 0, second 1 -/
def f177_0 : S := .rse 9 []
def f177_1 : S := .ite (.eqO true (.attrV 43 0) (.attrV 43 1)) [f177_0] []
def f177_2 : S := .rse 10 []
def f177_3 : S := .ite (.eqO true (.attrV 117 0) (.attrV 117 1)) [f177_2] []
def f177_4 : S := .ret (.make 109 [(.var 0), (.var 1)])
def f177 : Fn := ⟨2, 2, [], [f177_1, f177_3, f177_4]⟩
/-! leads: first 0, second 1 -/
def f178_0 : S := .ret (.prim .ntN [(.meth 126 [] (.call 177 [none, none] [(.var 0), (.var 1)]) [])])
def f178 : Fn := ⟨2, 2, [], [f178_0]⟩
/-! script_between: first 0, second 1 -/
def f179_0 : S := .ret (.meth 122 [] (.call 177 [none, none] [(.var 0), (.var 1)]) [])
def f179 : Fn := ⟨2, 2, [], [f179_0]⟩
/-! ground: web 0, name 1, length 2, step 3 -/
def f180_e0 : E := (.tup [(.var 1), (.var 2)])
def f180_0 : S := .ret (.tup [(.lc (.tup [1, 2, 3]) .seq [(.attrV 12 0)] [] f180_e0 [1, 2, 3]), (.meth 28 [] (.var 0) [])])
def f180 : Fn := ⟨4, 1, [], [f180_0]⟩
/-! check_ground: one 0, other 1 -/
def f181_0 : S := .rse 9 []
def f181_1 : S := .ite (.eqO true (.call 180 [none] [(.var 0)]) (.call 180 [none] [(.var 1)])) [f181_0] []
def f181 : Fn := ⟨2, 2, [], [f181_1]⟩
/-! small_turn: web 0, name 1, shift 2, length 3, i 4 -/
def f182_0 : S := .asg (.one 3) (.meth 26 [none] (.var 0) [(.var 1)])
def f182_e0 : E := (.tup [(.var 1), (.var 4)])
def f182_e1 : E := (.tup [(.var 1), (.prim .mod [(.prim .add [(.var 4), (.var 2)]), (.var 3)])])
def f182_1 : S := .ret (.make 105 [(.var 0), (.dc false (.one 4) .rng1 [(.var 3)] [] f182_e0 f182_e1 [4])])
def f182 : Fn := ⟨5, 3, [], [f182_0, f182_1]⟩
/-! turn_row: layout 0, name 1, shift 2, length 3, rounds 4, size 5, row 6, lot 7, places 8, track 9 -/
def f183_0 : S := .asg (.one 3) (.meth 26 [none] (.attrV 43 0) [(.var 1)])
def f183_1 : S := .asg (.one 4) (.call 33 [none, none] [(.var 2), (.var 3)])
def f183_2 : S := .asg (.one 5) (.prim .fdiv [(.var 3), (.var 4)])
def f183_3 : S := .asg (.one 6) (.lst [])
def f183_e0 : E := (.var 9)
def f183_4 : S := .asg (.one 8) (.prim .mul [(.prim .len [(.lc (.one 9) .seq [(.var 7)] [(.eqO false (.idxV 9 (.cst (.int 0))) (.var 1))] f183_e0 [9])]), (.prim .idx [(.attrV 78 0), (.var 1)])])
def f183_5 : S := .app 6 (.prim .mod [(.prim .mul [(.prim .fdiv [(.var 8), (.var 5)]), (.prim .sub [(.var 5), (.cst (.int 1))])]), (.cst (.int 2))])
def f183_6 : S := .for_ (.one 7) .seq [(.attrV 80 0)] [f183_4, f183_5] [7, 8]
def f183_7 : S := .ret (.prim .tuple [(.var 6)])
def f183 : Fn := ⟨10, 3, [], [f183_0, f183_1, f183_2, f183_3, f183_6, f183_7]⟩
/-! parting_ring: one 0, other 1, layout 2, name 3, length 4, step 5 -/
def f185_0 : S := .ex (.call 181 [none, none] [(.var 0), (.var 1)])
def f185_1 : S := .asg (.one 2) (.make 104 [(.var 1)])
def f185_2 : S := .retV 3
def f185_3 : S := .ite (.bool true [(.eqO true (.var 5) (.cst (.int 0))), (.not (.call 184 [none, none, none] [(.var 2), (.var 3), (.var 5)]))]) [f185_2] []
def f185_4 : S := .for_ (.tup [3, 4, 5]) .seq [(.attrV 12 0)] [f185_3] [3, 4, 5]
def f185_5 : S := .ret (.cst .non)
def f185 : Fn := ⟨6, 2, [], [f185_0, f185_1, f185_4, f185_5]⟩
/-! within: one 0, other 1 -/
def f186_0 : S := .ret (.prim .isN [(.call 185 [none, none] [(.var 0), (.var 1)])])
def f186 : Fn := ⟨2, 2, [], [f186_0]⟩
/-! same: one 0, other 1 -/
def f187_0 : S := .ret (.bool true [(.call 186 [none, none] [(.var 0), (.var 1)]), (.call 186 [none, none] [(.var 1), (.var 0)])])
def f187 : Fn := ⟨2, 2, [], [f187_0]⟩
/-! with_still: web 0, names 1, name 2 -/
def f188_0 : S := .asg (.one 0) (.meth 36 [none, none] (.var 0) [(.var 2), (.meth 26 [none] (.var 0) [(.var 2)])])
def f188_1 : S := .for_ (.one 2) .seq [(.var 1)] [f188_0] [2]
def f188_2 : S := .retV 0
def f188 : Fn := ⟨3, 2, [], [f188_1, f188_2]⟩
/-! needless: web 0, name 1 -/
def f189_e0 : E := (.var 1)
def f189_0 : S := .ret (.lc (.one 1) .seq [(.meth 22 [] (.var 0) [])] [(.call 186 [none, none] [(.var 0), (.call 188 [none, none] [(.var 0), (.lst [(.var 1)])])])] f189_e0 [1])
def f189 : Fn := ⟨2, 1, [], [f189_0]⟩
/-! least_rings: web 0, found 1, names 2, held 3, known 4, name 5 -/
def f191_0 : S := .rse 14 [(.prim .len [(.var 0)])]
def f191_1 : S := .ite (.prim .gt [(.prim .len [(.var 0)]), (.gl 0 (.int 8))]) [f191_0] []
def f191_2 : S := .asg (.one 1) (.lst [])
def f191_e0 : E := (.prim .inn [(.var 5), (.var 2)])
def f191_e1 : E := (.var 4)
def f191_3 : S := .asg (.one 3) (.lc (.one 4) .seq [(.var 1)] [(.prim .all [(.lc (.one 5) .seq [(.var 4)] [] f191_e0 [5])])] f191_e1 [4])
def f191_e2 : E := (.var 5)
def f191_4 : S := .app 1 (.var 2)
def f191_5 : S := .ite (.bool true [(.not (.var 3)), (.call 186 [none, none] [(.var 0), (.call 188 [none, none] [(.var 0), (.lc (.one 5) .seq [(.meth 22 [] (.var 0) [])] [(.prim .nin [(.var 5), (.var 2)])] f191_e2 [5])])])]) [f191_4] []
def f191_6 : S := .for_ (.one 2) .seq [(.call 190 [none] [(.meth 22 [] (.var 0) [])])] [f191_3, f191_5] [2, 3]
def f191_7 : S := .retV 1
def f191 : Fn := ⟨6, 1, [], [f191_1, f191_2, f191_6, f191_7]⟩
/-! Desk.__init__: self 0, web 1 -/
def f192_0 : S := .fld 0 43 (.var 1)
def f192_1 : S := .fld 0 136 (.tup [])
def f192_2 : S := .fld 0 137 (.tup [])
def f192 : Fn := ⟨2, 2, [], [f192_0, f192_1, f192_2]⟩
/-! Desk.script: self 0 -/
def f194_0 : S := .ret (.make 101 [(.attrV 43 0), (.meth 139 [] (.var 0) [])])
def f194 : Fn := ⟨1, 1, [], [f194_0]⟩
/-! Desk.present: self 0 -/
def f195_0 : S := .ret (.call 66 [none] [(.make 101 [(.attrV 43 0), (.meth 139 [] (.var 0) [])])])
def f195 : Fn := ⟨1, 1, [], [f195_0]⟩
/-! Desk.undoable: self 0 -/
def f196_0 : S := .ret (.prim .len [(.attrV 136 0)])
def f196 : Fn := ⟨1, 1, [], [f196_0]⟩
/-! Desk.redoable: self 0 -/
def f197_0 : S := .ret (.prim .len [(.attrV 137 0)])
def f197 : Fn := ⟨1, 1, [], [f197_0]⟩
/-! Desk.__len__: self 0 -/
def f198_0 : S := .ret (.prim .len [(.meth 139 [] (.var 0) [])])
def f198 : Fn := ⟨1, 1, [], [f198_0]⟩
/-! Desk.where: self 0, spot 1 -/
def f199_0 : S := .ret (.meth 46 [none] (.meth 122 [] (.var 0) []) [(.var 1)])
def f199 : Fn := ⟨2, 2, [], [f199_0]⟩
/-! Desk.turn: self 0, name 1, k 2 -/
def f201_0 : S := .ex (.meth 138 [none] (.var 0) [(.lst [(.tup [(.var 1), (.var 2)])])])
def f201 : Fn := ⟨3, 3, [], [f201_0]⟩
/-! Desk.make: self 0, turns 1 -/
def f202_0 : S := .ex (.meth 138 [none] (.var 0) [(.var 1)])
def f202 : Fn := ⟨2, 2, [], [f202_0]⟩
/-! Desk.__iadd__: self 0, script 1 -/
def f203_0 : S := .rse 9 []
def f203_1 : S := .ite (.not (.eqO false (.attrV 43 1) (.attrV 43 0))) [f203_0] []
def f203_2 : S := .ex (.meth 138 [none] (.var 0) [(.attrV 44 1)])
def f203_3 : S := .retV 0
def f203 : Fn := ⟨2, 2, [], [f203_1, f203_2, f203_3]⟩
/-! Desk.home: self 0 -/
def f206_0 : S := .ret (.attr 47 (.meth 122 [] (.var 0) []))
def f206 : Fn := ⟨1, 1, [], [f206_0]⟩
end Mr.P

/-! printed by gen.py: the laws' own helpers that several of them share, their great numbers as parameters -/
namespace Mr.Q
/-! _law_cell: _law_script 0, _law_place 1 -/
def f400_0 : S := .ret (.idxV 0 (.var 1))
def f400_1 : S := .ite (.prim .lt [(.var 1), (.prim .len [(.var 0)])]) [f400_0] []
def f400_2 : S := .ret (.cst (.int 0))
def f400 : Fn := ⟨2, 2, [], [f400_1, f400_2]⟩
/-! _law_source: _law_cell_here 0 -/
def f401_0 (c0 c1 : Int) : S := .ret (.lst [(.var 0), (.cst (.int 1))])
def f401_1 (c0 c1 : Int) : S := .ite (.prim .ge [(.var 0), (.prim .pow [(.cst (.int 10)), (.cst (.int 18))])]) [(f401_0 c0 c1)] []
def f401_2 (c0 c1 : Int) : S := .ret (.lst [(.prim .mod [(.prim .int [(.prim .add [(.prim .mul [(.var 0), (.cst (.int c1))]), (.cst (.int c0))])]), (.cst (.int 2147483647))]), (.cst (.int 0))])
def f401 (c0 c1 : Int) : Fn := ⟨1, 1, [], [(f401_1 c0 c1), (f401_2 c0 c1)]⟩
/-! _law_draw: _law_source_here 0, _law_limit 1, _law_digit 2 -/
def f402_0 (c0 c1 : Int) : S := .asg (.one 2) (.prim .mod [(.prim .int [(.idxV 0 (.cst (.int 0)))]), (.var 1)])
def f402_1 (c0 c1 : Int) : S := .sub 0 (.cst (.int 0)) (.prim .fdiv [(.idxV 0 (.cst (.int 0))), (.var 1)])
def f402_2 (c0 c1 : Int) : S := .retV 2
def f402_3 (c0 c1 : Int) : S := .ite (.eqO false (.idxV 0 (.cst (.int 1))) (.cst (.int 1))) [(f402_0 c0 c1), (f402_1 c0 c1), (f402_2 c0 c1)] []
def f402_4 (c0 c1 : Int) : S := .sub 0 (.cst (.int 0)) (.prim .mod [(.prim .int [(.prim .add [(.prim .mul [(.idxV 0 (.cst (.int 0))), (.cst (.int c1))]), (.cst (.int c0))])]), (.cst (.int 2147483647))])
def f402_5 (c0 c1 : Int) : S := .ret (.prim .mod [(.prim .fdiv [(.prim .int [(.prim .mod [(.prim .pow [(.idxV 0 (.cst (.int 0))), (.cst (.int 5))]), (.cst (.int 2147483647))])]), (.cst (.int 16))]), (.var 1)])
def f402 (c0 c1 : Int) : Fn := ⟨3, 2, [], [(f402_3 c0 c1), (f402_4 c0 c1), (f402_5 c0 c1)]⟩
/-! _law_rings: _law_source_here 0, _law_most 1, _law_longest 2, _law_first 3, _law_rings_here 4, _law_k 5, _law_length 6, _law_step 7, _law_menu 8, _law_name 9 -/
def f403_0 : S := .asg (.one 3) (.call 402 [some 0, none] [(.cst (.int 12))])
def f403_1 : S := .asg (.one 4) (.lst [])
def f403_2 : S := .asg (.one 6) (.prim .add [(.cst (.int 2)), (.call 402 [some 0, none] [(.prim .sub [(.var 2), (.cst (.int 1))])])])
def f403_3 : S := .asg (.one 6) (.cst (.int 1))
def f403_4 : S := .ite (.eqO false (.call 402 [some 0, none] [(.cst (.int 12))]) (.cst (.int 0))) [f403_3] []
def f403_5 : S := .asg (.one 7) (.prim .idx [(.lst [(.cst (.int 1)), (.cst (.int 1)), (.prim .add [(.cst (.int 1)), (.call 402 [some 0, none] [(.var 6)])]), (.prim .add [(.cst (.int 1)), (.call 402 [some 0, none] [(.prim .mul [(.cst (.int 3)), (.var 6)])])])]), (.call 402 [some 0, none] [(.cst (.int 4))])])
def f403_6 : S := .asg (.one 8) (.lst [(.cst (.str [98])), (.cst (.str [97])), (.cst (.str [97, 49])), (.cst (.str [100])), (.cst (.str [114, 105, 110, 103])), (.cst (.str [109, 101, 101, 116])), (.cst (.str [114, 105, 110, 103, 50])), (.cst (.str [112, 113, 115, 117, 118, 119, 120])), (.cst (.str [107, 54, 56])), (.cst (.str [114, 49])), (.cst (.str [114, 49, 48])), (.cst (.str [101]))])
def f403_7 : S := .asg (.one 9) (.idxV 8 (.prim .mod [(.prim .add [(.var 3), (.var 5)]), (.cst (.int 12))]))
def f403_8 : S := .app 4 (.lst [(.var 9), (.var 6), (.var 7)])
def f403_9 : S := .for_ (.one 5) .rng1 [(.prim .add [(.cst (.int 1)), (.call 402 [some 0, none] [(.var 1)])])] [f403_2, f403_4, f403_5, f403_6, f403_7, f403_8] [5, 6, 7, 8, 9]
def f403_10 : S := .retV 4
def f403 : Fn := ⟨10, 3, [], [f403_0, f403_1, f403_9, f403_10]⟩
/-! _law_meetings: _law_source_here 0, _law_rings_here 1, _law_many 2, _law_meetings_here 3, _law_taken 4, _law_pairs 5, _law_k 6, _law_first 7, _law_second 8, _law_i 9, _law_j 10, _law_ends 11, _law_names 12 -/
def f404_0 : S := .asg (.one 3) (.lst [])
def f404_1 : S := .asg (.one 4) (.lst [])
def f404_2 : S := .asg (.one 5) (.lst [])
def f404_3 : S := .asg (.one 7) (.call 402 [some 0, none] [(.prim .len [(.var 1)])])
def f404_4 : S := .asg (.one 8) (.call 402 [some 0, none] [(.prim .len [(.var 1)])])
def f404_5 : S := .asg (.one 9) (.call 402 [some 0, none] [(.prim .idx [(.idxV 1 (.var 7)), (.cst (.int 1))])])
def f404_6 : S := .asg (.one 10) (.call 402 [some 0, none] [(.prim .idx [(.idxV 1 (.var 8)), (.cst (.int 1))])])
def f404_7 : S := .asg (.one 11) (.lst [(.tup [(.prim .idx [(.idxV 1 (.var 7)), (.cst (.int 0))]), (.var 9)]), (.tup [(.prim .idx [(.idxV 1 (.var 8)), (.cst (.int 0))]), (.var 10)])])
def f404_8 : S := .asg (.one 12) (.prim .sorted [(.lst [(.prim .idx [(.idxV 1 (.var 7)), (.cst (.int 0))]), (.prim .idx [(.idxV 1 (.var 8)), (.cst (.int 0))])])])
def f404_9 : S := .app 3 (.tup [(.prim .idx [(.idxV 1 (.var 7)), (.cst (.int 0))]), (.var 9), (.prim .idx [(.idxV 1 (.var 8)), (.cst (.int 0))]), (.var 10)])
def f404_10 : S := .asg (.one 4) (.prim .add [(.var 4), (.var 11)])
def f404_11 : S := .app 5 (.var 12)
def f404_12 : S := .ite (.borT (.bool true [(.eqO true (.var 7) (.var 8)), (.prim .nin [(.var 12), (.var 5)]), (.prim .nin [(.idxV 11 (.cst (.int 0))), (.var 4)]), (.prim .nin [(.idxV 11 (.cst (.int 1))), (.var 4)])])) [f404_9, f404_10, f404_11] []
def f404_13 : S := .for_ (.one 6) .rng1 [(.var 2)] [f404_3, f404_4, f404_5, f404_6, f404_7, f404_8, f404_12] [6, 7, 8, 9, 10, 11, 12]
def f404_14 : S := .retV 3
def f404 : Fn := ⟨13, 3, [], [f404_0, f404_1, f404_2, f404_13, f404_14]⟩
/-! _law_told: _law_meetings_here 0, _law_place 1, _law_name 2, _law_i 3, _law_other 4, _law_j 5 -/
def f405_0 : S := .ret (.prim .min [(.lst [(.tup [(.var 2), (.var 3)]), (.tup [(.var 4), (.var 5)])])])
def f405_1 : S := .ite (.prim .inn [(.var 1), (.lst [(.tup [(.var 2), (.var 3)]), (.tup [(.var 4), (.var 5)])])]) [f405_0] []
def f405_2 : S := .for_ (.tup [2, 3, 4, 5]) .seq [(.var 0)] [f405_1] [2, 3, 4, 5]
def f405_3 : S := .retV 1
def f405 : Fn := ⟨6, 2, [], [f405_2, f405_3]⟩
/-! _law_spots: _law_rings_here 0, _law_meetings_here 1, _law_found 2, _law_name 3, _law_length 4, _law_step 5, _law_i 6, _law_spot 7 -/
def f406_0 : S := .asg (.one 2) (.lst [])
def f406_1 : S := .asg (.one 7) (.call 405 [none, none] [(.var 1), (.tup [(.var 3), (.var 6)])])
def f406_2 : S := .app 2 (.var 7)
def f406_3 : S := .ite (.borT (.prim .nin [(.var 7), (.var 2)])) [f406_2] []
def f406_4 : S := .for_ (.one 6) .rng1 [(.var 4)] [f406_1, f406_3] [6, 7]
def f406_5 : S := .for_ (.tup [3, 4, 5]) .seq [(.var 0)] [f406_4] [3, 4, 5, 6, 7]
def f406_6 : S := .ret (.prim .sorted [(.var 2)])
def f406 : Fn := ⟨8, 2, [], [f406_0, f406_5, f406_6]⟩
/-! _law_small: _law_source_here 0, _law_most 1, _law_rings_here 2, _law_meetings_here 3, _law_gone 4, _law_joint 5 -/
def f407_0 : S := .asg (.one 2) (.call 403 [some 0, none, none] [(.cst (.int 4)), (.cst (.int 5))])
def f407_1 : S := .asg (.one 3) (.call 404 [some 0, none, none] [(.var 2), (.prim .add [(.cst (.int 2)), (.call 402 [some 0, none] [(.cst (.int 6))])])])
def f407_2 : S := .asg (.one 4) (.prim .idx [(.idxV 2 (.prim .neg [(.cst (.int 1))])), (.cst (.int 0))])
def f407_3 : S := .asg (.one 2) (.prim .sl01 [(.var 2), (.prim .neg [(.cst (.int 1))])])
def f407_e0 : E := (.var 5)
def f407_4 : S := .asg (.one 3) (.lc (.one 5) .seq [(.var 3)] [(.prim .nin [(.var 4), (.lst [(.idxV 5 (.cst (.int 0))), (.idxV 5 (.cst (.int 2)))])])] f407_e0 [5])
def f407_5 : S := .whl (.bool true [(.prim .gt [(.prim .len [(.call 406 [none, none] [(.var 2), (.var 3)])]), (.var 1)]), (.prim .gt [(.prim .len [(.var 2)]), (.cst (.int 1))])]) [f407_2, f407_3, f407_4] [4]
def f407_6 : S := .ret (.lst [(.var 2), (.var 3)])
def f407 : Fn := ⟨6, 2, [], [f407_0, f407_1, f407_5, f407_6]⟩
/-! _law_turned: _law_rings 0, _law_mates 1, _law_place 2, _law_name 3, _law_k 4, _law_end 5, _law_label 6, _law_length 7, _law_step 8 -/
def f408_0 : S := .ret (.call 416 [none, none] [(.var 1), (.tup [(.var 3), (.prim .mod [(.prim .int [(.prim .add [(.idxV 5 (.cst (.int 1))), (.prim .mul [(.var 4), (.var 8)])])]), (.var 7)])])])
def f408_1 : S := .ite (.bool true [(.eqO false (.idxV 5 (.cst (.int 0))) (.var 3)), (.eqO false (.var 6) (.var 3))]) [f408_0] []
def f408_2 : S := .for_ (.tup [6, 7, 8]) .seq [(.var 0)] [f408_1] [6, 7, 8]
def f408_3 : S := .for_ (.one 5) .seq [(.lst [(.var 2), (.meth 76 [none, none] (.var 1) [(.var 2), (.var 2)])])] [f408_2] [5, 6, 7, 8]
def f408_4 : S := .ret (.call 416 [none, none] [(.var 1), (.var 2)])
def f408 : Fn := ⟨9, 5, [], [f408_3, f408_4]⟩
/-! _law_divisor: _law_first 0, _law_second 1 -/
def f410_0 : S := .par [0, 1] [(.var 1), (.prim .mod [(.prim .int [(.var 0)]), (.var 1)])]
def f410_1 : S := .whl (.eqO true (.var 1) (.cst (.int 0))) [f410_0] []
def f410_2 : S := .retV 0
def f410 : Fn := ⟨2, 2, [], [f410_1, f410_2]⟩
/-! _law_take: _law_pot 0, _law_size 1, _law_first 2, _law_second 3, _law_digit 4 -/
def f411_0 (c0 c1 c2 c3 c4 c5 c6 : Int) : S := .sub 0 (.cst (.int 1)) (.prim .add [(.idxV 0 (.cst (.int 1))), (.cst (.int 1))])
def f411_1 (c0 c1 c2 c3 c4 c5 c6 : Int) : S := .asg (.one 4) (.prim .mod [(.idxV 0 (.cst (.int 0))), (.var 1)])
def f411_2 (c0 c1 c2 c3 c4 c5 c6 : Int) : S := .sub 0 (.cst (.int 0)) (.prim .fdiv [(.idxV 0 (.cst (.int 0))), (.var 1)])
def f411_3 (c0 c1 c2 c3 c4 c5 c6 : Int) : S := .retV 4
def f411_4 (c0 c1 c2 c3 c4 c5 c6 : Int) : S := .ite (.prim .ge [(.idxV 0 (.cst (.int 0))), (.prim .pow [(.cst (.int 10)), (.cst (.int 18))])]) [(f411_1 c0 c1 c2 c3 c4 c5 c6), (f411_2 c0 c1 c2 c3 c4 c5 c6), (f411_3 c0 c1 c2 c3 c4 c5 c6)] []
def f411_5 (c0 c1 c2 c3 c4 c5 c6 : Int) : S := .asg (.one 2) (.prim .mod [(.prim .pow [(.prim .add [(.prim .add [(.prim .mul [(.idxV 0 (.cst (.int 0))), (.cst (.int c3))]), (.prim .mul [(.idxV 0 (.cst (.int 1))), (.cst (.int c4))])]), (.cst (.int c1))]), (.cst (.int 5))]), (.cst (.int 2147483647))])
def f411_6 (c0 c1 c2 c3 c4 c5 c6 : Int) : S := .asg (.one 3) (.prim .mod [(.prim .pow [(.prim .add [(.prim .add [(.prim .mul [(.var 2), (.cst (.int c5))]), (.prim .mul [(.idxV 0 (.cst (.int 1))), (.cst (.int c6))])]), (.cst (.int c2))]), (.cst (.int 5))]), (.cst (.int c0))])
def f411_7 (c0 c1 c2 c3 c4 c5 c6 : Int) : S := .ret (.prim .mod [(.var 3), (.var 1)])
def f411 (c0 c1 c2 c3 c4 c5 c6 : Int) : Fn := ⟨5, 2, [], [(f411_0 c0 c1 c2 c3 c4 c5 c6), (f411_4 c0 c1 c2 c3 c4 c5 c6), (f411_5 c0 c1 c2 c3 c4 c5 c6), (f411_6 c0 c1 c2 c3 c4 c5 c6), (f411_7 c0 c1 c2 c3 c4 c5 c6)]⟩
/-! _law_number: _law_pot 0, _law_size 1, _law_number_here 2, _law_k 3 -/
def f412_0 (c0 c1 : Int) : S := .asg (.one 2) (.cst (.int 0))
def f412_1 (c0 c1 : Int) : S := .asg (.one 2) (.prim .add [(.prim .mul [(.var 2), (.cst (.int c0))]), (.call 411 [some 0, none] [(.cst (.int c1))])])
def f412_2 (c0 c1 : Int) : S := .for_ (.one 3) .rng1 [(.cst (.int 4))] [(f412_1 c0 c1)] [3]
def f412_3 (c0 c1 : Int) : S := .ret (.prim .mod [(.var 2), (.var 1)])
def f412 (c0 c1 : Int) : Fn := ⟨4, 2, [], [(f412_0 c0 c1), (f412_2 c0 c1), (f412_3 c0 c1)]⟩
/-! _law_drawn_rings: _law_pot 0, _law_most 1, _law_tops 2, _law_rings 3, _law_start 4, _law_names 5, _law_k 6, _law_top 7, _law_length 8, _law_step 9 -/
def f413_0 : S := .asg (.one 3) (.lst [])
def f413_1 : S := .asg (.one 4) (.call 411 [some 0, none] [(.cst (.int 8))])
def f413_2 : S := .asg (.one 5) (.lst [(.cst (.str [97, 49])), (.cst (.str [97])), (.cst (.str [114, 105, 110, 103, 50])), (.cst (.str [97, 49, 48])), (.cst (.str [114, 105, 110, 103])), (.cst (.str [109, 101, 101, 116])), (.cst (.str [112, 113, 115, 117, 118, 119, 120, 121])), (.cst (.str [98, 54, 56]))])
def f413_3 : S := .asg (.one 7) (.idxV 2 (.call 411 [some 0, none] [(.prim .len [(.var 2)])]))
def f413_4 : S := .asg (.one 8) (.prim .add [(.prim .add [(.cst (.int 2)), (.call 412 [some 0, none] [(.prim .sub [(.var 7), (.cst (.int 1))])])]), (.prim .mul [(.prim .pow [(.cst (.int 10)), (.cst (.int 9))]), (.prim .int [(.prim .gt [(.var 7), (.prim .pow [(.cst (.int 10)), (.cst (.int 9))])])])])])
def f413_5 : S := .asg (.one 8) (.cst (.int 1))
def f413_6 : S := .ite (.eqO false (.call 411 [some 0, none] [(.cst (.int 12))]) (.cst (.int 0))) [f413_5] []
def f413_7 : S := .asg (.one 9) (.prim .idx [(.lst [(.cst (.int 1)), (.cst (.int 1)), (.var 8), (.prim .add [(.cst (.int 1)), (.call 412 [some 0, none] [(.var 8)])]), (.prim .add [(.cst (.int 1)), (.call 412 [some 0, none] [(.prim .mul [(.cst (.int 3)), (.var 8)])])])]), (.call 411 [some 0, none] [(.cst (.int 5))])])
def f413_8 : S := .app 3 (.tup [(.idxV 5 (.prim .mod [(.prim .add [(.var 4), (.var 6)]), (.cst (.int 8))])), (.var 8), (.var 9)])
def f413_9 : S := .for_ (.one 6) .rng1 [(.prim .add [(.cst (.int 1)), (.call 411 [some 0, none] [(.var 1)])])] [f413_3, f413_4, f413_6, f413_7, f413_8] [6, 7, 8, 9]
def f413_10 : S := .retV 3
def f413 : Fn := ⟨10, 3, [], [f413_0, f413_1, f413_2, f413_9, f413_10]⟩
/-! _law_drawn_meetings: _law_pot 0, _law_rings 1, _law_tries 2, _law_meetings 3, _law_taken 4, _law_k 5, _law_one 6, _law_two 7, _law_i 8, _law_j 9, _law_marks 10, _law_mark 11 -/
def f414_0 : S := .asg (.one 3) (.lst [])
def f414_1 : S := .asg (.one 4) (.lst [])
def f414_2 : S := .asg (.one 6) (.idxV 1 (.call 411 [some 0, none] [(.prim .len [(.var 1)])]))
def f414_3 : S := .asg (.one 7) (.idxV 1 (.call 411 [some 0, none] [(.prim .len [(.var 1)])]))
def f414_4 : S := .asg (.one 8) (.prim .idx [(.lst [(.prim .mod [(.call 411 [some 0, none] [(.cst (.int 3))]), (.idxV 6 (.cst (.int 1)))]), (.call 412 [some 0, none] [(.idxV 6 (.cst (.int 1)))])]), (.call 411 [some 0, none] [(.cst (.int 2))])])
def f414_5 : S := .asg (.one 9) (.prim .idx [(.lst [(.prim .mod [(.call 411 [some 0, none] [(.cst (.int 3))]), (.idxV 7 (.cst (.int 1)))]), (.call 412 [some 0, none] [(.idxV 7 (.cst (.int 1)))])]), (.call 411 [some 0, none] [(.cst (.int 2))])])
def f414_6 : S := .asg (.one 10) (.lst [(.tup [(.idxV 6 (.cst (.int 0))), (.var 8)]), (.tup [(.idxV 7 (.cst (.int 0))), (.var 9)]), (.tup [(.idxV 6 (.cst (.int 0))), (.idxV 7 (.cst (.int 0)))]), (.tup [(.idxV 7 (.cst (.int 0))), (.idxV 6 (.cst (.int 0)))])])
def f414_e0 : E := (.var 11)
def f414_7 : S := .app 3 (.tup [(.idxV 6 (.cst (.int 0))), (.var 8), (.idxV 7 (.cst (.int 0))), (.var 9)])
def f414_8 : S := .asg (.one 4) (.prim .add [(.var 4), (.var 10)])
def f414_9 : S := .ite (.bool true [(.eqO true (.idxV 6 (.cst (.int 0))) (.idxV 7 (.cst (.int 0)))), (.eqO false (.lc (.one 11) .seq [(.var 10)] [(.prim .inn [(.var 11), (.var 4)])] f414_e0 [11]) (.lst []))]) [f414_7, f414_8] []
def f414_10 : S := .for_ (.one 5) .rng1 [(.var 2)] [f414_2, f414_3, f414_4, f414_5, f414_6, f414_9] [5, 6, 7, 8, 9, 10]
def f414_11 : S := .retV 3
def f414 : Fn := ⟨12, 3, [], [f414_0, f414_1, f414_10, f414_11]⟩
/-! _law_mate_dict: _law_meetings 0, _law_mates 1, _law_name 2, _law_i 3, _law_other 4, _law_j 5 -/
def f415_0 : S := .asg (.one 1) .newT
def f415_1 : S := .sub 1 (.tup [(.var 2), (.var 3)]) (.tup [(.var 4), (.var 5)])
def f415_2 : S := .sub 1 (.tup [(.var 4), (.var 5)]) (.tup [(.var 2), (.var 3)])
def f415_3 : S := .for_ (.tup [2, 3, 4, 5]) .seq [(.var 0)] [f415_1, f415_2] [2, 3, 4, 5]
def f415_4 : S := .retV 1
def f415 : Fn := ⟨6, 1, [], [f415_0, f415_3, f415_4]⟩
/-! _law_named: _law_mates 0, _law_place 1 -/
def f416_0 : S := .ret (.prim .min [(.var 1), (.meth 76 [none, none] (.var 0) [(.var 1), (.var 1)])])
def f416 : Fn := ⟨2, 2, [], [f416_0]⟩
/-! _law_followed: _law_rings 0, _law_mates 1, _law_place 2, _law_moves 3, _law_here 4, _law_name 5, _law_k 6 -/
def f417_0 : S := .asg (.one 4) (.call 416 [none, none] [(.var 1), (.var 2)])
def f417_1 : S := .asg (.one 4) (.call 408 [none, none, none, none, none] [(.var 0), (.var 1), (.var 4), (.var 5), (.var 6)])
def f417_2 : S := .for_ (.tup [5, 6]) .seq [(.var 3)] [f417_1] [5, 6]
def f417_3 : S := .retV 4
def f417 : Fn := ⟨7, 4, [], [f417_0, f417_2, f417_3]⟩
/-! _law_drawn_moves: _law_pot 0, _law_rings 1, _law_most 2, _law_moves 3, _law_k 4, _law_ring 5, _law_far 6 -/
def f418_0 : S := .asg (.one 3) (.lst [])
def f418_1 : S := .asg (.one 5) (.idxV 1 (.call 411 [some 0, none] [(.prim .len [(.var 1)])]))
def f418_2 : S := .asg (.one 6) (.call 412 [some 0, none] [(.prim .add [(.prim .mul [(.cst (.int 3)), (.idxV 5 (.cst (.int 1)))]), (.cst (.int 2))])])
def f418_3 : S := .app 3 (.tup [(.idxV 5 (.cst (.int 0))), (.prim .idx [(.lst [(.cst (.int 1)), (.prim .neg [(.cst (.int 1))]), (.prim .sub [(.call 411 [some 0, none] [(.cst (.int 5))]), (.cst (.int 2))]), (.var 6), (.prim .neg [(.var 6)]), (.idxV 5 (.cst (.int 1)))]), (.call 411 [some 0, none] [(.cst (.int 6))])])])
def f418_4 : S := .for_ (.one 4) .rng1 [(.call 411 [some 0, none] [(.prim .add [(.var 2), (.cst (.int 1))])])] [f418_1, f418_2, f418_3] [4, 5, 6]
def f418_5 : S := .retV 3
def f418 : Fn := ⟨7, 3, [], [f418_0, f418_4, f418_5]⟩
/-! _law_back: _law_moves 0, _law_name 1, _law_k 2 -/
def f419_e0 : E := (.tup [(.var 1), (.prim .neg [(.var 2)])])
def f419_0 : S := .ret (.lc (.tup [1, 2]) .seq [(.prim .rev [(.var 0)])] [] f419_e0 [1, 2])
def f419 : Fn := ⟨3, 1, [], [f419_0]⟩
/-! _law_asked: _law_pot 0, _law_rings 1, _law_meetings 2, _law_places 3, _law_name 4, _law_length 5, _law_step 6, _law_i 7, _law_other 8, _law_j 9 -/
def f420_0 : S := .asg (.one 3) (.lst [])
def f420_e0 : E := (.tup [(.var 4), (.var 7)])
def f420_1 : S := .asg (.one 3) (.prim .add [(.var 3), (.lc (.one 7) .rng1 [(.prim .min [(.var 5), (.cst (.int 9))])] [] f420_e0 [7])])
def f420_2 : S := .asg (.one 3) (.prim .add [(.var 3), (.lst [(.tup [(.var 4), (.prim .sub [(.var 5), (.cst (.int 1))])]), (.tup [(.var 4), (.call 412 [some 0, none] [(.var 5)])])])])
def f420_3 : S := .for_ (.tup [4, 5, 6]) .seq [(.var 1)] [f420_1, f420_2] [4, 5, 6]
def f420_4 : S := .asg (.one 3) (.prim .add [(.var 3), (.lst [(.tup [(.var 4), (.var 7)]), (.tup [(.var 8), (.var 9)])])])
def f420_5 : S := .for_ (.tup [4, 7, 8, 9]) .seq [(.var 2)] [f420_4] [4, 7, 8, 9]
def f420_6 : S := .retV 3
def f420 : Fn := ⟨10, 3, [], [f420_0, f420_3, f420_5, f420_6]⟩
/-! _law_other_web: _law_pot 0, _law_rings 1, _law_meetings 2, _law_way 3, _law_at 4, _law_rest 5, _law_name 6, _law_length 7, _law_step 8, _law_far 9, _law_taken 10, _law_one 11, _law_i 12, _law_two 13, _law_j 14, _law_meet 15, _law_ring 16 -/
def f421_0 : S := .asg (.one 3) (.call 411 [some 0, none] [(.cst (.int 7))])
def f421_1 : S := .asg (.one 4) (.call 411 [some 0, none] [(.prim .len [(.var 1)])])
def f421_2 : S := .asg (.tup [6, 7, 8]) (.idxV 1 (.var 4))
def f421_3 : S := .asg (.one 5) (.prim .add [(.prim .sl01 [(.var 1), (.var 4)]), (.prim .sl10 [(.var 1), (.prim .add [(.var 4), (.cst (.int 1))])])])
def f421_4 : S := .ret (.tup [(.make 100 [(.prim .add [(.var 5), (.lst [(.tup [(.var 6), (.var 7), (.prim .add [(.prim .mod [(.prim .int [(.prim .add [(.var 8), (.cst (.int 1))])]), (.var 7)]), (.var 7)])])])]), (.var 2)]), (.prim .gt [(.var 7), (.cst (.int 1))])])
def f421_5 : S := .ite (.eqO false (.var 3) (.cst (.int 1))) [f421_4] []
def f421_6 : S := .ret (.tup [(.make 100 [(.prim .add [(.var 5), (.lst [(.tup [(.var 6), (.prim .add [(.var 7), (.cst (.int 1))]), (.var 8)])])]), (.var 2)]), (.cst (.bl true))])
def f421_7 : S := .ite (.eqO false (.var 3) (.cst (.int 2))) [f421_6] []
def f421_8 : S := .ret (.tup [(.make 100 [(.var 1), (.prim .sl10 [(.var 2), (.cst (.int 1))])]), (.cst (.bl true))])
def f421_9 : S := .ite (.bool true [(.eqO false (.var 3) (.cst (.int 3))), (.eqO true (.var 2) (.lst []))]) [f421_8] []
def f421_10 : S := .asg (.tup [11, 12, 13, 14]) (.idxV 2 (.cst (.int 0)))
def f421_e0 : E := (.idxV 16 (.cst (.int 1)))
def f421_11 : S := .asg (.one 9) (.prim .mod [(.prim .int [(.prim .add [(.var 14), (.cst (.int 1))])]), (.prim .idx [(.lc (.one 16) .seq [(.var 1)] [(.eqO false (.idxV 16 (.cst (.int 0))) (.var 13))] f421_e0 [16]), (.cst (.int 0))])])
def f421_e1 : E := (.prim .sl01 [(.var 15), (.cst (.int 2))])
def f421_e2 : E := (.prim .sl10 [(.var 15), (.cst (.int 2))])
def f421_12 : S := .asg (.one 10) (.prim .add [(.lc (.one 15) .seq [(.var 2)] [] f421_e1 [15]), (.lc (.one 15) .seq [(.var 2)] [] f421_e2 [15])])
def f421_13 : S := .ret (.tup [(.make 100 [(.var 1), (.prim .add [(.lst [(.tup [(.var 11), (.var 12), (.var 13), (.var 9)])]), (.prim .sl10 [(.var 2), (.cst (.int 1))])])]), (.cst (.bl true))])
def f421_14 : S := .ite (.prim .nin [(.tup [(.var 13), (.var 9)]), (.var 10)]) [f421_13] []
def f421_15 : S := .ite (.bool true [(.eqO false (.var 3) (.cst (.int 4))), (.eqO true (.var 2) (.lst []))]) [f421_10, f421_11, f421_12, f421_14] []
def f421_16 : S := .ret (.tup [(.make 100 [(.prim .add [(.var 1), (.lst [(.tup [(.cst (.str [111, 116, 104, 101, 114])), (.cst (.int 3)), (.cst (.int 1))])])]), (.var 2)]), (.cst (.bl true))])
def f421_17 : S := .ite (.eqO false (.var 3) (.cst (.int 5))) [f421_16] []
def f421_18 : S := .ret (.tup [(.make 100 [(.prim .rev [(.var 1)]), (.prim .rev [(.var 2)])]), (.cst (.bl false))])
def f421 : Fn := ⟨17, 3, [], [f421_0, f421_1, f421_2, f421_3, f421_5, f421_7, f421_9, f421_15, f421_17, f421_18]⟩
/-! _law_candidates: _law_rings 0, _law_meetings 1, _law_mates 2, _law_moves 3, _law_found 4, _law_k 5, _law_name 6, _law_i 7, _law_other 8, _law_j 9 -/
def f422_0 : S := .asg (.one 4) .newT
def f422_1 : S := .sub 4 (.call 417 [none, none, none, none] [(.var 0), (.var 2), (.tup [(.var 6), (.var 7)]), (.call 419 [none] [(.prim .sl01 [(.var 3), (.var 5)])])]) (.cst (.bl true))
def f422_2 : S := .for_ (.tup [6, 7, 8, 9]) .seq [(.var 1)] [f422_1] [6, 7, 8, 9]
def f422_3 : S := .for_ (.one 5) .rng1 [(.prim .add [(.prim .len [(.var 3)]), (.cst (.int 1))])] [f422_2] [5, 6, 7, 8, 9]
def f422_4 : S := .retV 4
def f422 : Fn := ⟨10, 4, [], [f422_0, f422_3, f422_4]⟩
/-! _law_sums: _law_rings 0, _law_moves 1, _law_shifts 2, _law_name 3, _law_length 4, _law_step 5, _law_label 6, _law_k 7 -/
def f423_0 : S := .asg (.one 2) .newT
def f423_e0 : E := (.var 7)
def f423_1 : S := .sub 2 (.var 3) (.prim .mod [(.prim .int [(.prim .mul [(.prim .sum [(.lc (.tup [6, 7]) .seq [(.var 1)] [(.eqO false (.var 6) (.var 3))] f423_e0 [6, 7])]), (.var 5)])]), (.var 4)])
def f423_2 : S := .for_ (.tup [3, 4, 5]) .seq [(.var 0)] [f423_1] [3, 4, 5]
def f423_3 : S := .retV 2
def f423 : Fn := ⟨8, 2, [], [f423_0, f423_2, f423_3]⟩
/-! _law_plain: _law_rings 0, _law_mates 1, _law_shifts 2, _law_spot 3, _law_name 4, _law_length 5, _law_step 6 -/
def f424_0 : S := .ret (.call 416 [none, none] [(.var 1), (.tup [(.var 4), (.prim .mod [(.prim .int [(.prim .add [(.idxV 3 (.cst (.int 1))), (.idxV 2 (.var 4))])]), (.var 5)])])])
def f424_1 : S := .ite (.eqO false (.idxV 3 (.cst (.int 0))) (.var 4)) [f424_0] []
def f424_2 : S := .for_ (.tup [4, 5, 6]) .seq [(.var 0)] [f424_1] [4, 5, 6]
def f424_3 : S := .retV 3
def f424 : Fn := ⟨7, 4, [], [f424_2, f424_3]⟩
/-! _law_strange: _law_rings 0, _law_meetings 1, _law_mates 2, _law_moves 3, _law_due 4, _law_shifts 5, _law_spot 6, _law_goal 7 -/
def f425_0 : S := .asg (.one 4) .newT
def f425_1 : S := .asg (.one 5) (.call 423 [none, none] [(.var 0), (.var 3)])
def f425_2 : S := .asg (.one 7) (.call 417 [none, none, none, none] [(.var 0), (.var 2), (.var 6), (.var 3)])
def f425_3 : S := .sub 4 (.var 6) (.var 7)
def f425_4 : S := .ite (.bool false [(.prim .inn [(.var 6), (.var 2)]), (.eqO true (.var 7) (.call 424 [none, none, none, none] [(.var 0), (.var 2), (.var 5), (.var 6)]))]) [f425_3] []
def f425_5 : S := .for_ (.one 6) .seq [(.call 422 [none, none, none, none] [(.var 0), (.var 1), (.var 2), (.var 3)])] [f425_2, f425_4] [6, 7]
def f425_6 : S := .retV 4
def f425 : Fn := ⟨8, 4, [], [f425_0, f425_1, f425_5, f425_6]⟩
/-! _law_common: _law_first 0, _law_second 1 -/
def f426_0 : S := .par [0, 1] [(.var 1), (.prim .mod [(.prim .int [(.var 0)]), (.var 1)])]
def f426_1 : S := .whl (.eqO true (.var 1) (.cst (.int 0))) [f426_0] []
def f426_2 : S := .retV 0
def f426 : Fn := ⟨2, 2, [], [f426_1, f426_2]⟩
/-! _law_even: _law_first 0, _law_second 1, _law_k 2 -/
def f427_e0 : E := (.prim .mul [(.idxV 0 (.var 2)), (.idxV 1 (.var 2))])
def f427_0 : S := .ret (.eqO false (.prim .mod [(.prim .sum [(.lc (.one 2) .rng1 [(.prim .len [(.var 0)])] [] f427_e0 [2])]), (.cst (.int 2))]) (.cst (.int 0)))
def f427 : Fn := ⟨3, 2, [], [f427_0]⟩
/-! _law_tracks: _law_rings 0, _law_mates 1, _law_place 2, _law_found 3, _law_end 4, _law_name 5, _law_length 6, _law_step 7, _law_common_here 8, _law_track 9 -/
def f428_0 : S := .asg (.one 3) (.lst [])
def f428_1 : S := .asg (.one 8) (.call 426 [none, none] [(.var 7), (.var 6)])
def f428_2 : S := .asg (.one 9) (.tup [(.var 5), (.prim .mod [(.prim .int [(.idxV 4 (.cst (.int 1)))]), (.var 8)])])
def f428_3 : S := .app 3 (.var 9)
def f428_4 : S := .ite (.borT (.bool true [(.eqO false (.idxV 4 (.cst (.int 0))) (.var 5)), (.prim .lt [(.var 8), (.var 6)]), (.prim .nin [(.var 9), (.var 3)])])) [f428_3] []
def f428_5 : S := .for_ (.tup [5, 6, 7]) .seq [(.var 0)] [f428_1, f428_2, f428_4] [5, 6, 7, 8, 9]
def f428_6 : S := .for_ (.one 4) .seq [(.lst [(.var 2), (.meth 76 [none, none] (.var 1) [(.var 2), (.var 2)])])] [f428_5] [4, 5, 6, 7, 8, 9]
def f428_7 : S := .retV 3
def f428 : Fn := ⟨10, 3, [], [f428_0, f428_6, f428_7]⟩
/-! _law_lots: _law_rings 0, _law_meetings 1, _law_mates 2, _law_groups 3, _law_name 4, _law_i 5, _law_other 6, _law_j 7, _law_both 8, _law_near 9, _law_lot 10 -/
def f429_0 : S := .asg (.one 3) (.lst [])
def f429_1 : S := .asg (.one 8) (.call 428 [none, none, none] [(.var 0), (.var 2), (.tup [(.var 4), (.var 5)])])
def f429_e0 : E := (.var 10)
def f429_2 : S := .asg (.one 9) (.lc (.one 10) .seq [(.var 3)] [(.bool false [(.prim .inn [(.idxV 8 (.cst (.int 0))), (.var 10)]), (.prim .inn [(.idxV 8 (.cst (.int 1))), (.var 10)])])] f429_e0 [10])
def f429_e1 : E := (.var 10)
def f429_3 : S := .asg (.one 3) (.prim .add [(.lc (.one 10) .seq [(.var 3)] [(.prim .nin [(.var 10), (.var 9)])] f429_e1 [10]), (.lst [(.prim .sum [(.var 9), (.var 8)])])])
def f429_4 : S := .ite (.eqO false (.prim .len [(.var 8)]) (.cst (.int 2))) [f429_2, f429_3] []
def f429_5 : S := .for_ (.tup [4, 5, 6, 7]) .seq [(.var 1)] [f429_1, f429_4] [4, 5, 6, 7, 8, 9]
def f429_6 : S := .retV 3
def f429 : Fn := ⟨11, 3, [], [f429_0, f429_5, f429_6]⟩
/-! _law_home: _law_rings 0, _law_groups 1, _law_mates 2, _law_place 3, _law_tracks_here 4, _law_k 5 -/
def f430_0 : S := .asg (.one 4) (.call 428 [none, none, none] [(.var 0), (.var 2), (.var 3)])
def f430_1 : S := .retV 5
def f430_2 : S := .ite (.bool true [(.eqO true (.var 4) (.lst [])), (.prim .inn [(.idxV 4 (.cst (.int 0))), (.idxV 1 (.var 5))])]) [f430_1] []
def f430_3 : S := .for_ (.one 5) .rng1 [(.prim .len [(.var 1)])] [f430_2] [5]
def f430_4 : S := .ret (.ifx (.eqO true (.var 4) (.lst [])) (.idxV 4 (.cst (.int 0))) (.cst .non))
def f430 : Fn := ⟨6, 4, [], [f430_0, f430_3, f430_4]⟩
/-! _law_outcome: _law_rings 0, _law_mates 1, _law_moves 2, _law_gone 3, _law_cells 4, _law_shared 5, _law_place 6, _law_found 7, _law_spot 8, _law_name 9, _law_length 10, _law_step 11, _law_k 12, _law_ends 13, _law_held 14, _law_end 15, _law_at 16, _law_ring 17 -/
def f431_0 : S := .asg (.one 3) .newT
def f431_1 : S := .asg (.one 4) .newT
def f431_2 : S := .asg (.one 5) .newT
def f431_3 : S := .sub 3 (.var 9) (.cst (.int 0))
def f431_4 : S := .sub 4 (.var 9) .newT
def f431_5 : S := .for_ (.tup [9, 10, 11]) .seq [(.var 0)] [f431_3, f431_4] [9, 10, 11]
def f431_6 : S := .sub 5 (.call 416 [none, none] [(.var 1), (.var 6)]) (.call 416 [none, none] [(.var 1), (.var 6)])
def f431_7 : S := .for_ (.one 6) .seq [(.var 1)] [f431_6] []
def f431_e0 : E := (.tup [(.idxV 17 (.cst (.int 1))), (.idxV 17 (.cst (.int 2)))])
def f431_8 : S := .asg (.tup [10, 11]) (.prim .idx [(.lc (.one 17) .seq [(.var 0)] [(.eqO false (.idxV 17 (.cst (.int 0))) (.var 9))] f431_e0 [17]), (.cst (.int 0))])
def f431_e1 : E := (.var 6)
def f431_9 : S := .asg (.one 13) (.lc (.one 6) .seq [(.var 1)] [(.eqO false (.idxV 6 (.cst (.int 0))) (.var 9))] f431_e1 [6])
def f431_10 : S := .asg (.one 14) (.idxV 4 (.var 9))
def f431_11 : S := .sub 14 (.prim .mod [(.prim .int [(.prim .sub [(.idxV 15 (.cst (.int 1))), (.idxV 3 (.var 9))])]), (.var 10)]) (.idxV 5 (.call 416 [none, none] [(.var 1), (.var 15)]))
def f431_12 : S := .for_ (.one 15) .seq [(.var 13)] [f431_11] [15]
def f431_13 : S := .sub 3 (.var 9) (.prim .mod [(.prim .int [(.prim .add [(.idxV 3 (.var 9)), (.prim .mul [(.var 12), (.var 11)])])]), (.var 10)])
def f431_14 : S := .asg (.one 16) (.prim .mod [(.prim .int [(.prim .sub [(.idxV 15 (.cst (.int 1))), (.idxV 3 (.var 9))])]), (.var 10)])
def f431_15 : S := .sub 5 (.call 416 [none, none] [(.var 1), (.var 15)]) (.meth 60 [none, none] (.var 14) [(.var 16), (.tup [(.var 9), (.var 16)])])
def f431_16 : S := .for_ (.one 15) .seq [(.var 13)] [f431_14, f431_15] [15, 16]
def f431_17 : S := .for_ (.tup [9, 12]) .seq [(.var 2)] [f431_8, f431_9, f431_10, f431_12, f431_13, f431_16] [9, 10, 11, 12, 13, 14, 15, 16]
def f431_18 : S := .asg (.one 7) .newT
def f431_19 : S := .sub 7 (.idxV 5 (.var 8)) (.var 8)
def f431_20 : S := .for_ (.one 8) .seq [(.var 5)] [f431_19] [8]
def f431_21 : S := .sub 7 (.prim .idx [(.idxV 4 (.var 9)), (.var 16)]) (.call 416 [none, none] [(.var 1), (.tup [(.var 9), (.prim .mod [(.prim .int [(.prim .add [(.var 16), (.idxV 3 (.var 9))])]), (.var 10)])])])
def f431_22 : S := .for_ (.one 16) .seq [(.idxV 4 (.var 9))] [f431_21] [16]
def f431_23 : S := .for_ (.tup [9, 10, 11]) .seq [(.var 0)] [f431_22] [9, 10, 11, 16]
def f431_24 : S := .ret (.tup [(.var 7), (.var 3)])
def f431 : Fn := ⟨18, 3, [], [f431_0, f431_1, f431_2, f431_5, f431_7, f431_17, f431_18, f431_20, f431_23, f431_24]⟩
end Mr.Q

/-! printed by gen.py. fields: rings 12, joints 13, lengths 14, steps 15, mates 16, check_name 17, rings_as_passed 21, meetings 28, names 22, step 27, spots 29; classes: Web 100; errors: RingError 0, InvalidRing 1, InvalidMeeting 2, UnknownRing 3, NameTaken 4, InvalidSpot 6, InvalidText 8 -/
-- f0 is_name: name 0, sign 1
-- f1 ring_fault: rings 0, names 1, index 2, ring 3, name 4, length 5, step 6
-- f2 meeting_fault: lengths 0, meetings 1, places 2, pairs 3, index 4, meeting 5, name 6, i 7, other 8, j 9
-- f3 in_order: meeting 0, name 1, i 2, other 3, j 4
-- f4 Web.__init__: self 0, rings 1, meetings 2, fault 3, lengths 4, ends 5, name 6, length 7, step 8, i 9, other 10, j 11, meeting 12, first 13, second 14
-- f5 Web.__eq__: self 0, other 1
-- f6 Web.__len__: self 0
-- f7 Web.__contains__: self 0, name 1
-- f8 Web.names: self 0, name 1, length 2, step 3
-- f9 Web.check_name: self 0, name 1
-- f11 Web.step: self 0, name 1
-- f12 Web.meetings: self 0
-- f13 Web.spots: self 0, name 1, length 2, step 3
-- f21 Web.rings_as_passed: self 0, name 1, length 2, step 3
-- f27 format_web: web 0, lines 1, name 2, length 3, step 4, i 5, other 6, j 7
-- f28 number_of: word 0
-- f29 ring_of: words 0, length 1, step 2
-- f30 meeting_of: words 0, i 1, j 2
-- f31 web_of: rings 0, meetings 1
-- f32 parse_web: text 0, rings 1, meetings 2, web 3, at 4, line 5, words 6, ring 7, meeting 8
-- f400 _law_cell: _law_script 0, _law_place 1
-- f401 _law_source: _law_cell_here 0
-- f402 _law_draw: _law_source_here 0, _law_limit 1, _law_digit 2
-- f403 _law_rings: _law_source_here 0, _law_most 1, _law_longest 2, _law_first 3, _law_rings_here 4, _law_k 5, _law_length 6, _law_step 7, _law_menu 8, _law_name 9
-- f404 _law_meetings: _law_source_here 0, _law_rings_here 1, _law_many 2, _law_meetings_here 3, _law_taken 4, _law_pairs 5, _law_k 6, _law_first 7, _law_second 8, _law_i 9, _law_j 10, _law_ends 11, _law_names 12
-- f539 _law_text: _law_rings_here 0, _law_meetings_here 1, _law_lines 2, _law_joint 3, _law_name 4, _law_length 5, _law_step 6, _law_rest 7, _law_ring 8, _law_one 9, _law_part 10
-- f540 law: _law_script 0, _law_source_here 1, _law_rings_here 2, _law_far 3, _law_other 4, _law_meetings_here 5, _law_web 6, _law_text_here 7, _law_turn 8, _law_again 9, _law_name 10
namespace Mr.K15
open PySem
/-- _law_text -/
def f539_0 : S := .asg (.one 2) (.lst [])
def f539_e0 : E := (.prim .tuple [(.var 8)])
def f539_1 : S := .asg (.one 7) (.prim .mod [(.var 6), (.var 5)])
def f539_2 : S := .app 2 (.prim .add [(.prim .add [(.prim .add [(.prim .add [(.prim .add [(.cst (.str [114, 105, 110, 103, 32])), (.var 4)]), (.cst (.str [32]))]), (.prim .str [(.var 5)])]), (.cst (.str [32]))]), (.prim .str [(.ifx (.prim .gt [(.var 7), (.cst (.int 0))]) (.var 7) (.var 5))])])
def f539_3 : S := .for_ (.tup [4, 5, 6]) .seq [(.prim .sorted [(.lc (.one 8) .seq [(.var 0)] [] f539_e0 [8])])] [f539_1, f539_2] [4, 5, 6, 7]
def f539_e1 : E := (.ifx (.prim .lt [(.idxV 9 (.cst (.int 0))), (.idxV 9 (.cst (.int 2)))]) (.var 9) (.prim .add [(.prim .sl10 [(.var 9), (.cst (.int 2))]), (.prim .sl01 [(.var 9), (.cst (.int 2))])]))
def f539_e2 : E := (.prim .str [(.var 10)])
def f539_4 : S := .app 2 (.prim .add [(.cst (.str [109, 101, 101, 116, 32])), (.tm .join (.cst (.str [32])) (.lc (.one 10) .seq [(.var 3)] [] f539_e2 [10]))])
def f539_5 : S := .for_ (.one 3) .seq [(.prim .sorted [(.lc (.one 9) .seq [(.var 1)] [] f539_e1 [9])])] [f539_4] [3]
def f539_6 : S := .ret (.bor (.tm .join (.cst (.str [10])) (.var 2)))
def f539 : Fn := ⟨11, 2, [], [f539_0, f539_3, f539_5, f539_6]⟩
/-- law -/
def f540_0 : S := .asg (.one 1) (.call 401 [none] [(.call 400 [none, none] [(.var 0), (.cst (.int 0))])])
def f540_1 : S := .asg (.one 2) (.call 403 [some 1, none, none] [(.cst (.int 6)), (.cst (.int 9))])
def f540_2 : S := .asg (.one 3) (.prim .mod [(.call 400 [none, none] [(.var 0), (.cst (.int 2))]), (.prim .pow [(.cst (.int 10)), (.cst (.int 31))])])
def f540_3 : S := .sub 2 (.cst (.int 0)) (.lst [(.prim .idx [(.idxV 2 (.cst (.int 0))), (.cst (.int 0))]), (.prim .add [(.cst (.int 9)), (.var 3)]), (.prim .add [(.cst (.int 1)), (.prim .mod [(.call 400 [none, none] [(.var 0), (.cst (.int 3))]), (.prim .pow [(.cst (.int 10)), (.cst (.int 31))])])])])
def f540_4 : S := .ite (.eqO false (.call 402 [some 1, none] [(.cst (.int 3))]) (.cst (.int 0))) [f540_3] []
def f540_5 : S := .asg (.one 4) (.call 401 [none] [(.call 400 [none, none] [(.var 0), (.cst (.int 1))])])
def f540_6 : S := .asg (.one 5) (.call 404 [some 4, none, none] [(.var 2), (.call 402 [some 4, none] [(.cst (.int 9))])])
def f540_7 : S := .asg (.one 6) (.make 100 [(.var 2), (.var 5)])
def f540_8 : S := .asg (.one 7) (.call 539 [none, none] [(.var 2), (.var 5)])
def f540_9 : S := .ret (.cst (.bl false))
def f540_10 : S := .ite (.eqO true (.call 27 [none] [(.var 6)]) (.var 7)) [f540_9] []
def f540_11 : S := .asg (.one 9) (.call 32 [none] [(.var 7)])
def f540_12 : S := .ret (.cst (.bl false))
def f540_13 : S := .ite (.bool false [(.not (.isi 100 (.var 9))), (.not (.eqO false (.var 9) (.var 6))), (.eqO true (.meth 28 [] (.var 9) []) (.meth 28 [] (.var 6) []))]) [f540_12] []
def f540_e0 : E := (.meth 27 [none] (.var 9) [(.var 10)])
def f540_e1 : E := (.meth 27 [none] (.var 6) [(.var 10)])
def f540_14 : S := .ret (.cst (.bl false))
def f540_15 : S := .ite (.eqO true (.lc (.one 10) .seq [(.meth 22 [] (.var 9) [])] [] f540_e0 [10]) (.lc (.one 10) .seq [(.meth 22 [] (.var 6) [])] [] f540_e1 [10])) [f540_14] []
def f540_16 : S := .for_ (.one 8) .rng1 [(.cst (.int 2))] [f540_10, f540_11, f540_13, f540_15] [8, 9]
def f540_17 : S := .ret (.eqO false (.attr 29 (.call 32 [none] [(.var 7)])) (.attrV 29 6))
def f540 : Fn := ⟨11, 1, [], [f540_0, f540_1, f540_2, f540_4, f540_5, f540_6, f540_7, f540_8, f540_16, f540_17]⟩
def fns : List (Nat × Fn) := [(0, Mr.P.f0), (1, Mr.P.f1), (2, Mr.P.f2), (3, Mr.P.f3), (4, Mr.P.f4), (5, Mr.P.f5), (6, Mr.P.f6), (7, Mr.P.f7), (8, Mr.P.f8), (9, Mr.P.f9), (11, Mr.P.f11), (12, Mr.P.f12), (13, Mr.P.f13), (21, Mr.P.f21), (27, Mr.P.f27), (28, Mr.P.f28), (29, Mr.P.f29), (30, Mr.P.f30), (31, Mr.P.f31), (32, Mr.P.f32), (400, Mr.Q.f400), (401, Mr.Q.f401 160481191 48271), (402, Mr.Q.f402 160481191 69621), (403, Mr.Q.f403), (404, Mr.Q.f404), (539, f539), (540, f540)]
def lay : Lay where
  cls := [(100, ⟨#[87, 101, 98]⟩)]
  fld := [(12, ⟨#[114, 105, 110, 103, 115]⟩), (13, ⟨#[106, 111, 105, 110, 116, 115]⟩), (14, ⟨#[108, 101, 110, 103, 116, 104, 115]⟩), (15, ⟨#[115, 116, 101, 112, 115]⟩), (16, ⟨#[109, 97, 116, 101, 115]⟩), (17, ⟨#[99, 104, 101, 99, 107, 95, 110, 97, 109, 101]⟩), (21, ⟨#[114, 105, 110, 103, 115, 95, 97, 115, 95, 112, 97, 115, 115, 101, 100]⟩), (28, ⟨#[109, 101, 101, 116, 105, 110, 103, 115]⟩), (22, ⟨#[110, 97, 109, 101, 115]⟩), (27, ⟨#[115, 116, 101, 112]⟩), (29, ⟨#[115, 112, 111, 116, 115]⟩)]
  fns := [(0, ⟨#[105, 115, 95, 110, 97, 109, 101]⟩, none, false, [⟨#[110, 97, 109, 101]⟩, ⟨#[115, 105, 103, 110]⟩]),
    (1, ⟨#[114, 105, 110, 103, 95, 102, 97, 117, 108, 116]⟩, none, false, [⟨#[114, 105, 110, 103, 115]⟩, ⟨#[110, 97, 109, 101, 115]⟩, ⟨#[105, 110, 100, 101, 120]⟩, ⟨#[114, 105, 110, 103]⟩, ⟨#[110, 97, 109, 101]⟩, ⟨#[108, 101, 110, 103, 116, 104]⟩, ⟨#[115, 116, 101, 112]⟩]),
    (2, ⟨#[109, 101, 101, 116, 105, 110, 103, 95, 102, 97, 117, 108, 116]⟩, none, false, [⟨#[108, 101, 110, 103, 116, 104, 115]⟩, ⟨#[109, 101, 101, 116, 105, 110, 103, 115]⟩, ⟨#[112, 108, 97, 99, 101, 115]⟩, ⟨#[112, 97, 105, 114, 115]⟩, ⟨#[105, 110, 100, 101, 120]⟩, ⟨#[109, 101, 101, 116, 105, 110, 103]⟩, ⟨#[110, 97, 109, 101]⟩, ⟨#[105]⟩, ⟨#[111, 116, 104, 101, 114]⟩, ⟨#[106]⟩]),
    (3, ⟨#[105, 110, 95, 111, 114, 100, 101, 114]⟩, none, false, [⟨#[109, 101, 101, 116, 105, 110, 103]⟩, ⟨#[110, 97, 109, 101]⟩, ⟨#[105]⟩, ⟨#[111, 116, 104, 101, 114]⟩, ⟨#[106]⟩]),
    (4, ⟨#[87, 101, 98]⟩, some ⟨#[95, 95, 105, 110, 105, 116, 95, 95]⟩, false, [⟨#[115, 101, 108, 102]⟩, ⟨#[114, 105, 110, 103, 115]⟩, ⟨#[109, 101, 101, 116, 105, 110, 103, 115]⟩, ⟨#[102, 97, 117, 108, 116]⟩, ⟨#[108, 101, 110, 103, 116, 104, 115]⟩, ⟨#[101, 110, 100, 115]⟩, ⟨#[110, 97, 109, 101]⟩, ⟨#[108, 101, 110, 103, 116, 104]⟩, ⟨#[115, 116, 101, 112]⟩, ⟨#[105]⟩, ⟨#[111, 116, 104, 101, 114]⟩, ⟨#[106]⟩, ⟨#[109, 101, 101, 116, 105, 110, 103]⟩, ⟨#[102, 105, 114, 115, 116]⟩, ⟨#[115, 101, 99, 111, 110, 100]⟩]),
    (5, ⟨#[87, 101, 98]⟩, some ⟨#[95, 95, 101, 113, 95, 95]⟩, false, [⟨#[115, 101, 108, 102]⟩, ⟨#[111, 116, 104, 101, 114]⟩]),
    (6, ⟨#[87, 101, 98]⟩, some ⟨#[95, 95, 108, 101, 110, 95, 95]⟩, false, [⟨#[115, 101, 108, 102]⟩]),
    (7, ⟨#[87, 101, 98]⟩, some ⟨#[95, 95, 99, 111, 110, 116, 97, 105, 110, 115, 95, 95]⟩, false, [⟨#[115, 101, 108, 102]⟩, ⟨#[110, 97, 109, 101]⟩]),
    (8, ⟨#[87, 101, 98]⟩, some ⟨#[110, 97, 109, 101, 115]⟩, false, [⟨#[115, 101, 108, 102]⟩, ⟨#[110, 97, 109, 101]⟩, ⟨#[108, 101, 110, 103, 116, 104]⟩, ⟨#[115, 116, 101, 112]⟩]),
    (9, ⟨#[87, 101, 98]⟩, some ⟨#[99, 104, 101, 99, 107, 95, 110, 97, 109, 101]⟩, false, [⟨#[115, 101, 108, 102]⟩, ⟨#[110, 97, 109, 101]⟩]),
    (11, ⟨#[87, 101, 98]⟩, some ⟨#[115, 116, 101, 112]⟩, false, [⟨#[115, 101, 108, 102]⟩, ⟨#[110, 97, 109, 101]⟩]),
    (12, ⟨#[87, 101, 98]⟩, some ⟨#[109, 101, 101, 116, 105, 110, 103, 115]⟩, false, [⟨#[115, 101, 108, 102]⟩]),
    (13, ⟨#[87, 101, 98]⟩, some ⟨#[115, 112, 111, 116, 115]⟩, true, [⟨#[115, 101, 108, 102]⟩, ⟨#[110, 97, 109, 101]⟩, ⟨#[108, 101, 110, 103, 116, 104]⟩, ⟨#[115, 116, 101, 112]⟩]),
    (21, ⟨#[87, 101, 98]⟩, some ⟨#[114, 105, 110, 103, 115, 95, 97, 115, 95, 112, 97, 115, 115, 101, 100]⟩, false, [⟨#[115, 101, 108, 102]⟩, ⟨#[110, 97, 109, 101]⟩, ⟨#[108, 101, 110, 103, 116, 104]⟩, ⟨#[115, 116, 101, 112]⟩]),
    (27, ⟨#[102, 111, 114, 109, 97, 116, 95, 119, 101, 98]⟩, none, false, [⟨#[119, 101, 98]⟩, ⟨#[108, 105, 110, 101, 115]⟩, ⟨#[110, 97, 109, 101]⟩, ⟨#[108, 101, 110, 103, 116, 104]⟩, ⟨#[115, 116, 101, 112]⟩, ⟨#[105]⟩, ⟨#[111, 116, 104, 101, 114]⟩, ⟨#[106]⟩]),
    (28, ⟨#[110, 117, 109, 98, 101, 114, 95, 111, 102]⟩, none, false, [⟨#[119, 111, 114, 100]⟩]),
    (29, ⟨#[114, 105, 110, 103, 95, 111, 102]⟩, none, false, [⟨#[119, 111, 114, 100, 115]⟩, ⟨#[108, 101, 110, 103, 116, 104]⟩, ⟨#[115, 116, 101, 112]⟩]),
    (30, ⟨#[109, 101, 101, 116, 105, 110, 103, 95, 111, 102]⟩, none, false, [⟨#[119, 111, 114, 100, 115]⟩, ⟨#[105]⟩, ⟨#[106]⟩]),
    (31, ⟨#[119, 101, 98, 95, 111, 102]⟩, none, false, [⟨#[114, 105, 110, 103, 115]⟩, ⟨#[109, 101, 101, 116, 105, 110, 103, 115]⟩]),
    (32, ⟨#[112, 97, 114, 115, 101, 95, 119, 101, 98]⟩, none, false, [⟨#[116, 101, 120, 116]⟩, ⟨#[114, 105, 110, 103, 115]⟩, ⟨#[109, 101, 101, 116, 105, 110, 103, 115]⟩, ⟨#[119, 101, 98]⟩, ⟨#[97, 116]⟩, ⟨#[108, 105, 110, 101]⟩, ⟨#[119, 111, 114, 100, 115]⟩, ⟨#[114, 105, 110, 103]⟩, ⟨#[109, 101, 101, 116, 105, 110, 103]⟩]),
    (400, ⟨#[95, 108, 97, 119, 95, 99, 101, 108, 108]⟩, none, false, [⟨#[95, 108, 97, 119, 95, 115, 99, 114, 105, 112, 116]⟩, ⟨#[95, 108, 97, 119, 95, 112, 108, 97, 99, 101]⟩]),
    (401, ⟨#[95, 108, 97, 119, 95, 115, 111, 117, 114, 99, 101]⟩, none, false, [⟨#[95, 108, 97, 119, 95, 99, 101, 108, 108, 95, 104, 101, 114, 101]⟩]),
    (402, ⟨#[95, 108, 97, 119, 95, 100, 114, 97, 119]⟩, none, false, [⟨#[95, 108, 97, 119, 95, 115, 111, 117, 114, 99, 101, 95, 104, 101, 114, 101]⟩, ⟨#[95, 108, 97, 119, 95, 108, 105, 109, 105, 116]⟩, ⟨#[95, 108, 97, 119, 95, 100, 105, 103, 105, 116]⟩]),
    (403, ⟨#[95, 108, 97, 119, 95, 114, 105, 110, 103, 115]⟩, none, false, [⟨#[95, 108, 97, 119, 95, 115, 111, 117, 114, 99, 101, 95, 104, 101, 114, 101]⟩, ⟨#[95, 108, 97, 119, 95, 109, 111, 115, 116]⟩, ⟨#[95, 108, 97, 119, 95, 108, 111, 110, 103, 101, 115, 116]⟩, ⟨#[95, 108, 97, 119, 95, 102, 105, 114, 115, 116]⟩, ⟨#[95, 108, 97, 119, 95, 114, 105, 110, 103, 115, 95, 104, 101, 114, 101]⟩, ⟨#[95, 108, 97, 119, 95, 107]⟩, ⟨#[95, 108, 97, 119, 95, 108, 101, 110, 103, 116, 104]⟩, ⟨#[95, 108, 97, 119, 95, 115, 116, 101, 112]⟩, ⟨#[95, 108, 97, 119, 95, 109, 101, 110, 117]⟩, ⟨#[95, 108, 97, 119, 95, 110, 97, 109, 101]⟩]),
    (404, ⟨#[95, 108, 97, 119, 95, 109, 101, 101, 116, 105, 110, 103, 115]⟩, none, false, [⟨#[95, 108, 97, 119, 95, 115, 111, 117, 114, 99, 101, 95, 104, 101, 114, 101]⟩, ⟨#[95, 108, 97, 119, 95, 114, 105, 110, 103, 115, 95, 104, 101, 114, 101]⟩, ⟨#[95, 108, 97, 119, 95, 109, 97, 110, 121]⟩, ⟨#[95, 108, 97, 119, 95, 109, 101, 101, 116, 105, 110, 103, 115, 95, 104, 101, 114, 101]⟩, ⟨#[95, 108, 97, 119, 95, 116, 97, 107, 101, 110]⟩, ⟨#[95, 108, 97, 119, 95, 112, 97, 105, 114, 115]⟩, ⟨#[95, 108, 97, 119, 95, 107]⟩, ⟨#[95, 108, 97, 119, 95, 102, 105, 114, 115, 116]⟩, ⟨#[95, 108, 97, 119, 95, 115, 101, 99, 111, 110, 100]⟩, ⟨#[95, 108, 97, 119, 95, 105]⟩, ⟨#[95, 108, 97, 119, 95, 106]⟩, ⟨#[95, 108, 97, 119, 95, 101, 110, 100, 115]⟩, ⟨#[95, 108, 97, 119, 95, 110, 97, 109, 101, 115]⟩]),
    (539, ⟨#[95, 108, 97, 119, 95, 116, 101, 120, 116]⟩, none, false, [⟨#[95, 108, 97, 119, 95, 114, 105, 110, 103, 115, 95, 104, 101, 114, 101]⟩, ⟨#[95, 108, 97, 119, 95, 109, 101, 101, 116, 105, 110, 103, 115, 95, 104, 101, 114, 101]⟩, ⟨#[95, 108, 97, 119, 95, 108, 105, 110, 101, 115]⟩, ⟨#[95, 108, 97, 119, 95, 106, 111, 105, 110, 116]⟩, ⟨#[95, 108, 97, 119, 95, 110, 97, 109, 101]⟩, ⟨#[95, 108, 97, 119, 95, 108, 101, 110, 103, 116, 104]⟩, ⟨#[95, 108, 97, 119, 95, 115, 116, 101, 112]⟩, ⟨#[95, 108, 97, 119, 95, 114, 101, 115, 116]⟩, ⟨#[95, 108, 97, 119, 95, 114, 105, 110, 103]⟩, ⟨#[95, 108, 97, 119, 95, 111, 110, 101]⟩, ⟨#[95, 108, 97, 119, 95, 112, 97, 114, 116]⟩]),
    (540, ⟨#[108, 97, 119]⟩, none, false, [⟨#[95, 108, 97, 119, 95, 115, 99, 114, 105, 112, 116]⟩, ⟨#[95, 108, 97, 119, 95, 115, 111, 117, 114, 99, 101, 95, 104, 101, 114, 101]⟩, ⟨#[95, 108, 97, 119, 95, 114, 105, 110, 103, 115, 95, 104, 101, 114, 101]⟩, ⟨#[95, 108, 97, 119, 95, 102, 97, 114]⟩, ⟨#[95, 108, 97, 119, 95, 111, 116, 104, 101, 114]⟩, ⟨#[95, 108, 97, 119, 95, 109, 101, 101, 116, 105, 110, 103, 115, 95, 104, 101, 114, 101]⟩, ⟨#[95, 108, 97, 119, 95, 119, 101, 98]⟩, ⟨#[95, 108, 97, 119, 95, 116, 101, 120, 116, 95, 104, 101, 114, 101]⟩, ⟨#[95, 108, 97, 119, 95, 116, 117, 114, 110]⟩, ⟨#[95, 108, 97, 119, 95, 97, 103, 97, 105, 110]⟩, ⟨#[95, 108, 97, 119, 95, 110, 97, 109, 101]⟩])]
  gt := [(⟨#[108, 97, 119]⟩, .fn 540), (⟨#[97, 108, 108]⟩, .blt), (⟨#[83, 77, 65, 76, 76]⟩, .cst (.str [97, 98, 99, 100, 101, 102, 103, 104, 105, 106, 107, 108, 109, 110, 111, 112, 113, 114, 115, 116, 117, 118, 119, 120, 121, 122])), (⟨#[76, 79, 78, 71, 69, 83, 84, 95, 78, 65, 77, 69]⟩, .cst (.int 8)), (⟨#[108, 101, 110]⟩, .blt), (⟨#[70, 73, 71, 85, 82, 69, 83]⟩, .cst (.str [48, 49, 50, 51, 52, 53, 54, 55, 56, 57])), (⟨#[101, 110, 117, 109, 101, 114, 97, 116, 101]⟩, .blt), (⟨#[77, 79, 83, 84, 95, 82, 73, 78, 71, 83]⟩, .cst (.int 12)), (⟨#[105, 115, 95, 110, 97, 109, 101]⟩, .fn 0), (⟨#[114, 105, 110, 103, 95, 102, 97, 117, 108, 116]⟩, .fn 1), (⟨#[109, 101, 101, 116, 105, 110, 103, 95, 102, 97, 117, 108, 116]⟩, .fn 2), (⟨#[116, 117, 112, 108, 101]⟩, .blt), (⟨#[100, 105, 99, 116]⟩, .blt), (⟨#[73, 110, 118, 97, 108, 105, 100, 82, 105, 110, 103]⟩, .err), (⟨#[73, 110, 118, 97, 108, 105, 100, 77, 101, 101, 116, 105, 110, 103]⟩, .err), (⟨#[115, 111, 114, 116, 101, 100]⟩, .blt), (⟨#[105, 110, 95, 111, 114, 100, 101, 114]⟩, .fn 3), (⟨#[105, 115, 105, 110, 115, 116, 97, 110, 99, 101]⟩, .blt), (⟨#[87, 101, 98]⟩, .cls 100), (⟨#[85, 110, 107, 110, 111, 119, 110, 82, 105, 110, 103]⟩, .err), (⟨#[108, 105, 115, 116]⟩, .blt), (⟨#[112, 114, 111, 112, 101, 114, 116, 121]⟩, .blt), (⟨#[115, 117, 109]⟩, .blt), (⟨#[105, 110, 116]⟩, .blt), (⟨#[76, 79, 78, 71, 69, 83, 84, 95, 78, 85, 77, 66, 69, 82]⟩, .cst (.int 1000)), (⟨#[110, 117, 109, 98, 101, 114, 95, 111, 102]⟩, .fn 28), (⟨#[82, 105, 110, 103, 69, 114, 114, 111, 114]⟩, .err), (⟨#[119, 101, 98, 95, 111, 102]⟩, .fn 31), (⟨#[114, 105, 110, 103, 95, 111, 102]⟩, .fn 29), (⟨#[109, 101, 101, 116, 105, 110, 103, 95, 111, 102]⟩, .fn 30), (⟨#[73, 110, 118, 97, 108, 105, 100, 84, 101, 120, 116]⟩, .err), (⟨#[102, 111, 114, 109, 97, 116, 95, 119, 101, 98]⟩, .fn 27), (⟨#[95, 108, 97, 119, 95, 100, 114, 97, 119]⟩, .fn 402), (⟨#[114, 97, 110, 103, 101]⟩, .blt), (⟨#[115, 116, 114]⟩, .blt), (⟨#[95, 108, 97, 119, 95, 115, 111, 117, 114, 99, 101]⟩, .fn 401), (⟨#[95, 108, 97, 119, 95, 114, 105, 110, 103, 115]⟩, .fn 403), (⟨#[95, 108, 97, 119, 95, 109, 101, 101, 116, 105, 110, 103, 115]⟩, .fn 404), (⟨#[95, 108, 97, 119, 95, 116, 101, 120, 116]⟩, .fn 539), (⟨#[95, 108, 97, 119, 95, 99, 101, 108, 108]⟩, .fn 400), (⟨#[112, 97, 114, 115, 101, 95, 119, 101, 98]⟩, .fn 32)]
  meth := [(100, 22, 8), (100, 17, 9), (100, 27, 11), (100, 28, 12), (100, 21, 21)]
  prop := [(100, 29, 13)]
  init := [(100, 4)]
  eqm := [(100, 5)]
  fds := [(100, [12, 13, 14, 15, 16])]
def loose : List Str := [⟨#[95, 119, 97, 108, 108]⟩, ⟨#[82, 105, 110, 103, 69, 114, 114, 111, 114]⟩, ⟨#[73, 110, 118, 97, 108, 105, 100, 82, 105, 110, 103]⟩, ⟨#[73, 110, 118, 97, 108, 105, 100, 77, 101, 101, 116, 105, 110, 103]⟩, ⟨#[85, 110, 107, 110, 111, 119, 110, 82, 105, 110, 103]⟩, ⟨#[78, 97, 109, 101, 84, 97, 107, 101, 110]⟩, ⟨#[73, 110, 118, 97, 108, 105, 100, 83, 112, 111, 116]⟩, ⟨#[73, 110, 118, 97, 108, 105, 100, 84, 101, 120, 116]⟩, ⟨#[105, 115, 95, 110, 97, 109, 101]⟩, ⟨#[114, 105, 110, 103, 95, 102, 97, 117, 108, 116]⟩, ⟨#[109, 101, 101, 116, 105, 110, 103, 95, 102, 97, 117, 108, 116]⟩, ⟨#[105, 110, 95, 111, 114, 100, 101, 114]⟩, ⟨#[87, 101, 98]⟩, ⟨#[102, 111, 114, 109, 97, 116, 95, 119, 101, 98]⟩, ⟨#[110, 117, 109, 98, 101, 114, 95, 111, 102]⟩, ⟨#[114, 105, 110, 103, 95, 111, 102]⟩, ⟨#[109, 101, 101, 116, 105, 110, 103, 95, 111, 102]⟩, ⟨#[119, 101, 98, 95, 111, 102]⟩, ⟨#[112, 97, 114, 115, 101, 95, 119, 101, 98]⟩, ⟨#[95, 108, 97, 119, 95, 99, 101, 108, 108]⟩, ⟨#[95, 108, 97, 119, 95, 115, 111, 117, 114, 99, 101]⟩, ⟨#[95, 108, 97, 119, 95, 100, 114, 97, 119]⟩, ⟨#[95, 108, 97, 119, 95, 114, 105, 110, 103, 115]⟩, ⟨#[95, 108, 97, 119, 95, 109, 101, 101, 116, 105, 110, 103, 115]⟩, ⟨#[95, 108, 97, 119, 95, 116, 101, 120, 116]⟩, ⟨#[77, 79, 83, 84, 95, 82, 73, 78, 71, 83]⟩, ⟨#[76, 79, 78, 71, 69, 83, 84, 95, 78, 65, 77, 69]⟩, ⟨#[83, 77, 65, 76, 76]⟩, ⟨#[70, 73, 71, 85, 82, 69, 83]⟩, ⟨#[76, 79, 78, 71, 69, 83, 84, 95, 78, 85, 77, 66, 69, 82]⟩]
end Mr.K15

namespace Mr.K15
open PySem
abbrev R : PySem.W.OpenRow := PySem.W.OpenLaw.row PySem.Challenge.rw_meetrings_k15_texts_there_and_back
def xs : Str := ⟨#[95, 108, 97, 119, 95, 115, 99, 114, 105, 112, 116]⟩
abbrev hk : PySem.W.Hook := hookL 6 lay fns xs 540
def ob (s : PySem.W.SharedT) : Bool := rowLG 6 lay fns xs 540 (HandSHeadRun.getT s)
theorem ob_eq (s : PySem.W.SharedT) : ob s = hk.obs s.abs := rowLG_eq (HandSHeadRun.getT_eq s)
theorem run (w : World) : HandSHeadRun.RunEq R (PySem.W.view R.prog [34]) hk ob 9000 loose w := by
  intro os
  kernel_rfl
end Mr.K15

/-! Running the small language by simp: a step fires only where the names are written out. -/
namespace Mr
section
variable {T : Tb} {s : Sl} {ρ ρ' : Rho} {es : List E} {e a b c : E} {p q : Pr} {i j f m : Nat} {d x y : D} {ms : List (Option Nat)} {fuel : Nat} {pn tmp : List Nat} {α β : Type}
@[simp] theorem bind_okz {v : α} {k : α → R β} : R.bind (.ok v) k = k v := rfl
@[simp] theorem bind_exc {t : Nat} {fs : List Nat} {vs : List D} {k : α → R β} : R.bind (.exc t fs vs) k = .exc t fs vs := rfl
@[simp] theorem of_okz {v : α} {k : α → Out} : Out.of (.ok v) k = k v := rfl
@[simp] theorem of_exc {t : Nat} {fs : List Nat} {vs : List D} {k : α → Out} : Out.of (.exc t fs vs) k = .exc t fs vs := rfl
@[simp] theorem toD_val : toD (.ok (.val d, ρ)) = .ok (d, ρ) := rfl
@[simp] theorem toD_own : toD (.ok (.own d, ρ)) = .ok (d, ρ) := rfl
@[simp] theorem toD_exc {t : Nat} {fs : List Nat} {vs : List D} : toD (.exc t fs vs) = .exc t fs vs := rfl
@[simp] theorem toT_val : toT (.ok (.val d, ρ)) = (match truth d with | some t => .ok (t, ρ) | none => .stk) := rfl
@[simp] theorem toT_own : toT (.ok (.own d, ρ)) = (match truth d with | some t => .ok (t, ρ) | none => .stk) := rfl
@[simp] theorem slR_val : slR (.val d) ρ = .ok (.val d, ρ) := rfl
@[simp] theorem slR_own : slR (.own d) ρ = .ok (.own d, ρ) := rfl
@[simp] theorem truth_non : truth .non = some false := rfl
@[simp] theorem truth_bl {t : Bool} : truth (.bl t) = some t := rfl
@[simp] theorem truth_int {n : Int} : truth (.int n) = some (n != 0) := rfl
@[simp] theorem truth_tup {l : List D} : truth (.tup l) = some (!l.isEmpty) := rfl
@[simp] theorem truth_lst {l : List D} : truth (.lst l) = some (!l.isEmpty) := rfl
theorem truth_str {z : Tx} (h : z.length ≤ big) : truth (.str z) = some (!z.isEmpty) := if_pos h
@[simp] theorem ifB_t {t : Bool} (h : t = true) : ifB t s = s := by rw [h]; rfl
@[simp] theorem oV_some : oV (some d) = .val d := rfl
@[simp] theorem oB_some {t : Bool} : oB (some t) = .val (.bl t) := rfl
@[simp] theorem fz_val : Sl.fz (.val d) = .val d := rfl
@[simp] theorem fz_own : Sl.fz (.own d) = .val d := rfl
@[simp] theorem fz_no : Sl.fz .no = .no := rfl
@[simp] theorem fzAll_nil : fzAll [] = [] := rfl
@[simp] theorem fzAll_cons : fzAll (s :: ρ) = s.fz :: fzAll ρ := rfl
/-! ### expressions -/
@[simp] theorem ev_var : evalE T (.var i) (s :: ρ) = (match (s :: ρ)[i]? with | some (.val d) => .ok (.val d, s :: ρ) | some (.own d) => .ok (.val d, (s :: ρ).set i (.val d)) | _ => .stk) := rfl
@[simp] theorem ev_cst : evalE T (.cst d) ρ = .ok (.val d, ρ) := rfl
@[simp] theorem ev_gl : evalE T (.gl i d) ρ = .ok (.val d, ρ) := rfl
@[simp] theorem ev_prim : evalE T (.prim p es) (s :: ρ) = (evalDs T es (s :: ρ)).bind fun x => slR (pr p x.1) x.2 := rfl
@[simp] theorem ev_idxV : evalE T (.idxV i b) (s :: ρ) = if known (s :: ρ) i then (toD (evalE T b (s :: ρ))).bind fun x => (match x.2[i]? with | some (.own d) => slR (oV (idxD d x.1)) x.2 | some (.val d) => slR (oV (idxD d x.1)) x.2 | _ => .stk) else .stk := rfl
@[simp] theorem ev_tup : evalE T (.tup es) (s :: ρ) = (evalDs T es (s :: ρ)).bind fun x => .ok (.val (.tup x.1), x.2) := rfl
@[simp] theorem ev_lst : evalE T (.lst es) (s :: ρ) = (evalDs T es (s :: ρ)).bind fun x => .ok (.own (.lst x.1), x.2) := rfl
@[simp] theorem ev_lstS : evalE T (.lstS a es) (s :: ρ) = (toD (evalE T a (s :: ρ))).bind fun x => (match seqL x.1 with | some l => (evalDs T es x.2).bind fun y => if l.length + y.1.length ≤ big then .ok (.own (.lst (l ++ y.1)), y.2) else .stk | none => .stk) := rfl
@[simp] theorem seqL_lst {l : List D} : seqL (.lst l) = some l := rfl
@[simp] theorem seqL_tup {l : List D} : seqL (.tup l) = some l := rfl
@[simp] theorem ev_newK : evalE T .newK (s :: ρ) = .ok (.own (.dk [] []), s :: ρ) := rfl
@[simp] theorem ev_newT : evalE T .newT (s :: ρ) = .ok (.own (.dt [] []), s :: ρ) := rfl
@[simp] theorem ev_bool {t : Bool} : evalE T (.bool t es) (s :: ρ) = evalB T t es (s :: ρ) := rfl
@[simp] theorem evB_one {t : Bool} : evalB T t [e] (s :: ρ) = evalE T e (s :: ρ) := rfl
/-- and, or: b the truth so far -/
def scK (t : Bool) (b : Option Bool) (k : R (Sl × Rho)) (d : D) (ρ : Rho) : R (Sl × Rho) := match b with
  | some b => if b == t then k else .ok (.val d, ρ)
  | none => .stk
@[simp] theorem evB_cons {t : Bool} {e2 : E} : evalB T t (e :: e2 :: es) (s :: ρ) = (toD (evalE T e (s :: ρ))).bind fun x => scK t (truth x.1) (evalB T t (e2 :: es) x.2) x.1 x.2 := rfl
@[simp] theorem scK_or {b c : Bool} : scK false (some b) (.ok (.val (.bl c), ρ)) (.bl b) ρ = .ok (.val (.bl (b || c)), ρ) := by cases b <;> rfl
@[simp] theorem scK_and {b c : Bool} : scK true (some b) (.ok (.val (.bl c), ρ)) (.bl b) ρ = .ok (.val (.bl (b && c)), ρ) := by cases b <;> rfl
@[simp] theorem scK_tt {k : R (Sl × Rho)} : scK true (some true) k d ρ = k := rfl
@[simp] theorem scK_ff {k : R (Sl × Rho)} : scK false (some false) k d ρ = k := rfl
@[simp] theorem scK_tf {k : R (Sl × Rho)} : scK true (some false) k d ρ = .ok (.val d, ρ) := rfl
@[simp] theorem scK_ft {k : R (Sl × Rho)} : scK false (some true) k d ρ = .ok (.val d, ρ) := rfl
@[simp] theorem ev_not : evalE T (.not e) (s :: ρ) = (toT (evalE T e (s :: ρ))).bind fun x => .ok (.val (.bl !x.1), x.2) := rfl
@[simp] theorem ev_ifx : evalE T (.ifx c a b) (s :: ρ) = (toT (evalE T c (s :: ρ))).bind fun x => if x.1 then evalE T a x.2 else evalE T b x.2 := rfl
def chn (u : Sl) (k : R (Sl × Rho)) (ρ : Rho) : R (Sl × Rho) := match u with
  | .val (.bl true) => k
  | .val (.bl false) => .ok (.val (.bl false), ρ)
  | _ => .stk
def chl (u : Sl) (ρ : Rho) : R (Sl × Rho) := match u with
  | .val (.bl t) => .ok (.val (.bl t), ρ)
  | _ => .stk
@[simp] theorem ev_chain : evalE T (.chain p q a b c) (s :: ρ) = (toD (evalE T a (s :: ρ))).bind fun x => (toD (evalE T b x.2)).bind fun y => chn (pr p [x.1, y.1]) ((toD (evalE T c y.2)).bind fun z => chl (pr q [y.1, z.1]) z.2) y.2 := rfl
@[simp] theorem chl_bl {t : Bool} : chl (.val (.bl t)) ρ = .ok (.val (.bl t), ρ) := rfl
@[simp] theorem chn_t {k : R (Sl × Rho)} : chn (.val (.bl true)) k ρ = k := rfl
@[simp] theorem chn_f {k : R (Sl × Rho)} : chn (.val (.bl false)) k ρ = .ok (.val (.bl false), ρ) := rfl
@[simp] theorem chn_and {b c : Bool} : chn (.val (.bl b)) (.ok (.val (.bl c), ρ)) ρ = .ok (.val (.bl (b && c)), ρ) := by cases b <;> rfl
@[simp] theorem ev_call : evalE T (.call f ms es) (s :: ρ) = if lentK ms (s :: ρ) then (evalDs T es (s :: ρ)).bind fun x => (match argSl ms x.1 x.2 with | some as => callR T f ms as x.2 | none => .stk) else .stk := rfl
@[simp] theorem ev_meth {o : E} : evalE T (.meth m ms o es) (s :: ρ) = if lentK ms (s :: ρ) then (toD (evalE T o (s :: ρ))).bind fun x => (match methF T m x.1 with
    | some f => (evalDs T es x.2).bind fun y => (match argSl ms y.1 y.2 with | some as => callR T f (none :: ms) (.val x.1 :: as) y.2 | none => .stk)
    | none => .stk) else .stk := rfl
@[simp] theorem ev_make : evalE T (.make i es) (s :: ρ) = (evalDs T es (s :: ρ)).bind fun x => makeR T i x.1 x.2 := rfl
@[simp] theorem ev_attrV : evalE T (.attrV f i) (s :: ρ) = (match (s :: ρ)[i]? with | some (.own (.obj c fs vs)) => if T.fld c f then slR (oV (lookF fs vs f)) (s :: ρ) else .stk | some (.val x) => slR (attrS T f x) (s :: ρ) | _ => .stk) := rfl
@[simp] theorem ev_attr : evalE T (.attr f e) (s :: ρ) = (toD (evalE T e (s :: ρ))).bind fun x => slR (attrS T f x.1) x.2 := rfl
@[simp] theorem ev_isi : evalE T (.isi i e) (s :: ρ) = (toD (evalE T e (s :: ρ))).bind fun x => slR (isiS T i x.1) x.2 := rfl
@[simp] theorem ev_eqO {ne : Bool} : evalE T (.eqO ne a b) (s :: ρ) = (toD (evalE T a (s :: ρ))).bind fun x => (toD (evalE T b x.2)).bind fun y => slR (eqS T ne x.1 y.1) y.2 := rfl
@[simp] theorem ev_bor : evalE T (.bor e) (s :: ρ) = (toD (evalE T e (fzAll (s :: ρ)))).bind fun x => if isScal x.1 then .ok (.val x.1, s :: ρ) else .stk := rfl
@[simp] theorem ev_borT : evalE T (.borT e) (s :: ρ) = (toT (evalE T e (fzAll (s :: ρ)))).bind fun x => .ok (.val (.bl x.1), s :: ρ) := rfl
def bindQ (r : R α) (k : α → R β) : R β := match r with | .ok v => k v | _ => .stk
@[simp] theorem bindQ_ok {v : α} {k : α → R β} : bindQ (.ok v) k = k v := rfl
@[simp] theorem ev_tm : evalE T (.tm p a b) (s :: ρ) = bindQ (toD (evalE T a (s :: ρ))) fun x => bindQ (toD (evalE T b x.2)) fun y => slR (pr p [x.1, y.1]) y.2 := by
  simp only [evalE]
  unfold bindQ
  cases toD (evalE T a (s :: ρ)) with
  | ok x =>
    obtain ⟨x, r⟩ := x
    simp only
    cases toD (evalE T b r) <;> rfl
  | exc _ _ _ => rfl
  | stk => rfl
@[simp] theorem ev_fst : evalE T (.fst es) (s :: ρ) = bindQ (evalDs T es (s :: ρ)) fun x => slR (pr .fmt x.1) x.2 := by
  simp only [evalE]
  unfold bindQ
  cases evalDs T es (s :: ρ) <;> rfl
@[simp] theorem evDs_nil : evalDs T [] ρ = .ok ([], ρ) := rfl
@[simp] theorem evDs_cons : evalDs T (e :: es) (s :: ρ) = (toD (evalE T e (s :: ρ))).bind fun x => (evalDs T es x.2).bind fun y => .ok (x.1 :: y.1, y.2) := rfl
@[simp] theorem evB2_nil : evalB2 T [] ρ = .ok (true, ρ) := rfl
@[simp] theorem evB2_cons : evalB2 T (e :: es) (s :: ρ) = (toT (evalE T e (s :: ρ))).bind fun x => if x.1 then evalB2 T es x.2 else .ok (false, x.2) := rfl
/-! ### calls -/
@[simp] theorem known_val {ρ : Rho} (h : ρ[i]? = some (.val d)) : known ρ i = true := by unfold known; rw [h]
@[simp] theorem known_own {ρ : Rho} (h : ρ[i]? = some (.own d)) : known ρ i = true := by unfold known; rw [h]
@[simp] theorem lentK_nil : lentK [] ρ = true := rfl
@[simp] theorem lentK_none : lentK (none :: ms) ρ = lentK ms ρ := rfl
@[simp] theorem lentK_so : lentK (some j :: ms) ρ = (known ρ j && lentK ms ρ) := rfl
@[simp] theorem argSl_nil : argSl [] [] ρ = some [] := rfl
@[simp] theorem argSl_none {ds : List D} : argSl (none :: ms) (d :: ds) ρ = (argSl ms ds ρ).map (.val d :: ·) := rfl
@[simp] theorem argSl_some {ds : List D} : argSl (some j :: ms) ds (s :: ρ) = (match (s :: ρ)[j]? with | some (.own d) => (argSl ms ds (s :: ρ)).map (.own d :: ·) | _ => none) := by simp only [argSl] <;> rfl
@[simp] theorem backSl_nil {os : List Sl} : backSl [] os ρ = ρ := by unfold backSl; rfl
@[simp] theorem backSl_none {os : List Sl} {o : Sl} : backSl (none :: ms) (o :: os) ρ = backSl ms os ρ := rfl
theorem backSl_nones : ∀ (ms : List (Option Nat)) (os : List Sl), (∀ x ∈ ms, x = none) → backSl ms os ρ = ρ
  | [], os, _ => by unfold backSl; rfl
  | x :: ms, [], h => by
    rw [h x (by simp)]
    simp only [backSl]
  | x :: ms, o :: os, h => by
    rw [h x (by simp)]
    show backSl ms os ρ = ρ
    exact backSl_nones ms os fun y hy => h y (List.mem_cons_of_mem _ hy)
@[simp] theorem backSl_n1 {os : List Sl} : backSl [none] os ρ = ρ := backSl_nones _ _ (by simp)
@[simp] theorem backSl_n2 {os : List Sl} : backSl [none, none] os ρ = ρ := backSl_nones _ _ (by simp)
@[simp] theorem backSl_n3 {os : List Sl} : backSl [none, none, none] os ρ = ρ := backSl_nones _ _ (by simp)
@[simp] theorem backSl_n4 {os : List Sl} : backSl [none, none, none, none] os ρ = ρ := backSl_nones _ _ (by simp)
@[simp] theorem backSl_n5 {os : List Sl} : backSl [none, none, none, none, none] os ρ = ρ := backSl_nones _ _ (by simp)
@[simp] theorem backSl_n6 {os : List Sl} : backSl [none, none, none, none, none, none] os ρ = ρ := backSl_nones _ _ (by simp)
@[simp] theorem backSl_some {os : List Sl} {o : Sl} : backSl (some j :: ms) (o :: os) ρ = backSl ms os (ρ.set j o) := rfl
@[simp] theorem callR_eq {as : List Sl} : callR T f ms as ρ = if lentOk ms then (T.call f as).bind fun x => .ok (x.1, backSl ms x.2 ρ) else .stk := rfl
@[simp] theorem lentOk_nil : lentOk [] = true := rfl
@[simp] theorem lentOk_none : lentOk (none :: ms) = lentOk ms := rfl
@[simp] theorem lentOk_0 : lentOk [some j] = true := by simp [lentOk]
@[simp] theorem lentOk_1 : lentOk [some j, none] = true := by simp [lentOk]
@[simp] theorem lentOk_2 : lentOk [some j, none, none] = true := by simp [lentOk]
@[simp] theorem lentOk_3 : lentOk [some j, none, none, none] = true := by simp [lentOk]
@[simp] theorem makeR_eq {ds : List D} : makeR T i ds ρ = (match T.init i with | some f => (T.call f (.own (.obj i [] []) :: ds.map .val)).bind fun x => (match x.1, x.2 with | .val .non, s :: _ => slR s ρ | _, _ => .stk) | none => .stk) := rfl
@[simp] theorem attrS_obj {fs : List Nat} {vs : List D} : attrS T f (.obj i fs vs) = (match lookF fs vs f with | some d => if T.fld i f then .val d else .no | none => (match T.prop i f with | some h => (match T.call h [.val (.obj i fs vs)] with | .ok (s, _) => s | _ => .no) | none => .no)) := rfl
@[simp] theorem isiS_obj {fs : List Nat} {vs : List D} : isiS T i (.obj j fs vs) = if j = i ∧ (T.init i).isSome = true then .val (.bl true) else .no := rfl
@[simp] theorem methF_obj {fs : List Nat} {vs : List D} : methF T m (.obj i fs vs) = if (lookF fs vs m).isNone then T.meth i m else none := rfl
@[simp] theorem lookF_nil {vs : List D} : lookF [] vs m = none := rfl
@[simp] theorem lookF_cons {fs : List Nat} {vs : List D} : lookF (i :: fs) (d :: vs) m = if i = m then some d else lookF fs vs m := rfl
@[simp] theorem eqS_obj {ne : Bool} {fs gs : List Nat} {vs ws : List D} : eqS T ne (.obj i fs vs) (.obj j gs ws) = if j = i ∧ ne = false then (match T.eqm i with | some f => (match T.call f [.val (.obj i fs vs), .val (.obj j gs ws)] with | .ok (.val (.bl t), _) => .val (.bl t) | _ => .no) | none => .no) else .no := rfl
@[simp] theorem eqS_int {ne : Bool} {n : Int} : eqS T ne (.int n) y = pr (if ne then .ne else .eq) [.int n, y] := rfl
@[simp] theorem eqS_str {ne : Bool} {n : Tx} : eqS T ne (.str n) y = pr (if ne then .ne else .eq) [.str n, y] := rfl
@[simp] theorem eqS_bl {ne : Bool} {n : Bool} : eqS T ne (.bl n) y = pr (if ne then .ne else .eq) [.bl n, y] := rfl
@[simp] theorem eqS_lst {ne : Bool} {n : List D} : eqS T ne (.lst n) y = pr (if ne then .ne else .eq) [.lst n, y] := rfl
@[simp] theorem eqS_tup {ne : Bool} {n : List D} : eqS T ne (.tup n) y = pr (if ne then .ne else .eq) [.tup n, y] := rfl
@[simp] theorem eqS_non {ne : Bool} : eqS T ne .non y = pr (if ne then .ne else .eq) [.non, y] := rfl
/-! ### operations -/
@[simp] theorem pr_add : pr .add [x, y] = addD x y := rfl
@[simp] theorem addD_int {n k : Int} : addD (.int n) (.int k) = .val (.int (n + k)) := rfl
theorem addD_str {u v : Tx} (h : u.length + v.length ≤ big) : addD (.str u) (.str v) = .val (.str (u ++ v)) := by simp [addD, ifB, h]
theorem addD_lst {u v : List D} (h : u.length + v.length ≤ big) : addD (.lst u) (.lst v) = .own (.lst (u ++ v)) := by simp [addD, ifB, h]
theorem addD_tup {u v : List D} (h : u.length + v.length ≤ big) : addD (.tup u) (.tup v) = .val (.tup (u ++ v)) := by simp [addD, ifB, h]
@[simp] theorem pr_sub {n k : Int} : pr .sub [.int n, .int k] = .val (.int (n - k)) := rfl
theorem pr_mul {n k : Int} (h : mulOk n k = true) : pr .mul [.int n, .int k] = .val (.int (n * k)) := by simp [pr, ifB, h]
theorem pr_fdiv {n k : Int} (h : 0 < k) (h2 : k.natAbs < 2 ^ 9000) : pr .fdiv [.int n, .int k] = .val (.int (n / k)) := by
  show ifB (decide (0 < k) && decide (k.natAbs < 2 ^ 9000)) _ = _
  rw [decide_eq_true h, decide_eq_true h2]; rfl
theorem pr_mod {n k : Int} (h : 0 < k) : pr .mod [.int n, .int k] = .val (.int (n % k)) := by simp [pr, ifB, h]
theorem pr_pow {n k : Int} (h : 0 ≤ k) (h2 : k ≤ 1000000) (h3 : n.natAbs < 2 ^ 64) : pr .pow [.int n, .int k] = .val (.int (n ^ k.toNat)) := by
  show ifB (decide (0 ≤ k) && decide (k ≤ 1000000) && decide (n.natAbs < 2 ^ 64)) _ = _
  rw [decide_eq_true h, decide_eq_true h2, decide_eq_true h3]; rfl
@[simp] theorem pr_neg {n : Int} : pr .neg [.int n] = .val (.int (-n)) := rfl
theorem pr_eq (h : okD 60 x = true) (h2 : okD 60 y = true) : pr .eq [x, y] = .val (.bl (eqD x y)) := by simp [pr, ifB, h, h2]
theorem pr_ne (h : okD 60 x = true) (h2 : okD 60 y = true) : pr .ne [x, y] = .val (.bl (!eqD x y)) := by simp [pr, ifB, h, h2]
@[simp] theorem okD_int {k : Nat} {n : Int} : okD k (.int n) = true := by cases k <;> rfl
@[simp] theorem okD_str {k : Nat} {n : Tx} : okD k (.str n) = true := by cases k <;> rfl
@[simp] theorem okD_bl {k : Nat} {n : Bool} : okD k (.bl n) = true := by cases k <;> rfl
@[simp] theorem okD_non {k : Nat} : okD k .non = true := by cases k <;> rfl
@[simp] theorem okD_tup {k : Nat} {l : List D} : okD (k + 1) (.tup l) = okDs k l := rfl
@[simp] theorem okD_lst {k : Nat} {l : List D} : okD (k + 1) (.lst l) = okDs k l := rfl
@[simp] theorem okDs_nil {k : Nat} : okDs k [] = true := by cases k <;> rfl
@[simp] theorem okDs_cons {k : Nat} {l : List D} : okDs k (d :: l) = (okD k d && okDs k l) := by cases k <;> rfl
theorem okDs_all {k : Nat} : ∀ {l : List D}, (∀ d ∈ l, okD k d = true) → okDs k l = true
  | [], _ => by simp
  | d :: l, h => by simp [h d (by simp), okDs_all fun x hx => h x (List.mem_cons_of_mem _ hx)]
@[simp] theorem pr_lt : pr .lt [x, y] = ordB (fun i j => decide (i < j)) (fun x y => ltT x y) x y := rfl
@[simp] theorem pr_le : pr .le [x, y] = ordB (fun i j => decide (i ≤ j)) (fun x y => !ltT y x) x y := rfl
@[simp] theorem pr_gt : pr .gt [x, y] = ordB (fun i j => decide (j < i)) (fun x y => ltT y x) x y := rfl
@[simp] theorem pr_ge : pr .ge [x, y] = ordB (fun i j => decide (j ≤ i)) (fun x y => !ltT x y) x y := rfl
@[simp] theorem ordB_int {u : Int → Int → Bool} {v : Tx → Tx → Bool} {n k : Int} : ordB u v (.int n) (.int k) = .val (.bl (u n k)) := rfl
@[simp] theorem ordB_str {u : Int → Int → Bool} {v : Tx → Tx → Bool} {n k : Tx} : ordB u v (.str n) (.str k) = .val (.bl (v n k)) := rfl
@[simp] theorem pr_inn : pr .inn [x, y] = oB (inD x y) := rfl
@[simp] theorem pr_nin : pr .nin [x, y] = oB ((inD x y).map (!·)) := rfl
@[simp] theorem pr_isN_non : pr .isN [.non] = .val (.bl true) := rfl
@[simp] theorem pr_isN_int {n : Int} : pr .isN [.int n] = .val (.bl false) := rfl
@[simp] theorem pr_isN_tup {n : List D} : pr .isN [.tup n] = .val (.bl false) := rfl
@[simp] theorem pr_isN_obj {fs : List Nat} {vs : List D} : pr .isN [.obj i fs vs] = .val (.bl false) := rfl
@[simp] theorem pr_ntN_non : pr .ntN [.non] = .val (.bl false) := rfl
@[simp] theorem pr_ntN_int {n : Int} : pr .ntN [.int n] = .val (.bl true) := rfl
@[simp] theorem pr_ntN_tup {n : List D} : pr .ntN [.tup n] = .val (.bl true) := rfl
@[simp] theorem pr_ntN_obj {fs : List Nat} {vs : List D} : pr .ntN [.obj i fs vs] = .val (.bl true) := rfl
@[simp] theorem pr_idx : pr .idx [x, y] = oV (idxD x y) := rfl
@[simp] theorem pr_sl01 {n : Int} : pr .sl01 [x, .int n] = cutD x none (some n) := rfl
@[simp] theorem pr_sl10 {n : Int} : pr .sl10 [x, .int n] = cutD x (some n) none := rfl
@[simp] theorem pr_rev {l : List D} : pr .rev [.lst l] = .own (.lst l.reverse) := rfl
@[simp] theorem cutD_lst {l : List D} {lo hi : Option Int} : cutD (.lst l) lo hi = .own (.lst (cut l lo hi)) := rfl
@[simp] theorem cutD_tup {l : List D} {lo hi : Option Int} : cutD (.tup l) lo hi = .val (.tup (cut l lo hi)) := rfl
theorem pr_len {n : Nat} (h : lenD x = some n) (h2 : n ≤ big) : pr .len [x] = .val (.int n) := by simp [pr, h, ifB, h2]
theorem pr_lenS {z : Tx} (h : z.length ≤ big) : pr .len [.str z] = .val (.int z.length) := pr_len rfl h
theorem pr_lenL {z : List D} (h : z.length ≤ big) : pr .len [.lst z] = .val (.int z.length) := pr_len rfl h
theorem pr_lenT {z : List D} (h : z.length ≤ big) : pr .len [.tup z] = .val (.int z.length) := pr_len rfl h
theorem pr_sum {l : List D} {ns : List Int} (h : intsD l = some ns) : pr .sum [.lst l] = .val (.int ns.sum) := by simp [pr, h]
theorem pr_all {l : List D} {ns : List Bool} (h : boolsD l = some ns) : pr .all [.lst l] = .val (.bl (ns.all id)) := by simp [pr, h]
@[simp] theorem pr_tupleL {l : List D} : pr .tuple [.lst l] = .val (.tup l) := rfl
@[simp] theorem pr_tupleT {l : List D} : pr .tuple [.tup l] = .val (.tup l) := rfl
@[simp] theorem pr_listL {l : List D} : pr .list [.lst l] = .own (.lst l) := rfl
@[simp] theorem pr_listT {l : List D} : pr .list [.tup l] = .own (.lst l) := rfl
@[simp] theorem pr_intI {n : Int} : pr .int [.int n] = .val (.int n) := rfl
@[simp] theorem pr_str : pr .str [x] = strD x := rfl
@[simp] theorem strD_str {z : Tx} : strD (.str z) = .val (.str z) := rfl
theorem strD_int {n : Int} (h : n.natAbs < 2 ^ 1900) : strD (.int n) = .val (.str (intTx n)) := by
  show ifB (decide (n.natAbs < 2 ^ 1900)) _ = _
  rw [decide_eq_true h]; rfl
theorem pr_sorted {l : List D} (h : allAlk l = true) (h1 : okDs 60 l = true) (h2 : l.length ≤ big) (h3 : l.all notNil = true) : pr .sorted [.lst l] = .own (.lst (sortD l)) := by
  show ifB (allAlk l && okDs 60 l && decide (l.length ≤ big) && l.all notNil) _ = _
  rw [h, h1, h3, decide_eq_true h2]; rfl
@[simp] theorem atI_0 {v : α} {l : List α} : atI (v :: l) 0 = some v := by
  unfold atI ixN
  simp
theorem atI_nat {l : List α} {k : Nat} : atI l (k : Int) = l[k]? := by
  unfold atI ixN
  simp only [Int.natCast_nonneg, if_true, Int.ofNat_lt, Int.toNat_natCast]
  by_cases h : k < l.length
  · simp [h]
  · simp [h]
@[simp] theorem idxD_lst {l : List D} {n : Int} : idxD (.lst l) (.int n) = atI l n := rfl
@[simp] theorem idxD_tup {l : List D} {n : Int} : idxD (.tup l) (.int n) = atI l n := rfl
theorem idxD_str {z : Tx} {n : Int} (h : z.length ≤ big) : idxD (.str z) (.int n) = (atI z n).map fun c => .str [c] := by simp [idxD, idxD.ifBo, h]
@[simp] theorem idxD_dkS {ks : List Ky} {vs : List D} {z : Tx} : idxD (.dk ks vs) (.str z) = look ks vs (.inr z) := rfl
@[simp] theorem idxD_dkI {ks : List Ky} {vs : List D} {n : Int} : idxD (.dk ks vs) (.int n) = look ks vs (.inl n) := rfl
@[simp] theorem isScal_int {n : Int} : isScal (.int n) = true := rfl
@[simp] theorem isScal_str {n : Tx} : isScal (.str n) = true := rfl
@[simp] theorem isScal_bl {n : Bool} : isScal (.bl n) = true := rfl
@[simp] theorem isScal_non : isScal .non = true := rfl
/-! ### statements -/
@[simp] theorem then_next {k : Rho → Out} : Out.then_ (.next ρ) k = k ρ := rfl
@[simp] theorem then_ret {k : Rho → Out} : Out.then_ (.ret s ρ) k = .ret s ρ := rfl
@[simp] theorem then_exc {k : Rho → Out} {t : Nat} {fs : List Nat} {vs : List D} : Out.then_ (.exc t fs vs) k = .exc t fs vs := rfl
@[simp] theorem runs_nil : runs T fuel pn [] ρ = .next ρ := rfl
@[simp] theorem runs_cons {st : S} {r : List S} : runs T fuel pn (st :: r) (s :: ρ) = (run T fuel pn st (s :: ρ)).then_ (runs T fuel pn r) := rfl
@[simp] theorem run_asg1 : run T fuel pn (.asg (.one i) e) (s :: ρ) = if free pn (.one i) then .of (evalE T e (s :: ρ)) fun x => .next (x.2.set i x.1) else .stk := rfl
def asgT (is : List Nat) (x : Sl × Rho) : Out := match x.1 with
  | .val d => (match bindT (.tup is) d x.2 with | some ρ2 => .next ρ2 | none => .stk)
  | .own d => (match bindT (.tup is) d x.2 with | some ρ2 => .next ρ2 | none => .stk)
  | .no => .stk
@[simp] theorem asgT_val {is : List Nat} : asgT is (.val d, ρ) = (match bindT (.tup is) d ρ with | some ρ2 => .next ρ2 | none => .stk) := rfl
@[simp] theorem asgT_own {is : List Nat} : asgT is (.own d, ρ) = (match bindT (.tup is) d ρ with | some ρ2 => .next ρ2 | none => .stk) := rfl
@[simp] theorem run_asgT {is : List Nat} : run T fuel pn (.asg (.tup is) e) (s :: ρ) = if free pn (.tup is) then .of (evalE T e (s :: ρ)) (asgT is) else .stk := by
  simp only [run]
  congr 1
  congr 1
  funext x
  obtain ⟨u, v⟩ := x
  cases u <;> rfl
@[simp] theorem bindT_tupT {is : List Nat} {l : List D} : bindT (.tup is) (.tup l) ρ = bindN is l ρ := rfl
@[simp] theorem bindT_tupL {is : List Nat} {l : List D} : bindT (.tup is) (.lst l) ρ = bindN is l ρ := rfl
@[simp] theorem bindT_one : bindT (.one i) d ρ = some (ρ.set i (.val d)) := rfl
@[simp] theorem bindN_nil : bindN [] [] ρ = some ρ := rfl
@[simp] theorem bindN_cons {is : List Nat} {l : List D} : bindN (i :: is) (d :: l) ρ = bindN is l (ρ.set i (.val d)) := rfl
@[simp] theorem run_par {is : List Nat} : run T fuel pn (.par is es) (s :: ρ) = if free pn (.tup is) then .of (evalDs T es (s :: ρ)) fun x => (match bindN is x.1 x.2 with | some ρ2 => .next ρ2 | none => .stk) else .stk := rfl
@[simp] theorem run_sub : run T fuel pn (.sub j a e) (s :: ρ) = .of (toD (evalE T e (s :: ρ))) fun x => if known x.2 j then .of (toD (evalE T a x.2)) fun y => (match y.2[j]? with | some (.own o) => (match putD o y.1 x.1 with | some o' => .next (y.2.set j (.own o')) | none => .stk) | _ => .stk) else .stk := rfl
@[simp] theorem run_fld : run T fuel pn (.fld j f e) (s :: ρ) = .of (toD (evalE T e (s :: ρ))) fun x => (match x.2[j]? with | some (.own (.obj c fs vs)) => if fs.length < 900 ∧ T.fld c f = true then .next (x.2.set j (.own (.obj c (putO fs vs f x.1).1 (putO fs vs f x.1).2))) else .stk | _ => .stk) := rfl
@[simp] theorem run_app : run T fuel pn (.app j e) (s :: ρ) = if ownL (s :: ρ) j then .of (toD (evalE T e (s :: ρ))) fun x => (match x.2[j]? with | some (.own (.lst l)) => if l.length < big then .next (x.2.set j (.own (.lst (l ++ [x.1])))) else .stk | _ => .stk) else .stk := rfl
@[simp] theorem run_ex : run T fuel pn (.ex e) (s :: ρ) = .of (evalE T e (s :: ρ)) fun x => .next x.2 := rfl
def retO (x : Sl × Rho) : Out := match x.1 with | .no => .stk | s => .ret s x.2
@[simp] theorem retO_val : retO (.val d, ρ) = .ret (.val d) ρ := rfl
@[simp] theorem retO_own : retO (.own d, ρ) = .ret (.own d) ρ := rfl
@[simp] theorem run_ret : run T fuel pn (.ret e) (s :: ρ) = .of (evalE T e (s :: ρ)) retO := rfl
@[simp] theorem run_retV : run T fuel pn (.retV i) (s :: ρ) = (match (s :: ρ)[i]? with | some (.val d) => .ret (.val d) (s :: ρ) | some (.own d) => if pn.contains i then .ret (.val d) ((s :: ρ).set i (.val d)) else .ret (.own d) ((s :: ρ).set i .no) | _ => .stk) := rfl
@[simp] theorem run_retN : run T fuel pn .retN (s :: ρ) = .ret (.val .non) (s :: ρ) := rfl
@[simp] theorem run_ite {u v : List S} : run T fuel pn (.ite c u v) (s :: ρ) = .of (toT (evalE T c (s :: ρ))) fun x => if x.1 then runs T fuel pn u x.2 else runs T fuel pn v x.2 := rfl
/-- one turn of a for -/
def turn (T : Tb) (fuel : Nat) (pn : List Nat) (tg : Tg) (body : List S) (tmp : List Nat) (d : D) (ρ : Rho) : Out := match bindT tg d ρ with
  | some ρ2 => (runs T fuel pn body ρ2).fg tmp
  | none => .stk
@[simp] theorem run_for {tg : Tg} {ik : IK} {body : List S} : run T fuel pn (.for_ tg ik es body tmp) (s :: ρ) = if free pn tg && free pn (.tup tmp) then .of (evalDs T es (s :: ρ)) fun x => (match iterD ik x.1 with | some items => forN (turn T fuel pn tg body tmp) items (forget x.2 tmp) | none => .stk) else .stk := rfl
theorem turn_eq {tg : Tg} {body : List S} : turn T fuel pn tg body tmp d (s :: ρ) = (match bindT tg d (s :: ρ) with | some ρ2 => (runs T fuel pn body ρ2).fg tmp | none => .stk) := rfl
@[simp] theorem fg_next : Out.fg (.next ρ) tmp = .next (forget ρ tmp) := rfl
@[simp] theorem fg_ret : Out.fg (.ret s ρ) tmp = .ret s ρ := rfl
@[simp] theorem fg_exc {t : Nat} {fs : List Nat} {vs : List D} : Out.fg (.exc t fs vs) tmp = .exc t fs vs := rfl
@[simp] theorem fg_cnt : Out.fg (.cnt ρ) tmp = .cnt (forget ρ tmp) := rfl
@[simp] theorem fg_brk : Out.fg (.brk ρ) tmp = .brk (forget ρ tmp) := rfl
@[simp] theorem forget_nil : forget ρ [] = ρ := rfl
@[simp] theorem forget_cons : forget ρ (i :: tmp) = (forget ρ tmp).set i .no := rfl
@[simp] theorem run_pass : run T fuel pn .pass (s :: ρ) = .next (s :: ρ) := rfl
@[simp] theorem run_brk : run T fuel pn .brk (s :: ρ) = .brk (s :: ρ) := rfl
@[simp] theorem run_cnt : run T fuel pn .cnt (s :: ρ) = .cnt (s :: ρ) := rfl
@[simp] theorem free_onez : free pn (.one i) = !pn.contains i := rfl
@[simp] theorem free_tupz {is : List Nat} : free pn (.tup is) = is.all fun i => !pn.contains i := rfl
@[simp] theorem iter_lst {l : List D} : iterD .seq [.lst l] = some l := rfl
@[simp] theorem iter_tup {l : List D} : iterD .seq [.tup l] = some l := rfl
@[simp] theorem iter_str {z : Tx} : iterD .seq [.str z] = some (z.map fun c => .str [c]) := rfl
@[simp] theorem iter_enum {l : List D} : iterD .enum [.lst l] = some (enumD 0 l) := rfl
@[simp] theorem iter_zip {l k : List D} : iterD .zip [.lst l, .lst k] = some (zipD l k) := rfl
theorem iter_rng1 {n : Int} (h : -(2 ^ 62) ≤ n) (h2 : n < 2 ^ 62) : iterD .rng1 [.int n] = some (rngD 0 n.toNat) := if_pos ⟨h, h2⟩
/-! ### defs -/
def outR (n : Nat) : Out → R (Sl × List Sl)
  | .ret s ρ => .ok (s, ρ.take n)
  | .next ρ => .ok (.val .non, ρ.take n)
  | .exc c fs vs => .exc c fs vs
  | _ => .stk
@[simp] theorem outR_ret {n : Nat} : outR n (.ret s ρ) = .ok (s, ρ.take n) := rfl
@[simp] theorem outR_next {n : Nat} : outR n (.next ρ) = .ok (.val .non, ρ.take n) := rfl
@[simp] theorem outR_exc {n : Nat} {t : Nat} {fs : List Nat} {vs : List D} : outR n (.exc t fs vs) = .exc t fs vs := rfl
theorem runFn_eq {F : Fn} {as : List Sl} : runFn T fuel F as = if as.length = F.np then outR F.np (runs T fuel (pinsOf 0 as) F.body (as ++ List.replicate (F.n - F.np) .no)) else .stk := by
  unfold runFn outR
  rfl
def tbl (pg : Pg) (fuel n : Nat) : Tb := ⟨callN pg fuel n, pg.meth, pg.prop, pg.init, pg.eqm, pg.xf, pg.fld⟩
theorem call_eq {pg : Pg} {n : Nat} {F : Fn} {as : List Sl} (h : pg.fns.lookup f = some F) : callN pg fuel (n + 1) f as = runFn (tbl pg fuel n) fuel F as := by
  show (match pg.fns.lookup f with | some F => runFn (tbl pg fuel n) fuel F as | none => .stk) = _
  rw [h]
@[simp] theorem tbl_call {pg : Pg} {n : Nat} : (tbl pg fuel n).call = callN pg fuel n := rfl
@[simp] theorem tbl_meth {pg : Pg} {n : Nat} : (tbl pg fuel n).meth = pg.meth := rfl
@[simp] theorem tbl_prop {pg : Pg} {n : Nat} : (tbl pg fuel n).prop = pg.prop := rfl
@[simp] theorem tbl_init {pg : Pg} {n : Nat} : (tbl pg fuel n).init = pg.init := rfl
@[simp] theorem tbl_eqm {pg : Pg} {n : Nat} : (tbl pg fuel n).eqm = pg.eqm := rfl
@[simp] theorem tbl_fld {pg : Pg} {n : Nat} : (tbl pg fuel n).fld = pg.fld := rfl
@[simp] theorem tbl_xf {pg : Pg} {n : Nat} : (tbl pg fuel n).xf = pg.xf := rfl
@[simp] theorem pins_nil {n : Nat} : pinsOf n [] = [] := rfl
@[simp] theorem pins_own {n : Nat} {as : List Sl} : pinsOf n (.own d :: as) = n :: pinsOf (n + 1) as := rfl
@[simp] theorem pins_val {n : Nat} {as : List Sl} : pinsOf n (.val d :: as) = pinsOf (n + 1) as := rfl
@[simp] theorem pins_no {n : Nat} {as : List Sl} : pinsOf n (.no :: as) = pinsOf (n + 1) as := rfl
/-! ### comprehensions -/
/-- one turn -/
def lcT (T : Tb) (tg : Tg) (cs : List E) (el : E) (w : List Nat) (d : D) (ρ : Rho) : R (Option D × Rho) := match bindT tg d (forget ρ w) with
  | some ρ2 => (evalB2 T cs ρ2).bind fun x => if x.1 then (toD (evalE T el x.2)).bind fun y => .ok (some y.1, forget y.2 w) else .ok (none, forget x.2 w)
  | none => .stk
@[simp] theorem ev_lc {tg : Tg} {ik : IK} {cs : List E} {w : List Nat} : evalE T (.lc tg ik es cs e w) (s :: ρ) = (evalDs T es (s :: ρ)).bind fun x => (match iterD ik x.1 with
    | some items => (lcGo (lcT T tg cs e w) items (forget x.2 w)).bind fun y => if y.1.length ≤ big then .ok (.own (.lst y.1), unblk x.2 y.2 w) else .stk
    | none => .stk) := rfl
def dcT (T : Tb) (tg : Tg) (cs : List E) (ek ev : E) (w : List Nat) (d : D) (ρ : Rho) : R (Option D × Rho) := match bindT tg d (forget ρ w) with
  | some ρ2 => (evalB2 T cs ρ2).bind fun x => if x.1 then (toD (evalE T ek x.2)).bind fun y => (toD (evalE T ev y.2)).bind fun z => .ok (some (.tup [y.1, z.1]), forget z.2 w) else .ok (none, forget x.2 w)
  | none => .stk
@[simp] theorem ev_dc {tg : Tg} {ik : IK} {cs : List E} {w : List Nat} {tk : Bool} : evalE T (.dc tk tg ik es cs a b w) (s :: ρ) = (evalDs T es (s :: ρ)).bind fun x => (match iterD ik x.1 with
    | some items => (lcGo (dcT T tg cs a b w) items (forget x.2 w)).bind fun y => dictR tk y.1 (unblk x.2 y.2 w)
    | none => .stk) := rfl
theorem lc_map {g : D → D} {step : D → Rho → R (Option D × Rho)} : ∀ {l : List D}, (∀ d ∈ l, step d ρ = .ok (some (g d), ρ)) → lcGo step l ρ = .ok (l.map g, ρ)
  | [], _ => rfl
  | d :: l, h => by
    show (match step d ρ with | .ok (o, ρ1) => (lcGo step l ρ1).bind fun (x : List D × Rho) => .ok (match o with | some z => z :: x.1 | none => x.1, x.2) | _ => .stk) = _
    rw [h d (by simp)]
    simp only [lc_map (l := l) fun x hx => h x (List.mem_cons_of_mem _ hx), bind_okz, List.map_cons]
theorem lc_filter {g : D → Option D} {step : D → Rho → R (Option D × Rho)} : ∀ {l : List D}, (∀ d ∈ l, step d ρ = .ok (g d, ρ)) → lcGo step l ρ = .ok (l.filterMap g, ρ)
  | [], _ => rfl
  | d :: l, h => by
    show (match step d ρ with | .ok (o, ρ1) => (lcGo step l ρ1).bind fun (x : List D × Rho) => .ok (match o with | some z => z :: x.1 | none => x.1, x.2) | _ => .stk) = _
    rw [h d (by simp)]
    simp only [lc_filter (l := l) fun x hx => h x (List.mem_cons_of_mem _ hx), bind_okz, List.filterMap_cons]
    cases g d <;> rfl
/-! ### loops -/
/-- a loop that goes through -/
theorem for_all {I : List D → Rho → Prop} {step : D → Rho → Out} (h : ∀ d r ρ, I (d :: r) ρ → ∃ ρ', (step d ρ = .next ρ' ∨ step d ρ = .cnt ρ') ∧ I r ρ') : ∀ {l : List D} {ρ : Rho}, I l ρ → ∃ ρ', forN step l ρ = .next ρ' ∧ I [] ρ'
  | [], ρ, hi => ⟨ρ, rfl, hi⟩
  | d :: r, ρ, hi => by
    obtain ⟨ρ1, h1, h2⟩ := h d r ρ hi
    obtain ⟨ρ2, h3, h4⟩ := for_all h h2
    refine ⟨ρ2, ?_, h4⟩
    unfold forN
    rcases h1 with h1 | h1
    · rw [h1]; exact h3
    · rw [h1]; exact h3
@[simp] theorem forN_nil {step : D → Rho → Out} : forN step [] ρ = .next ρ := rfl
theorem forN_next {step : D → Rho → Out} {r : List D} (h : step d ρ = .next ρ') : forN step (d :: r) ρ = forN step r ρ' := by
  simp only [forN, h]
theorem forN_ret {step : D → Rho → Out} {r : List D} {u : Sl} (h : step d ρ = .ret u ρ') : forN step (d :: r) ρ = .ret u ρ' := by
  simp only [forN, h]
theorem forN_exc {step : D → Rho → Out} {r : List D} {t : Nat} {fs : List Nat} {vs : List D} (h : step d ρ = .exc t fs vs) : forN step (d :: r) ρ = .exc t fs vs := by
  simp only [forN, h]
end
end Mr

/-! Plain facts about data. -/
namespace Mr
/-! ### equality -/
@[simp] theorem eqD_str {x y : Tx} : eqD (.str x) (.str y) = (x == y) := rfl
@[simp] theorem eqD_int {x y : Int} : eqD (.int x) (.int y) = (x == y) := rfl
@[simp] theorem eqD_bl {x y : Bool} : eqD (.bl x) (.bl y) = (x == y) := rfl
@[simp] theorem eqD_tup {x y : List D} : eqD (.tup x) (.tup y) = eqDs x y := rfl
@[simp] theorem eqD_lst {x y : List D} : eqD (.lst x) (.lst y) = eqDs x y := rfl
@[simp] theorem eqD_non : eqD .non .non = true := rfl
@[simp] theorem eqDs_nil : eqDs [] [] = true := rfl
@[simp] theorem eqDs_nc {d : D} {l : List D} : eqDs [] (d :: l) = false := rfl
@[simp] theorem eqDs_cn {d : D} {l : List D} : eqDs (d :: l) [] = false := rfl
@[simp] theorem eqDs_cons {d e : D} {l k : List D} : eqDs (d :: l) (e :: k) = (eqD d e && eqDs l k) := rfl
/-- a way to write values as data that == sees through -/
structure Enc (α : Type) [DecidableEq α] (f : α → D) : Prop where
  eq : ∀ a b, eqD (f a) (f b) = decide (a = b)
  ok : ∀ a, okD 50 (f a) = true
theorem okD_mono : ∀ (n : Nat), (∀ d m, n ≤ m → okD n d = true → okD m d = true) ∧ (∀ l m, n ≤ m → okDs n l = true → okDs m l = true) := by
  intro n
  induction n with
  | zero =>
    have h1 : ∀ d m, 0 ≤ m → okD 0 d = true → okD m d = true := by
      intro d m _ h
      cases d <;> first | (cases m <;> rfl) | (simp [okD] at h)
    refine ⟨h1, fun l => ?_⟩
    induction l with
    | nil => intro m _ _; simp
    | cons d l ih =>
      intro m hm h
      simp only [okDs_cons, Bool.and_eq_true] at h ⊢
      exact ⟨h1 d m hm h.1, ih m hm h.2⟩
  | succ n ihn =>
    have h1 : ∀ d m, n + 1 ≤ m → okD (n + 1) d = true → okD m d = true := by
      intro d m hm h
      obtain ⟨m, rfl⟩ : ∃ k, m = k + 1 := ⟨m - 1, by omega⟩
      cases d with
      | tup l => exact ihn.2 l m (by omega) h
      | lst l => exact ihn.2 l m (by omega) h
      | non => rfl
      | bl _ => rfl
      | int _ => rfl
      | str _ => rfl
      | dk _ _ => simp [okD] at h
      | dt _ _ => simp [okD] at h
      | obj _ _ _ => simp [okD] at h
    refine ⟨h1, fun l => ?_⟩
    induction l with
    | nil => intro m _ _; simp
    | cons d l ih =>
      intro m hm h
      simp only [okDs_cons, Bool.and_eq_true] at h ⊢
      exact ⟨h1 d m hm h.1, ih m hm h.2⟩
theorem okD_up {n m : Nat} {d : D} (h : okD n d = true) (hm : n ≤ m) : okD m d = true := (okD_mono n).1 d m hm h
theorem okDs_up {n m : Nat} {l : List D} (h : okDs n l = true) (hm : n ≤ m) : okDs m l = true := (okD_mono n).2 l m hm h
theorem any_mem {α : Type} [DecidableEq α] {f : α → D} (E : Enc α f) (x : α) : ∀ l : List α, ((l.map f).any fun y => eqD y (f x)) = decide (x ∈ l)
  | [] => by simp
  | a :: l => by
    rw [List.map_cons, List.any_cons, any_mem E x l, E.eq]
    by_cases h : a = x
    · simp [h]
    · have h' : ¬ x = a := fun z => h z.symm
      simp [h, h']
theorem Enc.okL {α : Type} [DecidableEq α] {f : α → D} (E : Enc α f) {n : Nat} (hn : 50 ≤ n) (l : List α) : okDs n (l.map f) = true := okDs_all fun d hd => by
  obtain ⟨a, _, rfl⟩ := List.mem_map.mp hd
  exact okD_up (E.ok a) hn
theorem inD_enc0 {α : Type} [DecidableEq α] {f : α → D} (E : Enc α f) (x : α) (l : List α) : inD (f x) (.lst (l.map f)) = some (decide (x ∈ l)) := by
  have h1 := okD_up (m := 60) (E.ok x) (by omega)
  have h2 := E.okL (n := 60) (by omega) l
  have : inD (f x) (.lst (l.map f)) = if okD 60 (f x) && okDs 60 (l.map f) then some ((l.map f).any fun y => eqD y (f x)) else none := by
    cases f x <;> rfl
  rw [this, h1, h2, any_mem E]
  rfl
theorem inD_enc {α : Type} [DecidableEq α] {f : α → D} (E : Enc α f) (x : α) (l : List α) [Decidable (x ∈ l)] : inD (f x) (.lst (l.map f)) = some (decide (x ∈ l)) := by
  rw [inD_enc0 E]
  exact congrArg some (decide_eq_decide.mpr Iff.rfl)
theorem beqT {α : Type} [BEq α] [LawfulBEq α] [DecidableEq α] (a b : α) : (a == b) = decide (a = b) := by
  by_cases h : a = b
  · rw [decide_eq_true h, h]; simp
  · rw [decide_eq_false h]; simpa using h
theorem encS : Enc Tx D.str := ⟨fun a b => by rw [eqD_str, beqT], fun a => by simp⟩
theorem encI : Enc Int D.int := ⟨fun a b => by rw [eqD_int, beqT], fun a => by simp⟩
/-- a place -/
def plD (p : Tx × Int) : D := .tup [.str p.1, .int p.2]
theorem encP : Enc (Tx × Int) plD := ⟨fun a b => by
  obtain ⟨a1, a2⟩ := a
  obtain ⟨b1, b2⟩ := b
  simp only [plD, eqD_tup, eqDs_cons, eqD_str, eqD_int, eqDs_nil, Bool.and_true, Prod.mk.injEq, Bool.decide_and]
  rw [beqT, beqT], fun a => by simp [plD]⟩
/-- two names -/
def nnD (p : Tx × Tx) : D := .tup [.str p.1, .str p.2]
theorem encN : Enc (Tx × Tx) nnD := ⟨fun a b => by
  obtain ⟨a1, a2⟩ := a
  obtain ⟨b1, b2⟩ := b
  simp only [nnD, eqD_tup, eqDs_cons, eqD_str, eqD_int, eqDs_nil, Bool.and_true, Prod.mk.injEq, Bool.decide_and]
  rw [beqT, beqT], fun a => by simp [nnD]⟩
def nlD (p : Tx × Tx) : D := .lst [.str p.1, .str p.2]
theorem encNL : Enc (Tx × Tx) nlD := ⟨fun a b => by
  obtain ⟨a1, a2⟩ := a
  obtain ⟨b1, b2⟩ := b
  simp only [nlD, eqD_lst, eqDs_cons, eqD_str, eqD_int, eqDs_nil, Bool.and_true, Prod.mk.injEq, Bool.decide_and]
  rw [beqT, beqT], fun a => by simp [nlD]⟩
theorem eqDs_enc {α : Type} [DecidableEq α] {f : α → D} (E : Enc α f) : ∀ l k : List α, eqDs (l.map f) (k.map f) = decide (l = k)
  | [], [] => by simp
  | [], _ :: _ => by simp
  | _ :: _, [] => by simp
  | a :: l, b :: k => by
    rw [List.map_cons, List.map_cons, eqDs_cons, E.eq, eqDs_enc E l k]
    simp only [List.cons.injEq, Bool.decide_and]
/-! ### cutting -/
theorem cut_to {α : Type} (l : List α) (k : Nat) : cut l none (some (k : Int)) = l.take k := by
  unfold cut sIx
  simp only [List.drop_zero, Nat.sub_zero]
  rw [if_neg (by omega), Int.toNat_natCast]
  rw [← List.take_take, List.take_length]
theorem cut_from {α : Type} (l : List α) (k : Nat) : cut l (some (k : Int)) none = l.drop k := by
  unfold cut sIx
  simp only
  rw [if_neg (by omega), Int.toNat_natCast]
  by_cases h : k ≤ l.length
  · rw [Nat.min_eq_left h]
    exact List.take_of_length_le (by simp)
  · rw [Nat.min_eq_right (by omega), List.drop_of_length_le (Nat.le_refl _), List.drop_of_length_le (by omega)]
    simp
/-! ### lists of one kind -/
theorem bools_map {α : Type} (f : α → Bool) : ∀ l : List α, boolsD (l.map fun a => .bl (f a)) = some (l.map f)
  | [] => rfl
  | a :: l => by simp only [List.map_cons, boolsD, bools_map f l, Option.map_some]
theorem ints_map {α : Type} (f : α → Int) : ∀ l : List α, intsD (l.map fun a => .int (f a)) = some (l.map f)
  | [] => rfl
  | a :: l => by simp only [List.map_cons, intsD, ints_map f l, Option.map_some]
theorem txs_map {α : Type} (f : α → Tx) : ∀ l : List α, txs (l.map fun a => .str (f a)) = some (l.map f)
  | [] => rfl
  | a :: l => by simp only [List.map_cons, txs, txs_map f l, Option.map_some]
/-! ### the order of texts -/
theorem ltT_irrz : ∀ x : Tx, ltT x x = false
  | [] => rfl
  | a :: r => by simp only [ltT, Nat.lt_irrefl, if_false, ltT_irrz r]
theorem ltT_asy : ∀ {x y : Tx}, ltT x y = true → ltT y x = false
  | [], [], h => by simp [ltT] at h
  | [], _ :: _, _ => rfl
  | _ :: _, [], h => by simp [ltT] at h
  | a :: r, b :: t, h => by
    simp only [ltT] at h ⊢
    by_cases h1 : a < b
    · rw [if_neg (by omega), if_pos h1]
    · rw [if_neg h1] at h
      by_cases h2 : b < a
      · rw [if_pos h2] at h; cases h
      · rw [if_neg h2] at h
        rw [if_neg h2, if_neg h1]
        exact ltT_asy h
theorem ltT_triz : ∀ {x y : Tx}, ltT x y = false → ltT y x = false → x = y
  | [], [], _, _ => rfl
  | [], _ :: _, h, _ => by simp [ltT] at h
  | _ :: _, [], _, h => by simp [ltT] at h
  | a :: r, b :: t, h, h' => by
    simp only [ltT] at h h'
    by_cases h1 : a < b
    · rw [if_pos h1] at h; cases h
    · rw [if_neg h1] at h h'
      by_cases h2 : b < a
      · rw [if_pos h2] at h'; cases h'
      · rw [if_neg h2] at h h'
        rw [ltT_triz h h', show a = b by omega]
theorem ltT_trans : ∀ {x y z : Tx}, ltT x y = true → ltT y z = true → ltT x z = true
  | [], [], _, h, _ => by simp [ltT] at h
  | [], _ :: _, [], _, h => by simp [ltT] at h
  | [], _ :: _, _ :: _, _, _ => rfl
  | _ :: _, [], _, h, _ => by simp [ltT] at h
  | _ :: _, _ :: _, [], _, h => by simp [ltT] at h
  | a :: r, b :: t, c :: u, h, h' => by
    simp only [ltT] at h h' ⊢
    by_cases h1 : a < b
    · by_cases h2 : b < c
      · rw [if_pos (by omega)]
      · rw [if_neg h2] at h'
        by_cases h3 : c < b
        · rw [if_pos h3] at h'; cases h'
        · rw [if_pos (by omega)]
    · rw [if_neg h1] at h
      by_cases h2 : b < a
      · rw [if_pos h2] at h; cases h
      · rw [if_neg h2] at h
        by_cases h3 : b < c
        · rw [if_pos (by omega)]
        · rw [if_neg h3] at h'
          by_cases h4 : c < b
          · rw [if_pos h4] at h'; cases h'
          · rw [if_neg h4] at h'
            rw [if_neg (by omega), if_neg (by omega)]
            exact ltT_trans h h'
/-! ### the order of data -/
theorem cmpD_str {x y : Tx} : cmpD (.str x) (.str y) = some (if ltT x y then .lt else if ltT y x then .gt else .eq) := rfl
theorem cmpD_int {x y : Int} : cmpD (.int x) (.int y) = some (if x < y then .lt else if y < x then .gt else .eq) := rfl
theorem cmpD_tup {x y : List D} : cmpD (.tup x) (.tup y) = cmpDs x y := rfl
theorem cmpDs_cons {x y : D} {xs ys : List D} : cmpDs (x :: xs) (y :: ys) = (match cmpD x y with | some .eq => cmpDs xs ys | r => r) := rfl
/-! ### dicts -/
theorem merge_app {κ : Type} [DecidableEq κ] : ∀ {ks : List κ} {vs : List D} {as : List κ} {bs : List D}, ks.length = vs.length → ks.Nodup → (∀ k ∈ ks, k ∉ as) → merge ks vs as bs = (as ++ ks, bs ++ vs)
  | [], [], as, bs, _, _, _ => by simp [merge]
  | [], _ :: _, as, bs, h, _, _ => by simp at h
  | _ :: _, [], as, bs, h, _, _ => by simp at h
  | k :: ks, v :: vs, as, bs, h, nd, hn => by
    simp only [merge, put]
    rw [if_neg (hn k (by simp))]
    rw [merge_app (by simpa using h) (List.nodup_cons.mp nd).2]
    · simp
    · intro q hq z
      rcases List.mem_append.mp z with z | z
      · exact hn q (List.mem_cons_of_mem _ hq) z
      · rw [List.mem_singleton] at z
        exact (List.nodup_cons.mp nd).1 (z ▸ hq)
theorem merge_new {κ : Type} [DecidableEq κ] {ks : List κ} {vs : List D} (h : ks.length = vs.length) (nd : ks.Nodup) : merge ks vs [] [] = (ks, vs) := by
  rw [merge_app h nd (by simp)]
  simp
theorem look_map {α κ : Type} [DecidableEq κ] (f : α → κ) (g : α → D) (q : κ) : ∀ l : List α, look (l.map f) (l.map g) q = (l.find? fun a => decide (f a = q)).map g
  | [] => rfl
  | a :: l => by
    simp only [List.map_cons, look, look_map f g q l, List.find?_cons]
    by_cases h : f a = q
    · rw [if_pos h, decide_eq_true h]; rfl
    · rw [if_neg h, decide_eq_false h]
theorem pairsK_map {α : Type} (f : α → Tx) (g : α → D) : ∀ l : List α, pairsK (l.map fun a => .tup [.str (f a), g a]) = some (l.map fun a => .inr (f a), l.map g)
  | [] => rfl
  | a :: l => by simp only [List.map_cons, pairsK, dKy, pairsK_map f g l]
theorem pairsT_map {α : Type} (f : α → Tx × Int) (g : α → D) : ∀ l : List α, pairsT (l.map fun a => .tup [plD (f a), g a]) = some (l.map fun a => [.inr (f a).1, .inl (f a).2], l.map g)
  | [] => rfl
  | a :: l => by
    have ih := pairsT_map f g l
    simp only [List.map_cons]
    show (match dKys [D.str (f a).1, D.int (f a).2], pairsT (l.map fun a => .tup [plD (f a), g a]) with | some k, some (ks, vs) => some (k :: ks, g a :: vs) | _, _ => none) = _
    rw [ih]
    rfl
end Mr

/-! webs.py: names, faults. -/
namespace Mr
open Mr.P
abbrev Ring := Tx × Int × Int
abbrev Mtg := Tx × Int × Tx × Int
def rgD (k : Bool) (r : Ring) : D := if k then .tup [.str r.1, .int r.2.1, .int r.2.2] else .lst [.str r.1, .int r.2.1, .int r.2.2]
def mtD (k : Bool) (m : Mtg) : D := if k then .tup [.str m.1, .int m.2.1, .str m.2.2.1, .int m.2.2.2] else .lst [.str m.1, .int m.2.1, .str m.2.2.1, .int m.2.2.2]
@[simp] theorem bindT_rg {k : Bool} {r : Ring} {is : List Nat} {ρ : Rho} : bindT (.tup is) (rgD k r) ρ = bindN is [.str r.1, .int r.2.1, .int r.2.2] ρ := by cases k <;> rfl
@[simp] theorem bindT_mt {k : Bool} {r : Mtg} {is : List Nat} {ρ : Rho} : bindT (.tup is) (mtD k r) ρ = bindN is [.str r.1, .int r.2.1, .str r.2.2.1, .int r.2.2.2] ρ := by cases k <;> rfl
/-- a list or a tuple -/
def sqD (k : Bool) (l : List D) : D := if k then .tup l else .lst l
@[simp] theorem iter_sq {k : Bool} {l : List D} : iterD .seq [sqD k l] = some l := by cases k <;> rfl
abbrev small : Tx := k_SMALL
abbrev figs : Tx := k_FIGURES
def isNm (x : Tx) : Bool := match x with
  | [] => false
  | c :: r => decide (r.length < 8) && small.contains c && (c :: r).all fun c => small.contains c || figs.contains c
section
variable {pg : Pg} {fuel m : Nat}
theorem c_in_order (h : pg.fns.lookup 3 = some f3) (k : Bool) (r : Mtg) : callN pg fuel (m + 1) 3 [.val (mtD k r)] = .ok (.val (mtD true (if ltT r.1 r.2.2.1 then r else (r.2.2.1, r.2.2.2, r.1, r.2.1))), [.val (mtD k r)]) := by
  simp [call_eq h, runFn_eq, f3, f3_0, f3_1]
  cases e : ltT r.1 r.2.2.1 <;> simp [mtD]
theorem inS {c : Nat} {x : Tx} : inD (.str [c]) (.str x) = some (x.contains c) := rfl
theorem c_is_name (h : pg.fns.lookup 0 = some f0) (x : Tx) (hx : x.length ≤ big) : callN pg fuel (m + 1) 0 [.val (.str x)] = .ok (.val (.bl (isNm x)), [.val (.str x)]) := by
  by_cases hne : x = []
  · subst hne
    simp [call_eq h, runFn_eq, f0, f0_1, f0_0, pr_lenS, isNm]
  obtain ⟨c, r, e⟩ := List.exists_cons_of_ne_nil hne
  have hlc : lcGo (lcT (tbl pg fuel m) (.one 1) [] f0_e0 [1]) (x.map fun c => D.str [c]) [.val (.str x), .no] = .ok (x.map fun c => .bl (small.contains c || figs.contains c), [.val (.str x), .no]) := by
    have := lc_map (g := fun d => .bl (match d with | .str [c] => small.contains c || figs.contains c | _ => false)) (step := lcT (tbl pg fuel m) (.one 1) [] f0_e0 [1]) (ρ := [.val (.str x), .no]) (l := x.map fun c => D.str [c]) fun d hd => by
      obtain ⟨q, _, rfl⟩ := List.mem_map.mp hd
      simp [lcT, f0_e0, inS]
    rw [this, List.map_map]
    rfl
  have hi : idxD (.str x) (.int 0) = some (.str [c]) := by rw [idxD_str hx, e, atI_0]; rfl
  have hl : x.length = r.length + 1 := by rw [e]; rfl
  have h1 : (1 : Int) ≤ (x.length : Int) := by omega
  have hn : isNm x = (decide (r.length < 8) && small.contains c && x.all fun c => small.contains c || figs.contains c) := by
    rw [e]; rfl
  rw [hn, call_eq h, runFn_eq]
  by_cases h8 : r.length < 8
  · have h8' : (x.length : Int) ≤ 8 := by omega
    cases e2 : small.contains c with
    | false => simp [f0, f0_1, f0_2, f0_0, pr_lenS hx, h1, h8', hi, inS, e2, -List.contains_eq_mem]
    | true => simp [f0, f0_1, f0_2, f0_0, pr_lenS hx, h1, h8, h8', hi, inS, e2, hlc, pr_all (bools_map _ _), unblk, hx, -List.contains_eq_mem]
  · have h8' : ¬ (x.length : Int) ≤ 8 := by omega
    simp [f0, f0_1, f0_2, f0_0, pr_lenS hx, h1, h8', h8]
end
end Mr

/-! webs.py: ring_fault, meeting_fault. -/
namespace Mr
open Mr.P
def optI : Option Nat → D
  | none => .non
  | some k => .int k
def badR (names : List Tx) (k : Nat) (r : Ring) : Bool := !isNm r.1 || (decide (r.1 ∈ names.take k) || (decide (r.2.1 < 1) || decide (r.2.2 < 1)))
def rFault (names : List Tx) : Nat → List Ring → Option Nat
  | _, [] => none
  | k, r :: t => if badR names k r then some k else rFault names (k + 1) t
def ringFault (rs : List Ring) : Option Nat := match rFault (rs.map (·.1)) 0 rs with
  | some k => some k
  | none => if 1 ≤ rs.length ∧ rs.length ≤ 12 then none else some rs.length
theorem enum_cons {k : Int} {d : D} {l : List D} : enumD k (d :: l) = .tup [.int k, d] :: enumD (k + 1) l := rfl
section
variable {pg : Pg} {fuel m : Nat}
def isOV (s : Sl) (d : D) : Prop := s = .own d ∨ s = .val d
theorem rf_turn (h0 : pg.fns.lookup 0 = some f0) {A : D} {names : List Tx} {b : Bool} {k : Nat} {r : Ring} (hn : r.1.length ≤ big) {s : Sl} (hs : isOV s (.lst (names.map .str))) :
    (badR names k r = true → ∃ ρ', turn (tbl pg fuel (m + 1)) fuel [] (.tup [2, 3]) [f1_1, f1_3] [2, 3, 4, 5, 6] (.tup [.int k, rgD b r]) [.val A, s, .no, .no, .no, .no, .no] = .ret (.val (.int k)) (.val A :: ρ')) ∧
    (badR names k r = false → turn (tbl pg fuel (m + 1)) fuel [] (.tup [2, 3]) [f1_1, f1_3] [2, 3, 4, 5, 6] (.tup [.int k, rgD b r]) [.val A, s, .no, .no, .no, .no, .no] = .next [.val A, .val (.lst (names.map .str)), .no, .no, .no, .no, .no]) := by
  have hin : inD (.str r.1) (.lst (cut (names.map .str) none (some (k : Int)))) = some (decide (r.1 ∈ names.take k)) := by
    rw [cut_to, ← List.map_take]
    exact inD_enc encS r.1 _
  have hc := c_is_name (fuel := fuel) (m := m) h0 r.1 hn
  unfold badR
  cases e1 : isNm r.1 with
  | false => rcases hs with rfl | rfl <;> simp [turn_eq, f1_1, f1_3, f1_2, hc, e1]
  | true =>
    by_cases e2 : r.1 ∈ names.take k
    · rcases hs with rfl | rfl <;> simp [turn_eq, f1_1, f1_3, f1_2, hc, e1, hin, e2]
    · by_cases e3 : r.2.1 < 1
      · rcases hs with rfl | rfl <;> simp [turn_eq, f1_1, f1_3, f1_2, hc, e1, hin, e2, e3]
      · by_cases e4 : r.2.2 < 1
        · rcases hs with rfl | rfl <;> simp [turn_eq, f1_1, f1_3, f1_2, hc, e1, hin, e2, e3, e4]
        · rcases hs with rfl | rfl <;> simp [turn_eq, f1_1, f1_3, f1_2, hc, e1, hin, e2, e3, e4]
theorem rf_loop (h0 : pg.fns.lookup 0 = some f0) {A : D} {names : List Tx} {b : Bool} : ∀ (rs : List Ring) (k : Nat) (s : Sl), (∀ r ∈ rs, r.1.length ≤ big) → isOV s (.lst (names.map .str)) →
    (∀ j, rFault names k rs = some j → ∃ ρ', forN (turn (tbl pg fuel (m + 1)) fuel [] (.tup [2, 3]) [f1_1, f1_3] [2, 3, 4, 5, 6]) (enumD k (rs.map (rgD b))) [.val A, s, .no, .no, .no, .no, .no] = .ret (.val (.int j)) (.val A :: ρ')) ∧
    (rFault names k rs = none → ∃ s', forN (turn (tbl pg fuel (m + 1)) fuel [] (.tup [2, 3]) [f1_1, f1_3] [2, 3, 4, 5, 6]) (enumD k (rs.map (rgD b))) [.val A, s, .no, .no, .no, .no, .no] = .next [.val A, s', .no, .no, .no, .no, .no])
  | [], k, s, _, _ => ⟨fun j h => (by cases h), fun _ => ⟨s, rfl⟩⟩
  | r :: rs, k, s, hn, hs => by
    obtain ⟨t1, t2⟩ := rf_turn (fuel := fuel) (m := m) (A := A) (b := b) (k := k) h0 (hn r (by simp)) hs
    obtain ⟨i1, i2⟩ := rf_loop h0 (A := A) (names := names) (b := b) rs (k + 1) (.val (.lst (names.map .str))) (fun q hq => hn q (by simp [hq])) (.inr rfl)
    simp only [List.map_cons, enum_cons]
    unfold rFault
    cases e : badR names k r with
    | true =>
      obtain ⟨ρ', e1⟩ := t1 e
      simp only [if_true, Option.some.injEq, forall_eq', reduceCtorEq, false_implies, and_true]
      exact ⟨ρ', forN_ret e1⟩
    | false =>
      rw [forN_next (t2 e)]
      simp only [Bool.false_eq_true, if_false]
      rw [show ((k : Int) + 1) = ((k + 1 : Nat) : Int) by omega]
      exact ⟨i1, i2⟩
theorem c_ring_fault (h0 : pg.fns.lookup 0 = some f0) (h1 : pg.fns.lookup 1 = some f1) (b : Bool) (rs : List Ring) (hn : ∀ r ∈ rs, r.1.length ≤ big) (hl : rs.length ≤ big) :
    callN pg fuel (m + 2) 1 [.val (.lst (rs.map (rgD b)))] = .ok (.val (optI (ringFault rs)), [.val (.lst (rs.map (rgD b)))]) := by
  have hlc : lcGo (lcT (tbl pg fuel (m + 1)) (.tup [4, 5, 6]) [] f1_e0 [4, 5, 6]) (rs.map (rgD b)) [.val (.lst (rs.map (rgD b))), .no, .no, .no, .no, .no, .no] = .ok (rs.map fun r => .str r.1, [.val (.lst (rs.map (rgD b))), .no, .no, .no, .no, .no, .no]) := by
    have := lc_map (g := fun d => match d with | .tup (x :: _) => x | .lst (x :: _) => x | _ => .non) (step := lcT (tbl pg fuel (m + 1)) (.tup [4, 5, 6]) [] f1_e0 [4, 5, 6]) (ρ := [.val (.lst (rs.map (rgD b))), .no, .no, .no, .no, .no, .no]) (l := rs.map (rgD b)) fun d hd => by
      obtain ⟨q, _, rfl⟩ := List.mem_map.mp hd
      cases b <;> simp [lcT, f1_e0, rgD]
    rw [this, List.map_map]
    congr 2
    exact List.map_congr_left fun r _ => by cases b <;> rfl
  obtain ⟨i1, i2⟩ := rf_loop (fuel := fuel) (m := m) (A := .lst (rs.map (rgD b))) (names := rs.map (·.1)) (b := b) h0 rs 0 (.own (.lst ((rs.map (·.1)).map .str))) hn (.inl rfl)
  rw [List.map_map] at i1 i2
  rw [call_eq h1, runFn_eq]
  unfold ringFault
  cases e : rFault (rs.map (·.1)) 0 rs with
  | some j =>
    obtain ⟨ρ', e1⟩ := i1 j e
    simp only [Int.cast_ofNat_Int, Function.comp_def] at e1
    simp [f1, f1_0, hlc, unblk, hl, f1_4, optI, e1]
  | none =>
    obtain ⟨s', e1⟩ := i2 e
    simp only [Int.cast_ofNat_Int, Function.comp_def] at e1
    have h3 : pr .len [.lst (rs.map (rgD b))] = .val (.int (rs.length : Int)) := by rw [pr_lenL (by simpa using hl), List.length_map]
    by_cases hc : 1 ≤ rs.length ∧ rs.length ≤ 12
    · have c1 : (1 : Int) ≤ (rs.length : Int) := by omega
      have c2 : (rs.length : Int) ≤ 12 := by omega
      simp [f1, f1_0, hlc, unblk, hl, f1_4, f1_5, optI, e1, h3, c1, c2, hc]
    · by_cases c1 : (1 : Int) ≤ (rs.length : Int)
      · have c2 : ¬ (rs.length : Int) ≤ 12 := by omega
        simp [f1, f1_0, hlc, unblk, hl, f1_4, f1_5, optI, e1, h3, c1, c2, hc]
      · simp [f1, f1_0, hlc, unblk, hl, f1_4, f1_5, optI, e1, h3, c1, hc]
/-! ### meetings -/
abbrev Lens := List (Tx × Int)
def lenOf (ls : Lens) (x : Tx) : Option Int := (ls.find? fun a => decide (a.1 = x)).map (·.2)
def lensD (ls : Lens) : D := .dk (ls.map fun a => .inr a.1) (ls.map fun a => .int a.2)
theorem look_lens (ls : Lens) (x : Tx) : look (ls.map fun a => Sum.inr a.1) (ls.map fun a => D.int a.2) (Sum.inr x : Ky) = (lenOf ls x).map D.int := by
  rw [look_map (fun a : Tx × Int => (Sum.inr a.1 : Ky)) (fun a => D.int a.2)]
  unfold lenOf
  rw [Option.map_map]
  congr 1
  congr 1
  funext a
  exact decide_eq_decide.mpr ⟨fun h => Sum.inr.inj h, fun h => by rw [h]⟩
@[simp] theorem in_lens (ls : Lens) (x : Tx) : inD (.str x) (lensD ls) = some (lenOf ls x).isSome := by
  show some (look (ls.map fun a => Sum.inr a.1) (ls.map fun a => D.int a.2) (Sum.inr x : Ky)).isSome = _
  rw [look_lens, Option.isSome_map]
@[simp] theorem idx_lens (ls : Lens) (x : Tx) : idxD (lensD ls) (.str x) = (lenOf ls x).map D.int := look_lens ls x
/-- a place of the rings -/
def isPl (ls : Lens) (x : Tx) (i : Int) : Bool := match lenOf ls x with
  | some n => decide (0 ≤ i) && decide (i < n)
  | none => false
def badM (ls : Lens) (P : List (Tx × Int)) (Q : List (Tx × Tx)) (t : Mtg) : Bool := !(lenOf ls t.1).isSome || !(lenOf ls t.2.2.1).isSome || decide (t.1 = t.2.2.1) || !isPl ls t.1 t.2.1 || !isPl ls t.2.2.1 t.2.2.2 ||
  decide ((t.1, t.2.1) ∈ P) || decide ((t.2.2.1, t.2.2.2) ∈ P) || decide ((t.1, t.2.2.1) ∈ Q)
def mFault (ls : Lens) : List (Tx × Int) → List (Tx × Tx) → Nat → List Mtg → Option Nat
  | _, _, _, [] => none
  | P, Q, k, t :: r => if badM ls P Q t then some k else mFault ls (P ++ [(t.1, t.2.1), (t.2.2.1, t.2.2.2)]) (Q ++ [(t.1, t.2.2.1), (t.2.2.1, t.1)]) (k + 1) r
def meetFault (ls : Lens) (ms : List Mtg) : Option Nat := mFault ls [] [] 0 ms
abbrev mfBody : List S := [f2_2, f2_4, f2_6, f2_8, f2_9, f2_10]
theorem mf_turn {ls : Lens} {M : D} {b : Bool} {k : Nat} {t : Mtg} {P : List (Tx × Int)} {Q : List (Tx × Tx)} (hP : P.length + 2 ≤ big) (hQ : Q.length + 2 ≤ big) :
    (badM ls P Q t = true → ∃ ρ', turn (tbl pg fuel m) fuel [] (.tup [4, 5]) mfBody [4, 5, 6, 7, 8, 9] (.tup [.int k, mtD b t]) [.val (lensD ls), .val M, .own (.lst (P.map plD)), .own (.lst (Q.map nnD)), .no, .no, .no, .no, .no, .no] = .ret (.val (.int k)) (.val (lensD ls) :: .val M :: ρ')) ∧
    (badM ls P Q t = false → turn (tbl pg fuel m) fuel [] (.tup [4, 5]) mfBody [4, 5, 6, 7, 8, 9] (.tup [.int k, mtD b t]) [.val (lensD ls), .val M, .own (.lst (P.map plD)), .own (.lst (Q.map nnD)), .no, .no, .no, .no, .no, .no] =
      .next [.val (lensD ls), .val M, .own (.lst ((P ++ [(t.1, t.2.1), (t.2.2.1, t.2.2.2)]).map plD)), .own (.lst ((Q ++ [(t.1, t.2.2.1), (t.2.2.1, t.1)]).map nnD)), .no, .no, .no, .no, .no, .no]) := by
  obtain ⟨x, i, y, j⟩ := t
  have p1 : inD (.tup [.str x, .int i]) (.lst (P.map plD)) = some (decide ((x, i) ∈ P)) := inD_enc encP (x, i) P
  have p2 : inD (.tup [.str y, .int j]) (.lst (P.map plD)) = some (decide ((y, j) ∈ P)) := inD_enc encP (y, j) P
  have p3 : inD (.tup [.str x, .str y]) (.lst (Q.map nnD)) = some (decide ((x, y) ∈ Q)) := inD_enc encN (x, y) Q
  unfold badM isPl mfBody
  simp only
  cases e1 : lenOf ls x with
  | none => simp [turn_eq, f2_2, f2_4, f2_3, e1]
  | some n =>
  cases e2 : lenOf ls y with
  | none => simp [turn_eq, f2_2, f2_4, f2_3, e1, e2]
  | some n' =>
  by_cases e3 : x = y
  · subst e3
    simp [turn_eq, f2_2, f2_4, f2_3, e1, e2, pr_eq]
  have e3' : (x == y) = false := by simpa using e3
  by_cases a1 : 0 ≤ i
  case neg => simp [turn_eq, f2_2, f2_4, f2_6, f2_5, e1, e2, e3, e3', pr_eq, a1]
  by_cases a2 : i < n
  case neg => simp [turn_eq, f2_2, f2_4, f2_6, f2_5, e1, e2, e3, e3', pr_eq, a1, a2]
  by_cases a3 : 0 ≤ j
  case neg => simp [turn_eq, f2_2, f2_4, f2_6, f2_5, e1, e2, e3, e3', pr_eq, a1, a2, a3]
  by_cases a4 : j < n'
  case neg => simp [turn_eq, f2_2, f2_4, f2_6, f2_5, e1, e2, e3, e3', pr_eq, a1, a2, a3, a4]
  by_cases a5 : (x, i) ∈ P
  case pos => simp [turn_eq, f2_2, f2_4, f2_6, f2_8, f2_7, e1, e2, e3, e3', pr_eq, a1, a2, a3, a4, p1, a5]
  by_cases a6 : (y, j) ∈ P
  case pos => simp [turn_eq, f2_2, f2_4, f2_6, f2_8, f2_7, e1, e2, e3, e3', pr_eq, a1, a2, a3, a4, p1, p2, a5, a6]
  by_cases a7 : (x, y) ∈ Q
  case pos => simp [turn_eq, f2_2, f2_4, f2_6, f2_8, f2_7, e1, e2, e3, e3', pr_eq, a1, a2, a3, a4, p1, p2, p3, a5, a6, a7]
  simp [turn_eq, f2_2, f2_4, f2_6, f2_8, f2_9, f2_10, e1, e2, e3, e3', pr_eq, a1, a2, a3, a4, p1, p2, p3, a5, a6, a7, hP, hQ, plD, nnD]
theorem mf_loop {ls : Lens} {M : D} {b : Bool} : ∀ (ms : List Mtg) (P : List (Tx × Int)) (Q : List (Tx × Tx)) (k : Nat), P.length + 2 * ms.length ≤ big → Q.length + 2 * ms.length ≤ big →
    (∀ j, mFault ls P Q k ms = some j → ∃ ρ', forN (turn (tbl pg fuel m) fuel [] (.tup [4, 5]) mfBody [4, 5, 6, 7, 8, 9]) (enumD k (ms.map (mtD b))) [.val (lensD ls), .val M, .own (.lst (P.map plD)), .own (.lst (Q.map nnD)), .no, .no, .no, .no, .no, .no] = .ret (.val (.int j)) (.val (lensD ls) :: .val M :: ρ')) ∧
    (mFault ls P Q k ms = none → ∃ s s', forN (turn (tbl pg fuel m) fuel [] (.tup [4, 5]) mfBody [4, 5, 6, 7, 8, 9]) (enumD k (ms.map (mtD b))) [.val (lensD ls), .val M, .own (.lst (P.map plD)), .own (.lst (Q.map nnD)), .no, .no, .no, .no, .no, .no] = .next [.val (lensD ls), .val M, s, s', .no, .no, .no, .no, .no, .no])
  | [], P, Q, k, _, _ => ⟨fun j h => (by cases h), fun _ => ⟨_, _, rfl⟩⟩
  | t :: r, P, Q, k, hP, hQ => by
    simp only [List.length_cons] at hP hQ
    obtain ⟨t1, t2⟩ := mf_turn (pg := pg) (fuel := fuel) (m := m) (ls := ls) (M := M) (b := b) (k := k) (t := t) (P := P) (Q := Q) (by omega) (by omega)
    obtain ⟨i1, i2⟩ := mf_loop (ls := ls) (M := M) (b := b) r (P ++ [(t.1, t.2.1), (t.2.2.1, t.2.2.2)]) (Q ++ [(t.1, t.2.2.1), (t.2.2.1, t.1)]) (k + 1) (by simp; omega) (by simp; omega)
    simp only [List.map_cons, enum_cons]
    unfold mFault
    cases e : badM ls P Q t with
    | true =>
      obtain ⟨ρ', e1⟩ := t1 e
      simp only [if_true, Option.some.injEq, forall_eq', reduceCtorEq, false_implies, and_true]
      exact ⟨ρ', forN_ret e1⟩
    | false =>
      rw [forN_next (t2 e)]
      simp only [Bool.false_eq_true, if_false]
      rw [show ((k : Int) + 1) = ((k + 1 : Nat) : Int) by omega]
      exact ⟨i1, i2⟩
theorem c_meeting_fault (h2 : pg.fns.lookup 2 = some f2) (ls : Lens) (b : Bool) (ms : List Mtg) (hl : 2 * ms.length ≤ big) :
    callN pg fuel (m + 1) 2 [.val (lensD ls), .val (.lst (ms.map (mtD b)))] = .ok (.val (optI (meetFault ls ms)), [.val (lensD ls), .val (.lst (ms.map (mtD b)))]) := by
  obtain ⟨i1, i2⟩ := mf_loop (pg := pg) (fuel := fuel) (m := m) (ls := ls) (M := .lst (ms.map (mtD b))) (b := b) ms [] [] 0 (by simpa using hl) (by simpa using hl)
  rw [call_eq h2, runFn_eq]
  unfold meetFault
  cases e : mFault ls [] [] 0 ms with
  | some j =>
    obtain ⟨ρ', e1⟩ := i1 j e
    simp only [Int.cast_ofNat_Int, List.map_nil] at e1
    simp [f2, f2_0, f2_1, f2_11, optI, e1]
  | none =>
    obtain ⟨s, s', e1⟩ := i2 e
    simp only [Int.cast_ofNat_Int, List.map_nil] at e1
    simp [f2, f2_0, f2_1, f2_11, f2_12, optI, e1]
end
end Mr

/-! webs.py: the making of a web. -/
namespace Mr
open Mr.P
theorem lc_mapf {α : Type} {f g : α → D} {step : D → Rho → R (Option D × Rho)} {ρ : Rho} : ∀ {l : List α}, (∀ a ∈ l, step (f a) ρ = .ok (some (g a), ρ)) → lcGo step (l.map f) ρ = .ok (l.map g, ρ)
  | [], _ => rfl
  | a :: l, h => by
    show (match step (f a) ρ with | .ok (o, ρ1) => (lcGo step (l.map f) ρ1).bind fun (x : List D × Rho) => .ok (match o with | some z => z :: x.1 | none => x.1, x.2) | _ => .stk) = _
    rw [h a (by simp)]
    simp only [lc_mapf (l := l) fun x hx => h x (List.mem_cons_of_mem _ hx), bind_okz, List.map_cons]
/-! ### sorting -/
def sortR (l : List Ring) : List Ring := l.mergeSort fun a b => leD (rgD true a) (rgD true b)
def sortM (l : List Mtg) : List Mtg := l.mergeSort fun a b => leD (mtD true a) (mtD true b)
theorem sortR_map (l : List Ring) : (sortR l).map (rgD true) = sortD (l.map (rgD true)) := List.map_mergeSort fun _ _ _ _ => rfl
theorem sortM_map (l : List Mtg) : (sortM l).map (mtD true) = sortD (l.map (mtD true)) := List.map_mergeSort fun _ _ _ _ => rfl
theorem allAlk_map {α : Type} {f : α → D} (h : ∀ a b, alk (f a) (f b) = true) (l : List α) : allAlk (l.map f) = true := by
  unfold allAlk
  simp only [List.all_eq_true, List.mem_map]
  rintro _ ⟨a, _, rfl⟩ _ ⟨b, _, rfl⟩
  exact h a b
theorem srt_map {α : Type} {f : α → D} (h : ∀ a b, alk (f a) (f b) = true) (ho : ∀ a, okD 50 (f a) = true) (hn : ∀ a, notNil (f a) = true) {l : List α} (hl : l.length ≤ big) : pr .sorted [.lst (l.map f)] = .own (.lst (sortD (l.map f))) := by
  refine pr_sorted (allAlk_map h l) (okDs_all fun d hd => ?_) (by simpa using hl) ?_
  · obtain ⟨a, _, rfl⟩ := List.mem_map.mp hd
    exact okD_up (ho a) (by omega)
  · rw [List.all_eq_true]
    intro d hd
    obtain ⟨a, _, rfl⟩ := List.mem_map.mp hd
    exact hn a
theorem srt_rg {l : List Ring} (hl : l.length ≤ big) : pr .sorted [.lst (l.map (rgD true))] = .own (.lst ((sortR l).map (rgD true))) := by
  rw [sortR_map]
  exact srt_map (fun _ _ => rfl) (fun _ => by simp [rgD]) (fun _ => rfl) hl
theorem srt_mt {l : List Mtg} (hl : l.length ≤ big) : pr .sorted [.lst (l.map (mtD true))] = .own (.lst ((sortM l).map (mtD true))) := by
  rw [sortM_map]
  exact srt_map (fun _ _ => rfl) (fun _ => by simp [mtD]) (fun _ => rfl) hl
theorem sortR_len (l : List Ring) : (sortR l).length = l.length := List.length_mergeSort _
theorem sortM_len (l : List Mtg) : (sortM l).length = l.length := List.length_mergeSort _
theorem sortR_perm (l : List Ring) : (sortR l).Perm l := List.mergeSort_perm _ _
theorem sortM_perm (l : List Mtg) : (sortM l).Perm l := List.mergeSort_perm _ _
/-! ### a web -/
def inOrd (t : Mtg) : Mtg := if ltT t.1 t.2.2.1 then t else (t.2.2.1, t.2.2.2, t.1, t.2.1)
abbrev Pl := Tx × Int
def endsOf (js : List Mtg) : List (Pl × Pl) := js.map fun t => ((t.1, t.2.1), (t.2.2.1, t.2.2.2))
def pairsOf (js : List Mtg) : List (Pl × Pl) := endsOf js ++ (endsOf js).map fun p => (p.2, p.1)
def matesD (js : List Mtg) : D := .dt ((pairsOf js).map fun p => [.inr p.1.1, .inl p.1.2]) ((pairsOf js).map fun p => plD p.2)
structure Wb where
  rings : List Ring
  joints : List Mtg
  lens : Lens
def stepsOf (rs : List Ring) : Lens := rs.map fun r => (r.1, r.2.2)
def lensOf (rs : List Ring) : Lens := rs.map fun r => (r.1, r.2.1)
def webD (w : Wb) : D := .obj 100 [12, 13, 14, 15, 16] [.tup (w.rings.map (rgD true)), .tup (w.joints.map (mtD true)), lensD w.lens, lensD (stepsOf w.rings), matesD w.joints]
def mkWeb (rs : List Ring) (ms : List Mtg) : Wb := ⟨sortR (rs.map fun r => (r.1, r.2.1, r.2.2 % r.2.1)), sortM (ms.map inOrd), lensOf rs⟩
/-- what is known of the rings that are passed -/
theorem rFault_none {names : List Tx} : ∀ {rs : List Ring} {k : Nat}, rFault names k rs = none → ∀ (i : Nat) r, rs[i]? = some r → badR names (k + i) r = false
  | [], k, _, i, r, h => by simp at h
  | q :: rs, k, h, i, r, e => by
    unfold rFault at h
    cases eb : badR names k q with
    | true => rw [eb] at h; simp at h
    | false =>
      rw [eb] at h
      simp only [Bool.false_eq_true, if_false] at h
      cases i with
      | zero => simp at e; subst e; exact eb
      | succ i =>
        have := rFault_none h i r (by simpa using e)
        rw [show k + (i + 1) = k + 1 + i by omega]
        exact this
structure RsOk (rs : List Ring) : Prop where
  nm : ∀ r ∈ rs, isNm r.1 = true
  nd : (rs.map (·.1)).Nodup
  len : ∀ r ∈ rs, 1 ≤ r.2.1
  stp : ∀ r ∈ rs, 1 ≤ r.2.2
  pos : 1 ≤ rs.length
  most : rs.length ≤ 12
theorem badR_false {names : List Tx} {k : Nat} {r : Ring} (h : badR names k r = false) : isNm r.1 = true ∧ r.1 ∉ names.take k ∧ 1 ≤ r.2.1 ∧ 1 ≤ r.2.2 := by
  unfold badR at h
  simp only [Bool.or_eq_false_iff, Bool.not_eq_false', decide_eq_false_iff_not] at h
  obtain ⟨h1, h2, h3, h4⟩ := h
  exact ⟨h1, h2, by omega, by omega⟩
theorem ringFault_none {rs : List Ring} (h : ringFault rs = none) : RsOk rs := by
  unfold ringFault at h
  cases e : rFault (rs.map (·.1)) 0 rs with
  | some k => rw [e] at h; cases h
  | none =>
    rw [e] at h
    simp only at h
    split at h
    · rename_i hl
      have hb : ∀ (i : Nat) r, rs[i]? = some r → _ := fun i r q => badR_false (rFault_none e i r q)
      have mem : ∀ r ∈ rs, ∃ i : Nat, rs[i]? = some r := fun r hr => List.getElem?_of_mem hr
      refine ⟨fun r hr => ?_, ?_, fun r hr => ?_, fun r hr => ?_, hl.1, hl.2⟩
      · obtain ⟨i, q⟩ := mem r hr; exact (hb i r q).1
      · rw [List.nodup_iff_pairwise_ne, List.pairwise_iff_getElem]
        intro i j hi hj hij z
        simp only [List.length_map] at hi hj
        have q := (hb j rs[j] (List.getElem?_eq_getElem hj)).2.1
        rw [Nat.zero_add] at q
        refine q ?_
        simp only [List.getElem_map] at z
        rw [← z, List.mem_take_iff_getElem]
        exact ⟨i, by simp; omega, by simp⟩
      · obtain ⟨i, q⟩ := mem r hr; exact (hb i r q).2.2.1
      · obtain ⟨i, q⟩ := mem r hr; exact (hb i r q).2.2.2
    · cases h
theorem ringFault_ok {rs : List Ring} (h : RsOk rs) : ringFault rs = none := by
  have key : ∀ (l : List Ring) (k : Nat), (∀ (i : Nat) r, l[i]? = some r → rs[k + i]? = some r) → rFault (rs.map (·.1)) k l = none := by
    intro l
    induction l with
    | nil => intro k _; rfl
    | cons r l ih =>
      intro k hk
      unfold rFault
      have hr : rs[k]? = some r := hk 0 r rfl
      have hm := List.mem_of_getElem? hr
      have hb : badR (rs.map (·.1)) k r = false := by
        unfold badR
        have h1 := h.len r hm
        have h2 := h.stp r hm
        simp only [Bool.or_eq_false_iff, Bool.not_eq_false', decide_eq_false_iff_not]
        refine ⟨h.nm r hm, fun z => ?_, by omega, by omega⟩
        rw [List.mem_take_iff_getElem] at z
        obtain ⟨i, hi, e⟩ := z
        simp only [List.length_map] at hi
        have hkl : k < rs.length := (List.getElem?_eq_some_iff.mp hr).1
        have nd := h.nd
        rw [List.nodup_iff_pairwise_ne, List.pairwise_iff_getElem] at nd
        have hne := nd i k (by simp; omega) (by simpa using hkl) (by omega)
        refine hne ?_
        have e2 : rs[k] = r := (List.getElem?_eq_some_iff.mp hr).2
        rw [e]
        simp [e2]
      rw [hb]
      simp only [Bool.false_eq_true, if_false]
      exact ih (k + 1) fun i q hq => by
        rw [show k + 1 + i = k + (i + 1) by omega]
        exact hk (i + 1) q (by simpa using hq)
  unfold ringFault
  rw [key rs 0 fun i r q => by rw [Nat.zero_add]; exact q]
  simp [h.pos, h.most]
/-! ### the meetings that are passed -/
structure Apart (t u : Mtg) : Prop where
  aa : (u.1, u.2.1) ≠ (t.1, t.2.1)
  ab : (u.1, u.2.1) ≠ (t.2.2.1, t.2.2.2)
  ba : (u.2.2.1, u.2.2.2) ≠ (t.1, t.2.1)
  bb : (u.2.2.1, u.2.2.2) ≠ (t.2.2.1, t.2.2.2)
  p : ¬ (u.1 = t.1 ∧ u.2.2.1 = t.2.2.1)
  q : ¬ (u.1 = t.2.2.1 ∧ u.2.2.1 = t.1)
theorem Apart.symm {t u : Mtg} (h : Apart t u) : Apart u t := ⟨h.aa.symm, h.ba.symm, h.ab.symm, h.bb.symm, fun z => h.p ⟨z.1.symm, z.2.symm⟩, fun z => h.q ⟨z.2.symm, z.1.symm⟩⟩
theorem Apart.ordR {t u : Mtg} (h : Apart t u) : Apart t (inOrd u) := by
  unfold inOrd
  split
  · exact h
  · exact ⟨h.ba, h.bb, h.aa, h.ab, fun z => h.q ⟨z.2, z.1⟩, fun z => h.p ⟨z.2, z.1⟩⟩
theorem Apart.ord {t u : Mtg} (h : Apart t u) : Apart (inOrd t) (inOrd u) := (h.ordR.symm.ordR).symm
structure One (ls : Lens) (t : Mtg) : Prop where
  a : isPl ls t.1 t.2.1 = true
  b : isPl ls t.2.2.1 t.2.2.2 = true
  ne : t.1 ≠ t.2.2.1
theorem One.ord {ls : Lens} {t : Mtg} (h : One ls t) : One ls (inOrd t) := by
  unfold inOrd
  split
  · exact h
  · exact ⟨h.b, h.a, fun z => h.ne z.symm⟩
structure MsOk (ls : Lens) (ms : List Mtg) : Prop where
  one : ∀ t ∈ ms, One ls t
  two : ms.Pairwise Apart
theorem badM_iff {ls : Lens} {P : List Pl} {Q : List (Tx × Tx)} {t : Mtg} : badM ls P Q t = false ↔ One ls t ∧ (t.1, t.2.1) ∉ P ∧ (t.2.2.1, t.2.2.2) ∉ P ∧ (t.1, t.2.2.1) ∉ Q := by
  unfold badM
  simp only [Bool.or_eq_false_iff, Bool.not_eq_false', decide_eq_false_iff_not]
  constructor
  · rintro ⟨⟨⟨⟨⟨⟨⟨_, _⟩, h3⟩, h4⟩, h5⟩, h6⟩, h7⟩, h8⟩
    exact ⟨⟨h4, h5, h3⟩, h6, h7, h8⟩
  · rintro ⟨⟨h4, h5, h3⟩, h6, h7, h8⟩
    have s : ∀ {x i}, isPl ls x i = true → (lenOf ls x).isSome = true := fun {x i} z => by
      unfold isPl at z
      cases e : lenOf ls x with
      | none => rw [e] at z; cases z
      | some n => rfl
    exact ⟨⟨⟨⟨⟨⟨⟨s h4, s h5⟩, h3⟩, h4⟩, h5⟩, h6⟩, h7⟩, h8⟩
theorem mFault_iff {ls : Lens} : ∀ {ms : List Mtg} {P : List Pl} {Q : List (Tx × Tx)} {k : Nat}, mFault ls P Q k ms = none ↔ (∀ t ∈ ms, One ls t ∧ (t.1, t.2.1) ∉ P ∧ (t.2.2.1, t.2.2.2) ∉ P ∧ (t.1, t.2.2.1) ∉ Q) ∧ ms.Pairwise Apart
  | [], P, Q, k => by simp [mFault]
  | t :: r, P, Q, k => by
    unfold mFault
    cases e : badM ls P Q t with
    | true =>
      simp only [if_true, reduceCtorEq, false_iff]
      rintro ⟨h, _⟩
      rw [badM_iff.mpr (h t (by simp))] at e
      cases e
    | false =>
      simp only [Bool.false_eq_true, if_false, mFault_iff, List.pairwise_cons]
      have e := badM_iff.mp e
      constructor
      · rintro ⟨h1, h2⟩
        refine ⟨fun u hu => ?_, fun u hu => ?_, h2⟩
        · rcases List.mem_cons.mp hu with rfl | hu
          · exact e
          · obtain ⟨a, b, c, d⟩ := h1 u hu
            exact ⟨a, fun z => b (List.mem_append_left _ z), fun z => c (List.mem_append_left _ z), fun z => d (List.mem_append_left _ z)⟩
        · obtain ⟨a, b, c, d⟩ := h1 u hu
          simp only [List.mem_append, List.mem_cons, List.not_mem_nil, or_false, not_or] at b c d
          refine ⟨b.2.1, b.2.2, c.2.1, c.2.2, fun z => d.2.1 (by rw [z.1, z.2]), fun z => d.2.2 (by rw [z.1, z.2])⟩
      · rintro ⟨h1, h2, h3⟩
        refine ⟨fun u hu => ?_, h3⟩
        obtain ⟨a, b, c, d⟩ := h1 u (List.mem_cons_of_mem _ hu)
        have q := h2 u hu
        simp only [List.mem_append, List.mem_cons, List.not_mem_nil, or_false, not_or]
        exact ⟨a, ⟨b, q.aa, q.ab⟩, ⟨c, q.ba, q.bb⟩, d, fun z => q.p ⟨(Prod.mk.inj z).1, (Prod.mk.inj z).2⟩, fun z => q.q ⟨(Prod.mk.inj z).1, (Prod.mk.inj z).2⟩⟩
theorem meetFault_iff {ls : Lens} {ms : List Mtg} : meetFault ls ms = none ↔ MsOk ls ms := by
  unfold meetFault
  rw [mFault_iff]
  simp only [List.not_mem_nil, not_false_eq_true, and_true]
  exact ⟨fun h => ⟨h.1, h.2⟩, fun h => ⟨h.1, h.2⟩⟩
theorem MsOk.perm {ls : Lens} {ms ms' : List Mtg} (h : MsOk ls ms) (p : ms'.Perm ms) : MsOk ls ms' := ⟨fun t ht => h.one t (p.mem_iff.mp ht), (p.pairwise_iff fun h => h.symm).mpr h.two⟩
theorem MsOk.ord {ls : Lens} {ms : List Mtg} (h : MsOk ls ms) : MsOk ls (ms.map inOrd) := ⟨fun t ht => by
  obtain ⟨u, hu, rfl⟩ := List.mem_map.mp ht
  exact (h.one u hu).ord, by
  rw [List.pairwise_map]
  exact h.two.imp fun h => h.ord⟩
theorem pw_all {α : Type} {R : α → α → Prop} (sy : ∀ {a b}, R a b → R b a) : ∀ {l : List α}, l.Pairwise R → ∀ {a b}, a ∈ l → b ∈ l → a ≠ b → R a b
  | [], _, a, b, h, _, _ => by simp at h
  | c :: l, p, a, b, ha, hb, ne => by
    rw [List.pairwise_cons] at p
    rcases List.mem_cons.mp ha with e | ha'
    · rcases List.mem_cons.mp hb with e' | hb'
      · exact absurd (e.trans e'.symm) ne
      · rw [e]; exact p.1 b hb'
    · rcases List.mem_cons.mp hb with e' | hb'
      · rw [e']; exact sy (p.1 a ha')
      · exact pw_all sy p.2 ha' hb' ne
/-- the keys of mates are different -/
theorem MsOk.keys {ls : Lens} {js : List Mtg} (h : MsOk ls js) : ((pairsOf js).map (·.1)).Nodup := by
  unfold pairsOf endsOf
  rw [List.map_append, List.map_map, List.map_map, List.map_map, List.nodup_append]
  refine ⟨?_, ?_, ?_⟩
  · rw [List.nodup_iff_pairwise_ne, List.pairwise_map]
    exact h.two.imp fun z e => z.aa e.symm
  · rw [List.nodup_iff_pairwise_ne, List.pairwise_map]
    exact h.two.imp fun z e => z.bb e.symm
  · intro a ha b hb z
    obtain ⟨t, ht, rfl⟩ := List.mem_map.mp ha
    obtain ⟨u, hu, rfl⟩ := List.mem_map.mp hb
    simp only [Function.comp_apply] at z
    by_cases e : t = u
    · subst e
      exact (h.one t ht).ne (Prod.mk.inj z).1
    · have hp : Apart t u := by
        have q := h.two
        exact pw_all (fun h => h.symm) q ht hu e
      exact hp.ba z.symm
end Mr

/-! webs.py: Web(rings, meetings), in order. -/
namespace Mr
open Mr.P
theorem rgT {r : Ring} : rgD true r = .tup [.str r.1, .int r.2.1, .int r.2.2] := rfl
theorem mtT {r : Mtg} : mtD true r = .tup [.str r.1, .int r.2.1, .str r.2.2.1, .int r.2.2.2] := rfl
structure WebP (pg : Pg) : Prop where
  p0 : pg.fns.lookup 0 = some f0
  p1 : pg.fns.lookup 1 = some f1
  p2 : pg.fns.lookup 2 = some f2
  p3 : pg.fns.lookup 3 = some f3
  p4 : pg.fns.lookup 4 = some f4
  init : pg.init 100 = some 4
  fld : ∀ f, f = 12 ∨ f = 13 ∨ f = 14 ∨ f = 15 ∨ f = 16 → pg.fld 100 f = true
theorem name_len {x : Tx} (h : isNm x = true) : x.length ≤ 8 := by
  cases x with
  | nil => simp
  | cons c r =>
    unfold isNm at h
    simp only [Bool.and_eq_true, decide_eq_true_eq] at h
    simp
    omega
theorem nodup_map {α β : Type} {f : α → β} (hf : ∀ a b, f a = f b → a = b) : ∀ {l : List α}, l.Nodup → (l.map f).Nodup
  | [], _ => by simp
  | a :: l, h => by
    rw [List.map_cons, List.nodup_cons]
    rw [List.nodup_cons] at h
    refine ⟨fun z => ?_, nodup_map hf h.2⟩
    obtain ⟨b, hb, e⟩ := List.mem_map.mp z
    exact h.1 (hf b a e ▸ hb)
theorem dict_lens {α : Type} (f : α → Tx) (g : α → Int) {l : List α} (nd : (l.map f).Nodup) (hl : l.length < big) (ρ : Rho) : dictR false (l.map fun a => .tup [.str (f a), .int (g a)]) ρ = .ok (.own (lensD (l.map fun a => (f a, g a))), ρ) := by
  unfold dictR
  simp only [Bool.false_eq_true, if_false]
  rw [pairsK_map f (fun a => .int (g a)) l]
  simp only [List.length_map]
  rw [if_pos hl, merge_new (by simp) (by
    have : (l.map fun a => (Sum.inr (f a) : Ky)) = (l.map f).map Sum.inr := by rw [List.map_map]; rfl
    rw [this]
    exact nodup_map (fun a b h => Sum.inr.inj h) nd)]
  unfold lensD
  rw [List.map_map, List.map_map]
  rfl
theorem dict_mates {js : List Mtg} (nd : ((pairsOf js).map (·.1)).Nodup) : pr .dictT [.lst ((pairsOf js).map fun p => .tup [plD p.1, plD p.2])] = .own (matesD js) := by
  show (match pairsT ((pairsOf js).map fun p => .tup [plD p.1, plD p.2]) with | some (ks, vs) => let r := merge ks vs [] []; Sl.own (.dt r.1 r.2) | none => Sl.no) = _
  rw [pairsT_map (fun p : Pl × Pl => p.1) (fun p => plD p.2)]
  simp only
  rw [merge_new (by simp) (by
    have : ((pairsOf js).map fun a => ([.inr a.1.1, .inl a.1.2] : List Ky)) = ((pairsOf js).map (·.1)).map fun q => [.inr q.1, .inl q.2] := by rw [List.map_map]; rfl
    rw [this]
    refine nodup_map (fun a b h => ?_) nd
    simp only [List.cons.injEq, Sum.inr.injEq, Sum.inl.injEq, and_true] at h
    exact Prod.ext h.1 h.2)]
  rfl
section
variable {pg : Pg} {fuel m : Nat}
theorem c_web_init (W : WebP pg) (b c : Bool) (rs : List Ring) (ms : List Mtg) (hr : RsOk rs) (hm : MsOk (lensOf rs) ms) (hl : 4 * ms.length ≤ big) :
    ∃ os, callN pg fuel (m + 3) 4 [.own (.obj 100 [] []), .val (.lst (rs.map (rgD b))), .val (.lst (ms.map (mtD c)))] = .ok (.val .non, .own (webD (mkWeb rs ms)) :: os) := by
  have hb12 : (12 : Nat) ≤ big := by decide
  have hrl : rs.length ≤ big := Nat.le_trans hr.most hb12
  have hml : ms.length ≤ big := by omega
  have k1 := c_ring_fault (fuel := fuel) (m := m) W.p0 W.p1 b rs (fun r h => Nat.le_trans (name_len (hr.nm r h)) (by decide)) hrl
  rw [ringFault_ok hr] at k1
  have k2 := c_meeting_fault (fuel := fuel) (m := m + 1) W.p2 (lensOf rs) c ms (by omega)
  rw [meetFault_iff.mpr hm] at k2
  have d1 : ∀ a0 a1 a2 a3 a4 a5 a9 a10 a11 a12 a13 a14 : Sl, lcGo (dcT (tbl pg fuel (m + 2)) (.tup [6, 7, 8]) [] f4_e0 f4_e1 [6, 7, 8]) (rs.map (rgD b)) [a0, a1, a2, a3, a4, a5, .no, .no, .no, a9, a10, a11, a12, a13, a14] =
      .ok (rs.map fun r => .tup [.str r.1, .int r.2.1], [a0, a1, a2, a3, a4, a5, .no, .no, .no, a9, a10, a11, a12, a13, a14]) := fun a0 a1 a2 a3 a4 a5 a9 a10 a11 a12 a13 a14 => lc_mapf fun r _ => by simp [dcT, f4_e0, f4_e1]
  have d2 : ∀ a0 a1 a2 a3 a4 a5 a9 a10 a11 a12 a13 a14 : Sl, lcGo (lcT (tbl pg fuel (m + 2)) (.tup [6, 7, 8]) [] f4_e2 [6, 7, 8]) (rs.map (rgD b)) [a0, a1, a2, a3, a4, a5, .no, .no, .no, a9, a10, a11, a12, a13, a14] =
      .ok ((rs.map fun r => (r.1, r.2.1, r.2.2 % r.2.1)).map (rgD true), [a0, a1, a2, a3, a4, a5, .no, .no, .no, a9, a10, a11, a12, a13, a14]) := fun a0 a1 a2 a3 a4 a5 a9 a10 a11 a12 a13 a14 => by
    rw [List.map_map]
    exact lc_mapf fun r h => by
      have := hr.len r h
      simp [lcT, f4_e2, pr_mod (show 0 < r.2.1 by omega), rgT]
  have d3 : ∀ a0 a1 a2 a3 a4 a5 a6 a7 a8 a9 a10 a11 a13 a14 : Sl, lcGo (lcT (tbl pg fuel (m + 2)) (.one 12) [] f4_e3 [12]) (ms.map (mtD c)) [a0, a1, a2, a3, a4, a5, a6, a7, a8, a9, a10, a11, .no, a13, a14] =
      .ok ((ms.map inOrd).map (mtD true), [a0, a1, a2, a3, a4, a5, a6, a7, a8, a9, a10, a11, .no, a13, a14]) := fun a0 a1 a2 a3 a4 a5 a6 a7 a8 a9 a10 a11 a13 a14 => by
    rw [List.map_map]
    exact lc_mapf fun t h => by
      have := c_in_order (fuel := fuel) (m := m + 1) W.p3 c t
      simp [lcT, f4_e3, this, inOrd]
  have d4 : ∀ (l : List Ring) (a0 a1 a2 a3 a4 a5 a9 a10 a11 a12 a13 a14 : Sl), lcGo (dcT (tbl pg fuel (m + 2)) (.tup [6, 7, 8]) [] f4_e4 f4_e5 [6, 7, 8]) (l.map (rgD true)) [a0, a1, a2, a3, a4, a5, .no, .no, .no, a9, a10, a11, a12, a13, a14] =
      .ok (l.map fun r => .tup [.str r.1, .int r.2.2], [a0, a1, a2, a3, a4, a5, .no, .no, .no, a9, a10, a11, a12, a13, a14]) := fun l a0 a1 a2 a3 a4 a5 a9 a10 a11 a12 a13 a14 => lc_mapf fun r _ => by simp [dcT, f4_e4, f4_e5]
  have d5 : ∀ (l : List Mtg) (a0 a1 a2 a3 a4 a5 a7 a8 a12 a13 a14 : Sl), lcGo (lcT (tbl pg fuel (m + 2)) (.tup [6, 9, 10, 11]) [] f4_e6 [6, 9, 10, 11]) (l.map (mtD true)) [a0, a1, a2, a3, a4, a5, .no, a7, a8, .no, .no, .no, a12, a13, a14] =
      .ok ((endsOf l).map fun p => .tup [plD p.1, plD p.2], [a0, a1, a2, a3, a4, a5, .no, a7, a8, .no, .no, .no, a12, a13, a14]) := fun l a0 a1 a2 a3 a4 a5 a7 a8 a12 a13 a14 => by
    unfold endsOf
    rw [List.map_map]
    exact lc_mapf fun t _ => by simp [lcT, f4_e6, plD]
  have d6 : ∀ (l : List (Pl × Pl)) (a0 a1 a2 a3 a4 a5 a6 a7 a8 a9 a10 a11 a12 : Sl), lcGo (lcT (tbl pg fuel (m + 2)) (.tup [13, 14]) [] f4_e7 [13, 14]) (l.map fun p => .tup [plD p.1, plD p.2]) [a0, a1, a2, a3, a4, a5, a6, a7, a8, a9, a10, a11, a12, .no, .no] =
      .ok ((l.map fun p => (p.2, p.1)).map fun p => .tup [plD p.1, plD p.2], [a0, a1, a2, a3, a4, a5, a6, a7, a8, a9, a10, a11, a12, .no, .no]) := fun l a0 a1 a2 a3 a4 a5 a6 a7 a8 a9 a10 a11 a12 => by
    rw [List.map_map]
    exact lc_mapf fun t _ => by simp [lcT, f4_e7]
  have e1 := fun ρ => dict_lens (fun r : Ring => r.1) (fun r => r.2.1) (l := rs) hr.nd (by have := hr.most; unfold big; omega) ρ
  rw [show (rs.map fun a => (a.1, a.2.1)) = lensOf rs from rfl] at e1
  have nd2 : ((mkWeb rs ms).rings.map (·.1)).Nodup := by
    have hp := ((sortR_perm (rs.map fun r => (r.1, r.2.1, r.2.2 % r.2.1))).map (·.1))
    refine hp.nodup_iff.mpr ?_
    rw [List.map_map]
    exact hr.nd
  have hl2 : (mkWeb rs ms).rings.length = rs.length := by rw [show (mkWeb rs ms).rings = sortR _ from rfl, sortR_len, List.length_map]
  have e2 := fun ρ => dict_lens (fun r : Ring => r.1) (fun r => r.2.2) (l := (mkWeb rs ms).rings) nd2 (by have := hr.most; rw [hl2]; unfold big; omega) ρ
  rw [show ((mkWeb rs ms).rings.map fun a => (a.1, a.2.2)) = stepsOf (mkWeb rs ms).rings from rfl] at e2
  have hj : MsOk (lensOf rs) (mkWeb rs ms).joints := hm.ord.perm (sortM_perm _)
  have e3 := dict_mates hj.keys
  have hjl : (mkWeb rs ms).joints.length = ms.length := by rw [show (mkWeb rs ms).joints = sortM _ from rfl, sortM_len, List.length_map]
  have s1 := srt_rg (l := rs.map fun r => (r.1, r.2.1, r.2.2 % r.2.1)) (by simpa using hrl)
  rw [show sortR (rs.map fun r => (r.1, r.2.1, r.2.2 % r.2.1)) = (mkWeb rs ms).rings from rfl] at s1
  have s2 := srt_mt (l := ms.map inOrd) (by simpa using hml)
  rw [show sortM (ms.map inOrd) = (mkWeb rs ms).joints from rfl] at s2
  have hel : (endsOf (mkWeb rs ms).joints).length = ms.length := by unfold endsOf; rw [List.length_map, hjl]
  have q1 := W.fld 12 (by simp)
  have q2 := W.fld 13 (by simp)
  have q3 := W.fld 14 (by simp)
  have q4 := W.fld 15 (by simp)
  have q5 := W.fld 16 (by simp)
  have ad : addD (.lst ((endsOf (mkWeb rs ms).joints).map fun p => .tup [plD p.1, plD p.2])) (.lst (((endsOf (mkWeb rs ms).joints).map fun p => (p.2, p.1)).map fun p => .tup [plD p.1, plD p.2])) = .own (.lst ((pairsOf (mkWeb rs ms).joints).map fun p => .tup [plD p.1, plD p.2])) := by
    rw [addD_lst (by simp [hel]; omega), ← List.map_append]
    rfl
  have hrl' : (rs.map fun r => ((r.1, r.2.1, r.2.2 % r.2.1) : Ring)).length ≤ big := by simpa using hrl
  have hml' : (ms.map inOrd).length ≤ big := by simpa using hml
  have hel' : ((endsOf (mkWeb rs ms).joints).map fun p => (p.2, p.1)).length ≤ big := by rw [List.length_map, hel]; exact hml
  have hwl : (mkWeb rs ms).lens = lensOf rs := rfl
  have d6' := d6 (endsOf (mkWeb rs ms).joints)
  generalize (rs.map fun r => ((r.1, r.2.1, r.2.2 % r.2.1) : Ring)) = rs' at d2 s1 hrl'
  generalize ms.map inOrd = ms' at d3 s2 hml'
  generalize ((endsOf (mkWeb rs ms).joints).map fun p => (p.2, p.1)) = sw at d6' ad hel'
  generalize mkWeb rs ms = w at *
  rw [call_eq W.p4, runFn_eq]
  simp [f4, f4_0, f4_2, f4_3, f4_4, f4_6, k1, k2, d1, optI, unblk, e1]
  simp [f4_7, d2, s1, q1, putO, unblk, hrl']
  simp [f4_8, d3, s2, q2, putO, unblk, hml']
  simp [f4_9, q3, putO]
  simp [f4_10, d4, q1, q4, e2, putO, unblk]
  simp [f4_11, d5, q2, putO, unblk, hel, hml]
  simp [f4_12, d6', ad, e3, q5, putO, unblk, hel', webD, hwl]
end
end Mr

/-! webs.py: small methods. -/
namespace Mr
open Mr.P
theorem encR : Enc Ring (rgD true) := ⟨fun a b => by
  obtain ⟨a1, a2, a3⟩ := a
  obtain ⟨b1, b2, b3⟩ := b
  simp only [rgT, eqD_tup, eqDs_cons, eqD_str, eqD_int, eqDs_nil, Bool.and_true, Prod.mk.injEq, Bool.decide_and, beqT], fun a => by simp [rgT]⟩
theorem encM : Enc Mtg (mtD true) := ⟨fun a b => by
  obtain ⟨a1, a2, a3, a4⟩ := a
  obtain ⟨b1, b2, b3, b4⟩ := b
  simp only [mtT, eqD_tup, eqDs_cons, eqD_str, eqD_int, eqDs_nil, Bool.and_true, Prod.mk.injEq, Bool.decide_and, beqT], fun a => by simp [mtT]⟩
def passed (r : Ring) : Ring := (r.1, r.2.1, if r.2.2 = 0 then r.2.1 else r.2.2)
/-- the small methods of a web -/
structure WebM (pg : Pg) : Prop extends WebP pg where
  p5 : pg.fns.lookup 5 = some f5
  p8 : pg.fns.lookup 8 = some f8
  p9 : pg.fns.lookup 9 = some f9
  p11 : pg.fns.lookup 11 = some f11
  p12 : pg.fns.lookup 12 = some f12
  p13 : pg.fns.lookup 13 = some f13
  p21 : pg.fns.lookup 21 = some f21
  eqm : pg.eqm 100 = some 5
  mCheck : pg.meth 100 17 = some 9
  mPass : pg.meth 100 21 = some 21
  mNames : pg.meth 100 22 = some 8
  mStep : pg.meth 100 27 = some 11
  mMeet : pg.meth 100 28 = some 12
  pSpots : pg.prop 100 29 = some 13
section
variable {pg : Pg} {fuel m : Nat} {w : Wb}
theorem c_names (W : WebM pg) (hl : w.rings.length ≤ big) : callN pg fuel (m + 1) 8 [.val (webD w)] = .ok (.own (.lst (w.rings.map fun r => .str r.1)), [.val (webD w)]) := by
  have d1 : lcGo (lcT (tbl pg fuel m) (.tup [1, 2, 3]) [] f8_e0 [1, 2, 3]) (w.rings.map (rgD true)) [.val (webD w), .no, .no, .no] = .ok (w.rings.map fun r => .str r.1, [.val (webD w), .no, .no, .no]) := lc_mapf fun r _ => by simp [lcT, f8_e0]
  have q1 := W.fld 12 (by simp)
  have e : attrS (tbl pg fuel m) 12 (webD w) = .val (.tup (w.rings.map (rgD true))) := by simp [webD, q1]
  rw [call_eq W.p8, runFn_eq]
  simp [f8, f8_0, e, d1, unblk, hl]
theorem c_passed (W : WebM pg) (hl : w.rings.length ≤ big) : callN pg fuel (m + 1) 21 [.val (webD w)] = .ok (.val (.tup ((w.rings.map passed).map (rgD true))), [.val (webD w)]) := by
  have d1 : lcGo (lcT (tbl pg fuel m) (.tup [1, 2, 3]) [] f21_e0 [1, 2, 3]) (w.rings.map (rgD true)) [.val (webD w), .no, .no, .no] = .ok ((w.rings.map passed).map (rgD true), [.val (webD w), .no, .no, .no]) := by
    rw [List.map_map]
    exact lc_mapf fun r _ => by
      by_cases h : r.2.2 = 0
      · simp [lcT, f21_e0, rgT, passed, h]
      · have h' : (r.2.2 != 0) = true := by simpa using h
        simp [lcT, f21_e0, rgT, passed, h, h']
  have hl' : (w.rings.map passed).length ≤ big := by simpa using hl
  have q1 := W.fld 12 (by simp)
  have e : attrS (tbl pg fuel m) 12 (webD w) = .val (.tup (w.rings.map (rgD true))) := by simp [webD, q1]
  generalize w.rings.map passed = pr' at *
  rw [call_eq W.p21, runFn_eq]
  simp [f21, f21_0, e, d1, unblk, hl']
theorem c_meetings (W : WebM pg) : callN pg fuel (m + 1) 12 [.val (webD w)] = .ok (.own (.lst (w.joints.map (mtD true))), [.val (webD w)]) := by
  have q1 := W.fld 13 (by simp)
  have e : attrS (tbl pg fuel m) 13 (webD w) = .val (.tup (w.joints.map (mtD true))) := by simp [webD, q1]
  rw [call_eq W.p12, runFn_eq]
  simp [f12, f12_0, e]
theorem c_spots (W : WebM pg) (hl : w.rings.length ≤ big) (hj : w.joints.length ≤ big) : callN pg fuel (m + 1) 13 [.val (webD w)] = .ok (.val (.int ((w.rings.map fun r => r.2.1).sum - w.joints.length)), [.val (webD w)]) := by
  have d1 : lcGo (lcT (tbl pg fuel m) (.tup [1, 2, 3]) [] f13_e0 [1, 2, 3]) (w.rings.map (rgD true)) [.val (webD w), .no, .no, .no] = .ok (w.rings.map fun r => .int r.2.1, [.val (webD w), .no, .no, .no]) := lc_mapf fun r _ => by simp [lcT, f13_e0]
  have q1 := W.fld 12 (by simp)
  have q2 := W.fld 13 (by simp)
  have e : attrS (tbl pg fuel m) 12 (webD w) = .val (.tup (w.rings.map (rgD true))) := by simp [webD, q1]
  have e2 : attrS (tbl pg fuel m) 13 (webD w) = .val (.tup (w.joints.map (mtD true))) := by simp [webD, q2]
  have h3 : pr .len [.tup (w.joints.map (mtD true))] = .val (.int (w.joints.length : Int)) := by rw [pr_lenT (by simpa using hj), List.length_map]
  rw [call_eq W.p13, runFn_eq]
  simp [f13, f13_0, e, e2, d1, unblk, hl, pr_sum (ints_map _ _), h3]
theorem c_check (W : WebM pg) {x : Tx} (h : (lenOf w.lens x).isSome = true) : callN pg fuel (m + 1) 9 [.val (webD w), .val (.str x)] = .ok (.val .non, [.val (webD w), .val (.str x)]) := by
  have q1 := W.fld 14 (by simp)
  have e : attrS (tbl pg fuel m) 14 (webD w) = .val (lensD w.lens) := by simp [webD, q1]
  rw [call_eq W.p9, runFn_eq]
  simp [f9, f9_1, e, h]
theorem c_step (W : WebM pg) {x : Tx} {n : Int} (h : (lenOf w.lens x).isSome = true) (h2 : lenOf (stepsOf w.rings) x = some n) : callN pg fuel (m + 2) 11 [.val (webD w), .val (.str x)] = .ok (.val (.int n), [.val (webD w), .val (.str x)]) := by
  have q1 := W.fld 15 (by simp)
  have e : attrS (tbl pg fuel (m + 1)) 15 (webD w) = .val (lensD (stepsOf w.rings)) := by simp [webD, q1]
  have k := c_check (fuel := fuel) (m := m) W h
  have mf : methF (tbl pg fuel (m + 1)) 17 (webD w) = some 9 := by simp [webD, W.mCheck]
  rw [call_eq W.p11, runFn_eq]
  simp [f11, f11_0, f11_1, e, mf, k, h2]
theorem c_web_eq (W : WebM pg) {v : Wb} : callN pg fuel (m + 1) 5 [.val (webD w), .val (webD v)] = .ok (.val (.bl (decide (w.rings = v.rings) && decide (w.joints = v.joints))), [.val (webD w), .val (webD v)]) := by
  have q1 := W.fld 12 (by simp)
  have q2 := W.fld 13 (by simp)
  have e : ∀ w : Wb, attrS (tbl pg fuel m) 12 (webD w) = .val (.tup (w.rings.map (rgD true))) := fun w => by simp [webD, q1]
  have e2 : ∀ w : Wb, attrS (tbl pg fuel m) 13 (webD w) = .val (.tup (w.joints.map (mtD true))) := fun w => by simp [webD, q2]
  have i : isiS (tbl pg fuel m) 100 (webD v) = .val (.bl true) := by simp [webD, W.init]
  have r1 : pr .eq [.tup (w.rings.map (rgD true)), .tup (v.rings.map (rgD true))] = .val (.bl (decide (w.rings = v.rings))) := by
    rw [pr_eq (by rw [okD_tup]; exact encR.okL (by omega) _) (by rw [okD_tup]; exact encR.okL (by omega) _), eqD_tup, eqDs_enc encR]
  have r2 : pr .eq [.tup (w.joints.map (mtD true)), .tup (v.joints.map (mtD true))] = .val (.bl (decide (w.joints = v.joints))) := by
    rw [pr_eq (by rw [okD_tup]; exact encM.okL (by omega) _) (by rw [okD_tup]; exact encM.okL (by omega) _), eqD_tup, eqDs_enc encM]
  rw [call_eq W.p5, runFn_eq]
  simp only [f5, f5_0]
  simp [e, e2, i, r1, r2, -Bool.decide_and]
end
end Mr

/-! Figures; texts cut and joined. -/
namespace Mr
open Mr.P
theorem splitT_skip {c : Nat} : ∀ (w acc r : Tx), c ∉ w → splitT c acc (w ++ r) = splitT c (w.reverse ++ acc) r
  | [], acc, r, _ => by simp
  | a :: w, acc, r, h => by
    have ha : ¬ a = c := fun z => h (by simp [z])
    rw [List.cons_append]
    simp only [splitT, if_neg ha]
    rw [splitT_skip w (a :: acc) r fun z => h (List.mem_cons_of_mem _ z)]
    simp
theorem splitT_join {c : Nat} : ∀ {ws : List Tx}, ws ≠ [] → (∀ w ∈ ws, c ∉ w) → splitT c [] (joinT [c] ws) = ws
  | [], h, _ => absurd rfl h
  | [w], _, h => by
    have := splitT_skip (c := c) w [] [] (h w (by simp))
    simp only [List.append_nil] at this
    simp [joinT, this, splitT]
  | w :: v :: r, _, h => by
    have ih := splitT_join (c := c) (ws := v :: r) (by simp) fun x hx => h x (List.mem_cons_of_mem _ hx)
    simp only [joinT]
    rw [List.append_assoc, splitT_skip w [] _ (h w (by simp))]
    simp [splitT, ih]
theorem digits_ne (n : Nat) : digits n ≠ [] := by
  unfold digits
  simp [Nat.toDigits_ne_nil]
theorem digits_fig (n : Nat) : ∀ c ∈ digits n, 48 ≤ c ∧ c ≤ 57 := by
  intro c hc
  unfold digits at hc
  obtain ⟨d, hd, rfl⟩ := List.mem_map.mp hc
  have := Nat.isDigit_of_mem_toDigits (by omega) (by omega) hd
  unfold Char.isDigit at this
  simp only [ge_iff_le, Bool.and_eq_true, decide_eq_true_eq] at this
  constructor
  · exact this.1
  · exact this.2
theorem digits_len {n k : Nat} (hk : 0 < k) (h : n < 10 ^ k) : (digits n).length ≤ k := by
  unfold digits
  rw [List.length_map]
  exact (Nat.length_toDigits_le_iff (by omega) hk).mpr h
theorem digits_big {n : Nat} (h : 10 ≤ n) : digits n = digits (n / 10) ++ [(n % 10) + 48] := by
  unfold digits
  rw [Nat.toDigits_of_base_le (by omega) h, List.map_append]
  congr 1
  have : n % 10 < 10 := Nat.mod_lt _ (by omega)
  generalize n % 10 = q at *
  have : q = 0 ∨ q = 1 ∨ q = 2 ∨ q = 3 ∨ q = 4 ∨ q = 5 ∨ q = 6 ∨ q = 7 ∨ q = 8 ∨ q = 9 := by omega
  rcases this with rfl | rfl | rfl | rfl | rfl | rfl | rfl | rfl | rfl | rfl <;> rfl
theorem digits_small {n : Nat} (h : n < 10) : digits n = [n + 48] := by
  unfold digits
  rw [Nat.toDigits_of_lt_base h]
  have : n = 0 ∨ n = 1 ∨ n = 2 ∨ n = 3 ∨ n = 4 ∨ n = 5 ∨ n = 6 ∨ n = 7 ∨ n = 8 ∨ n = 9 := by omega
  rcases this with rfl | rfl | rfl | rfl | rfl | rfl | rfl | rfl | rfl | rfl <;> rfl
/-- no zero ahead -/
theorem digits_head : ∀ (n : Nat), 0 < n → ∃ c r, digits n = c :: r ∧ c ≠ 48 := by
  intro n
  induction n using Nat.strongRecOn with
  | _ n ih =>
    intro hn
    by_cases h : n < 10
    · rw [digits_small h]
      exact ⟨n + 48, [], rfl, by omega⟩
    · obtain ⟨c, r, e, hc⟩ := ih (n / 10) (by omega) (by omega)
      rw [digits_big (by omega), e]
      exact ⟨c, _, rfl, hc⟩
theorem natOf_app (x : Tx) (c : Nat) : natOf (x ++ [c]) = natOf x * 10 + (c - 48) := by
  unfold natOf
  rw [List.foldl_append]
  rfl
theorem natOf_digits : ∀ n : Nat, natOf (digits n) = n := by
  intro n
  induction n using Nat.strongRecOn with
  | _ n ih =>
    by_cases h : n < 10
    · rw [digits_small h]
      simp [natOf]
    · rw [digits_big (by omega), natOf_app, ih (n / 10) (by omega)]
      omega
theorem intTx_nat {n : Int} (h : 0 ≤ n) : intTx n = digits n.toNat := by
  unfold intTx
  rw [if_neg (by omega)]
  congr 1
  omega
theorem intOf_digits (n : Nat) : intOf (digits n) = some (n : Int) := by
  have hall : (digits n).all isDig = true := by
    rw [List.all_eq_true]
    intro c hc
    have := digits_fig n c hc
    simp [isDig, this]
  cases e : digits n with
  | nil => exact absurd e (digits_ne n)
  | cons a r =>
    have ha := digits_fig n a (by rw [e]; simp)
    rw [e] at hall
    have : intOf (a :: r) = if (a :: r).all isDig then some ((natOf (a :: r) : Nat) : Int) else none := by
      unfold intOf
      split
      · rename_i q; cases q
      · rename_i b r' q
        cases q
        omega
      · rename_i b r' _ q
        cases q
        rfl
    rw [this, hall, ← e, natOf_digits]
    rfl
theorem takeWhile_all {α : Type} {p : α → Bool} : ∀ {l : List α}, (∀ a ∈ l, p a = true) → l.takeWhile p = l
  | [], _ => rfl
  | a :: l, h => by rw [List.takeWhile_cons, h a (by simp), takeWhile_all fun x hx => h x (List.mem_cons_of_mem _ hx)]; rfl
theorem figs_mem {c : Nat} : c ∈ k_FIGURES ↔ 48 ≤ c ∧ c ≤ 57 := by
  unfold k_FIGURES
  simp only [List.mem_cons, List.not_mem_nil, or_false]
  omega
theorem strip_figs {x : Tx} (h : ∀ c ∈ x, 48 ≤ c ∧ c ≤ 57) : stripT k_FIGURES x = [] := by
  have e : x.takeWhile k_FIGURES.contains = x := takeWhile_all fun a ha => by
    rw [List.contains_iff_mem]
    exact figs_mem.mpr (h a ha)
  unfold stripT
  simp only [e]
  simp
end Mr

/-! Webs that are well made. -/
namespace Mr
open Mr.P
/-! ### order -/
def leN (a b : Ring) : Bool := !ltT b.1 a.1
def ltP (a b : Pl) : Bool := ltT a.1 b.1 || (decide (a.1 = b.1) && decide (a.2 < b.2))
def leP (a b : Mtg) : Bool := !ltP (b.1, b.2.1) (a.1, a.2.1)
theorem leD_self {d : D} (h : ∃ o, cmpD d d = some o ∧ o ≠ .gt) : leD d d = true := by
  obtain ⟨o, h, n⟩ := h
  unfold leD
  rw [h]
  cases o <;> first | rfl | exact absurd rfl n
theorem leD_rg {a b : Ring} (h : a = b ∨ a.1 ≠ b.1) : leD (rgD true a) (rgD true b) = leN a b := by
  unfold leD leN
  rw [rgT, rgT, cmpD_tup, cmpDs_cons, cmpD_str]
  rcases h with rfl | h
  · simp only [ltT_irrz, Bool.false_eq_true, if_false, cmpDs_cons, cmpD_int, Int.lt_irrefl, cmpDs]
    rfl
  · cases e : ltT a.1 b.1 with
    | true =>
      simp only [if_true, ltT_asy e]
      rfl
    | false =>
      cases e2 : ltT b.1 a.1 with
      | true => simp
      | false => exact absurd (ltT_triz e e2) h
theorem leD_mt {a b : Mtg} (h : a = b ∨ (a.1, a.2.1) ≠ (b.1, b.2.1)) : leD (mtD true a) (mtD true b) = leP a b := by
  unfold leD leP ltP
  rw [mtT, mtT, cmpD_tup, cmpDs_cons, cmpD_str]
  rcases h with rfl | h
  · simp only [ltT_irrz, Bool.false_eq_true, if_false, cmpDs_cons, cmpD_int, cmpD_str, Int.lt_irrefl, cmpDs]
    simp
  · cases e : ltT a.1 b.1 with
    | true =>
      have hne : b.1 ≠ a.1 := fun z => by rw [z, ltT_irrz] at e; cases e
      simp [ltT_asy e, hne]
    | false =>
      cases e2 : ltT b.1 a.1 with
      | true => simp
      | false =>
        have e3 := ltT_triz e e2
        have hi : a.2.1 ≠ b.2.1 := fun z => h (Prod.ext e3 z)
        simp only [Bool.false_eq_true, if_false, cmpDs_cons, cmpD_int, e3, decide_true, Bool.true_and, Bool.false_or]
        by_cases c : a.2.1 < b.2.1
        · simp [c]
          omega
        · have c2 : b.2.1 < a.2.1 := by omega
          simp [c, c2]
theorem leN_trans (a b c : Ring) (h : leN a b = true) (h' : leN b c = true) : leN a c = true := by
  unfold leN at *
  simp only [Bool.not_eq_true'] at *
  cases e : ltT c.1 a.1 with
  | false => rfl
  | true =>
    cases e2 : ltT a.1 b.1 with
    | true => rw [ltT_trans e e2] at h'; cases h'
    | false =>
      have := ltT_triz e2 h
      rw [this] at e
      rw [e] at h'; cases h'
theorem leN_total (a b : Ring) : (leN a b || leN b a) = true := by
  unfold leN
  cases e : ltT b.1 a.1 with
  | false => rfl
  | true => simp [ltT_asy e]
theorem ltP_asy {a b : Pl} (h : ltP a b = true) : ltP b a = false := by
  unfold ltP at *
  simp only [Bool.or_eq_true, Bool.and_eq_true, decide_eq_true_eq] at h
  rcases h with h | ⟨h, h'⟩
  · have hne : b.1 ≠ a.1 := fun z => by rw [z, ltT_irrz] at h; cases h
    simp [ltT_asy h, hne]
  · simp [h, ltT_irrz]
    omega
theorem ltP_tri {a b : Pl} (h : ltP a b = false) (h' : ltP b a = false) : a = b := by
  unfold ltP at *
  simp only [Bool.or_eq_false_iff, Bool.and_eq_false_iff, decide_eq_false_iff_not] at h h'
  have e := ltT_triz h.1 h'.1
  have h2 := h.2
  have h3 := h'.2
  rw [e] at h2 h3
  refine Prod.ext e ?_
  rcases h2 with z | z
  · exact absurd rfl z
  · rcases h3 with y | y
    · exact absurd rfl y
    · omega
theorem ltP_trans {a b c : Pl} (h : ltP a b = true) (h' : ltP b c = true) : ltP a c = true := by
  unfold ltP at *
  simp only [Bool.or_eq_true, Bool.and_eq_true, decide_eq_true_eq] at *
  rcases h with h | ⟨h, i⟩
  · rcases h' with h' | ⟨h', i'⟩
    · exact .inl (ltT_trans h h')
    · rw [h'] at h; exact .inl h
  · rcases h' with h' | ⟨h', i'⟩
    · rw [← h] at h'; exact .inl h'
    · exact .inr ⟨h.trans h', by omega⟩
theorem leP_trans (a b c : Mtg) (h : leP a b = true) (h' : leP b c = true) : leP a c = true := by
  unfold leP at *
  simp only [Bool.not_eq_true'] at *
  cases e : ltP (c.1, c.2.1) (a.1, a.2.1) with
  | false => rfl
  | true =>
    cases e2 : ltP (a.1, a.2.1) (b.1, b.2.1) with
    | true => rw [ltP_trans e e2] at h'; cases h'
    | false =>
      have := ltP_tri e2 h
      rw [this] at e
      rw [e] at h'; cases h'
theorem leP_total (a b : Mtg) : (leP a b || leP b a) = true := by
  unfold leP
  cases e : ltP (b.1, b.2.1) (a.1, a.2.1) with
  | false => rfl
  | true => simp [ltP_asy e]
/-! ### sorting by the first parts -/
theorem map_id_merge {α : Type} {l : List α} {r s : α → α → Bool} (h : ∀ a ∈ l, ∀ b ∈ l, r a b = s a b) : l.mergeSort r = l.mergeSort s := by
  have := List.map_mergeSort (f := id) (r := r) (s := s) (l := l) h
  simpa using this
theorem sortR_eq {l : List Ring} (nd : (l.map (·.1)).Nodup) : sortR l = l.mergeSort leN := by
  refine map_id_merge fun a ha b hb => leD_rg ?_
  by_cases h : a = b
  · exact .inl h
  · refine .inr ?_
    rw [List.nodup_iff_pairwise_ne, List.pairwise_map] at nd
    exact pw_all (fun h => Ne.symm h) nd ha hb h
theorem sortM_eq {l : List Mtg} (h : l.Pairwise Apart) : sortM l = l.mergeSort leP := by
  refine map_id_merge fun a ha b hb => leD_mt ?_
  by_cases e : a = b
  · exact .inl e
  · exact .inr fun z => (pw_all (fun h => h.symm) h ha hb e).aa z.symm
theorem sortR_idem {l : List Ring} (nd : (l.map (·.1)).Nodup) : sortR (sortR l) = sortR l := by
  have nd2 : ((sortR l).map (·.1)).Nodup := ((sortR_perm l).map (·.1)).nodup_iff.mpr nd
  rw [sortR_eq nd2, sortR_eq nd]
  exact List.mergeSort_of_pairwise (List.pairwise_mergeSort leN_trans leN_total l)
theorem sortM_idem {l : List Mtg} (h : l.Pairwise Apart) : sortM (sortM l) = sortM l := by
  have h2 : (sortM l).Pairwise Apart := ((sortM_perm l).pairwise_iff fun h => h.symm).mpr h
  rw [sortM_eq h2, sortM_eq h]
  exact List.mergeSort_of_pairwise (List.pairwise_mergeSort leP_trans leP_total l)
theorem inOrd_idem {t : Mtg} (h : t.1 ≠ t.2.2.1) : inOrd (inOrd t) = inOrd t := by
  unfold inOrd
  cases e : ltT t.1 t.2.2.1 with
  | true => simp [e]
  | false =>
    have e2 : ltT t.2.2.1 t.1 = true := by
      cases e2 : ltT t.2.2.1 t.1 with
      | true => rfl
      | false => exact absurd (ltT_triz e e2) h
    simp [e2]
/-! ### a web in order -/
structure WbOk (w : Wb) : Prop where
  rs : RsOk (w.rings.map passed)
  stp : ∀ r ∈ w.rings, 0 ≤ r.2.2 ∧ r.2.2 < r.2.1
  srt : sortR w.rings = w.rings
  ms : MsOk (lensOf w.rings) w.joints
  ord : ∀ t ∈ w.joints, inOrd t = t
  srtM : sortM w.joints = w.joints
  lens : ∀ x, lenOf w.lens x = lenOf (lensOf w.rings) x
theorem find_perm {α : Type} {f : α → Tx} {l l' : List α} (p : l.Perm l') (nd : (l.map f).Nodup) (x : Tx) : (l.find? fun a => decide (f a = x)) = l'.find? fun a => decide (f a = x) := by
  have nd' : (l'.map f).Nodup := (p.map f).nodup_iff.mp nd
  have uniq : ∀ {l : List α} {a b}, (l.map f).Nodup → a ∈ l → b ∈ l → f a = f b → a = b := fun {l a b} nd ha hb e => by
    rw [List.nodup_iff_pairwise_ne, List.pairwise_map] at nd
    exact Classical.byContradiction fun ne => pw_all (fun h => Ne.symm h) nd ha hb ne e
  cases e : l.find? fun a => decide (f a = x) with
  | none =>
    rw [List.find?_eq_none] at e
    symm
    rw [List.find?_eq_none]
    exact fun a ha => e a (p.mem_iff.mpr ha)
  | some a =>
    have h1 := List.find?_some e
    have h2 := List.mem_of_find?_eq_some e
    cases e' : l'.find? fun a => decide (f a = x) with
    | none =>
      rw [List.find?_eq_none] at e'
      exact absurd h1 (e' a (p.mem_iff.mp h2))
    | some b =>
      have h3 := List.find?_some e'
      have h4 := List.mem_of_find?_eq_some e'
      simp only [decide_eq_true_eq] at h1 h3
      rw [uniq nd' (p.mem_iff.mp h2) h4 (h1.trans h3.symm)]
theorem lenOf_perm {ls ls' : Lens} (p : ls.Perm ls') (nd : (ls.map (·.1)).Nodup) (x : Tx) : lenOf ls x = lenOf ls' x := by
  unfold lenOf
  rw [find_perm p nd]
theorem isPl_congr {ls ls' : Lens} (h : ∀ x, lenOf ls x = lenOf ls' x) (x : Tx) (i : Int) : isPl ls x i = isPl ls' x i := by
  unfold isPl
  rw [h]
theorem MsOk.congr {ls ls' : Lens} {ms : List Mtg} (h : ∀ x, lenOf ls x = lenOf ls' x) (k : MsOk ls ms) : MsOk ls' ms := ⟨fun t ht => ⟨by rw [← isPl_congr h]; exact (k.one t ht).a, by rw [← isPl_congr h]; exact (k.one t ht).b, (k.one t ht).ne⟩, k.two⟩
/-- the ring as it is kept -/
def kept (r : Ring) : Ring := (r.1, r.2.1, r.2.2 % r.2.1)
theorem mkWeb_ok {rs : List Ring} {ms : List Mtg} (hr : RsOk rs) (hm : MsOk (lensOf rs) ms) : WbOk (mkWeb rs ms) := by
  have pm : (mkWeb rs ms).rings.Perm (rs.map kept) := sortR_perm _
  have ndk : ((rs.map kept).map (·.1)).Nodup := by rw [List.map_map]; exact hr.nd
  have lp : ∀ x, lenOf (lensOf rs) x = lenOf (lensOf (mkWeb rs ms).rings) x := fun x => by
    have p2 : (lensOf (mkWeb rs ms).rings).Perm (lensOf (rs.map kept)) := pm.map _
    have e : lensOf (rs.map kept) = lensOf rs := by unfold lensOf; rw [List.map_map]; rfl
    rw [e] at p2
    refine lenOf_perm p2.symm ?_ x
    unfold lensOf
    rw [List.map_map]
    exact hr.nd
  have hmem : ∀ r ∈ (mkWeb rs ms).rings, ∃ q ∈ rs, r = kept q := fun r h => by
    obtain ⟨q, hq, e⟩ := List.mem_map.mp (pm.mem_iff.mp h)
    exact ⟨q, hq, e.symm⟩
  have hst : ∀ r ∈ (mkWeb rs ms).rings, 0 ≤ r.2.2 ∧ r.2.2 < r.2.1 := fun r h => by
    obtain ⟨q, hq, rfl⟩ := hmem r h
    have := hr.len q hq
    exact ⟨Int.emod_nonneg _ (by omega), Int.emod_lt_of_pos _ (by omega)⟩
  refine ⟨⟨fun r h => ?_, ?_, fun r h => ?_, fun r h => ?_, ?_, ?_⟩, hst, sortR_idem ndk, ?_, fun t h => ?_, sortM_idem hm.ord.two, lp⟩
  · obtain ⟨r', h', rfl⟩ := List.mem_map.mp h
    obtain ⟨q, hq, rfl⟩ := hmem r' h'
    exact hr.nm q hq
  · rw [List.map_map]
    exact (pm.map (·.1)).nodup_iff.mpr ndk
  · obtain ⟨r', h', rfl⟩ := List.mem_map.mp h
    obtain ⟨q, hq, rfl⟩ := hmem r' h'
    exact hr.len q hq
  · obtain ⟨r', h', rfl⟩ := List.mem_map.mp h
    have := hst r' h'
    show 1 ≤ if r'.2.2 = 0 then r'.2.1 else r'.2.2
    split <;> omega
  · rw [List.length_map, pm.length_eq, List.length_map]; exact hr.pos
  · rw [List.length_map, pm.length_eq, List.length_map]; exact hr.most
  · exact (hm.ord.perm (sortM_perm _)).congr lp
  · have h2 : t ∈ ms.map inOrd := (sortM_perm _).mem_iff.mp h
    obtain ⟨u, hu, rfl⟩ := List.mem_map.mp h2
    exact inOrd_idem (hm.one u hu).ne
/-- a web made anew of what it tells -/
theorem again_ok {w : Wb} (h : WbOk w) : MsOk (lensOf (w.rings.map passed)) w.joints ∧ mkWeb (w.rings.map passed) w.joints = ⟨w.rings, w.joints, lensOf (w.rings.map passed)⟩ := by
  have e : lensOf (w.rings.map passed) = lensOf w.rings := by unfold lensOf; rw [List.map_map]; rfl
  refine ⟨by rw [e]; exact h.ms, ?_⟩
  have e1 : ((w.rings.map passed).map fun r => ((r.1, r.2.1, r.2.2 % r.2.1) : Ring)) = w.rings := by
    rw [List.map_map]
    refine Eq.trans (List.map_congr_left (g := id) fun r hr => ?_) (by simp)
    obtain ⟨a, b⟩ := h.stp r hr
    obtain ⟨x, n, s⟩ := r
    simp only [Function.comp_apply, passed, id]
    by_cases z : s = 0
    · simp [z]
    · simp only [if_neg z]
      rw [Int.emod_eq_of_lt a b]
  have e2 : w.joints.map inOrd = w.joints := by
    refine Eq.trans (List.map_congr_left (g := id) fun t ht => h.ord t ht) (by simp)
  unfold mkWeb
  rw [e1, e2, h.srt, h.srtM]
end Mr

/-! notation.py: the text of a web, and back. -/
namespace Mr
open Mr.P
structure NotP (pg : Pg) : Prop extends WebM pg where
  p27 : pg.fns.lookup 27 = some f27
  p28 : pg.fns.lookup 28 = some f28
  p29 : pg.fns.lookup 29 = some f29
  p30 : pg.fns.lookup 30 = some f30
  p31 : pg.fns.lookup 31 = some f31
  p32 : pg.fns.lookup 32 = some f32
/-- a number that is written -/
def Sz (n : Int) : Prop := 0 ≤ n ∧ n < 10 ^ 40
theorem Sz.len {n : Int} (h : Sz n) : (intTx n).length ≤ 40 := by
  rw [intTx_nat h.1]
  have := h.2
  exact digits_len (by omega) (by omega)
theorem Sz.str {n : Int} (h : Sz n) : strD (.int n) = .val (.str (intTx n)) := strD_int (by
  have h1 := h.1
  have h2 := h.2
  have : n.natAbs < 10 ^ 40 := by omega
  exact Nat.lt_trans this (by decide))
theorem Sz.fig {n : Int} (h : Sz n) : ∀ c ∈ intTx n, 48 ≤ c ∧ c ≤ 57 := by
  rw [intTx_nat h.1]
  exact digits_fig _
theorem Sz.ne {n : Int} (h : Sz n) : intTx n ≠ [] := by
  rw [intTx_nat h.1]
  exact digits_ne _
def ringW : Tx := [114, 105, 110, 103]
def meetW : Tx := [109, 101, 101, 116]
def ringWs (r : Ring) : List Tx := [ringW, r.1, intTx r.2.1, intTx r.2.2]
def mtWs (t : Mtg) : List Tx := [meetW, t.1, intTx t.2.1, t.2.2.1, intTx t.2.2.2]
def ringLine (r : Ring) : Tx := joinT [32] (ringWs r)
def mtLine (t : Mtg) : Tx := joinT [32] (mtWs t)
def linesOf (rs : List Ring) (ms : List Mtg) : List Tx := rs.map ringLine ++ ms.map mtLine
def textOf (rs : List Ring) (ms : List Mtg) : Tx := joinT [10] (linesOf rs ms)
structure RSz (r : Ring) : Prop where
  nm : isNm r.1 = true
  a : Sz r.2.1
  b : Sz r.2.2
structure MSz (t : Mtg) : Prop where
  n : isNm t.1 = true
  i : Sz t.2.1
  o : isNm t.2.2.1 = true
  j : Sz t.2.2.2
theorem fmt_eq {l : List D} {xs : List Tx} (h : l.mapM (fun d => match strD d with | .val (.str x) => some x | _ => none) = some xs) (h2 : xs.flatten.length ≤ big) : pr .fmt l = .val (.str xs.flatten) := by
  show (match l.mapM (fun d => match strD d with | .val (.str x) => some x | _ => none) with | some xs => ifB (decide (xs.flatten.length ≤ big)) (Sl.val (.str xs.flatten)) | none => Sl.no) = _
  rw [h]
  simp only [ifB, decide_eq_true h2, if_true]
theorem ringLine_len {r : Ring} (h : RSz r) : (ringLine r).length ≤ 95 := by
  have := name_len h.nm
  have := h.a.len
  have := h.b.len
  simp [ringLine, ringWs, joinT, ringW]
  omega
theorem mtLine_len {t : Mtg} (h : MSz t) : (mtLine t).length ≤ 104 := by
  have := name_len h.n
  have := name_len h.o
  have := h.i.len
  have := h.j.len
  simp [mtLine, mtWs, joinT, meetW]
  omega
theorem fmt_ring {r : Ring} (h : RSz r) : pr .fmt [.str [114, 105, 110, 103, 32], .str r.1, .str [32], .int r.2.1, .str [32], .int r.2.2] = .val (.str (ringLine r)) := by
  have e : [ringW ++ [32], r.1, [32], intTx r.2.1, [32], intTx r.2.2].flatten = ringLine r := by simp [ringLine, ringWs, joinT, ringW]
  rw [← e]
  refine fmt_eq ?_ (by rw [e]; exact Nat.le_trans (ringLine_len h) (by decide))
  simp only [List.mapM_cons, List.mapM_nil, strD_str, h.a.str, h.b.str]
  rfl
theorem fmt_mt {t : Mtg} (h : MSz t) : pr .fmt [.str [109, 101, 101, 116, 32], .str t.1, .str [32], .int t.2.1, .str [32], .str t.2.2.1, .str [32], .int t.2.2.2] = .val (.str (mtLine t)) := by
  have e : [meetW ++ [32], t.1, [32], intTx t.2.1, [32], t.2.2.1, [32], intTx t.2.2.2].flatten = mtLine t := by simp [mtLine, mtWs, joinT, meetW]
  rw [← e]
  refine fmt_eq ?_ (by rw [e]; exact Nat.le_trans (mtLine_len h) (by decide))
  simp only [List.mapM_cons, List.mapM_nil, strD_str, h.i.str, h.j.str]
  rfl
theorem sum_le {l : List Nat} {k : Nat} (h : ∀ n ∈ l, n ≤ k) : l.sum ≤ l.length * k := by
  induction l with
  | nil => simp
  | cons a l ih =>
    have h1 := h a (by simp)
    have h2 := ih fun n hn => h n (List.mem_cons_of_mem _ hn)
    simp only [List.sum_cons, List.length_cons, Nat.add_mul]
    omega
theorem linesOf_le {rs : List Ring} {ms : List Mtg} (hr : ∀ r ∈ rs, RSz r) (hm : ∀ t ∈ ms, MSz t) : ∀ l ∈ linesOf rs ms, l.length ≤ 104 := fun l hl => by
  unfold linesOf at hl
  rcases List.mem_append.mp hl with h | h
  · obtain ⟨r, hq, rfl⟩ := List.mem_map.mp h
    exact Nat.le_trans (ringLine_len (hr r hq)) (by decide)
  · obtain ⟨r, hq, rfl⟩ := List.mem_map.mp h
    exact mtLine_len (hm r hq)
theorem pr_join {xs : List Tx} {s : Tx} (h : (xs.map List.length).sum + xs.length * s.length ≤ big) : pr .join [.str s, .lst (xs.map .str)] = .val (.str (joinT s xs)) := by
  have e := txs_map (fun x : Tx => x) xs
  rw [List.map_id'] at e
  simp [pr, e, ifB, h]
theorem joinT_len {s : Tx} : ∀ xs : List Tx, (joinT s xs).length ≤ (xs.map List.length).sum + xs.length * s.length
  | [] => by simp [joinT]
  | [x] => by simp [joinT]
  | x :: y :: r => by
    have := joinT_len (s := s) (y :: r)
    simp only [joinT, List.length_append, List.map_cons, List.sum_cons, List.length_cons, Nat.add_mul] at *
    omega
section
variable {pg : Pg} {fuel m : Nat} {w : Wb}
theorem c_format (W : NotP pg) (hr : ∀ r ∈ w.rings.map passed, RSz r) (hm : ∀ t ∈ w.joints, MSz t) (h1 : w.rings.length ≤ 12) (h2 : w.joints.length ≤ 1000) :
    callN pg fuel (m + 2) 27 [.val (webD w)] = .ok (.val (.str (textOf (w.rings.map passed) w.joints)), [.val (webD w)]) := by
  have mf1 : methF (tbl pg fuel (m + 1)) 21 (webD w) = some 21 := by simp [webD, W.mPass]
  have mf2 : methF (tbl pg fuel (m + 1)) 28 (webD w) = some 12 := by simp [webD, W.mMeet]
  have k1 := c_passed (fuel := fuel) (m := m) (w := w) W.toWebM (Nat.le_trans h1 (by decide))
  have k2 := c_meetings (fuel := fuel) (m := m) (w := w) W.toWebM
  have hlen : (linesOf (w.rings.map passed) w.joints).length ≤ 1012 := by simp [linesOf]; omega
  have hjoin := pr_join (xs := linesOf (w.rings.map passed) w.joints) (s := [10]) (by
    have := sum_le (l := (linesOf (w.rings.map passed) w.joints).map List.length) (k := 104) (fun n hn => by
      obtain ⟨l, hl, rfl⟩ := List.mem_map.mp hn
      exact linesOf_le hr hm l hl)
    rw [List.length_map] at this
    have hb : 1012 * 105 ≤ big := by decide
    simp only [List.length_cons, List.length_nil]
    omega)
  have hl1 : (w.rings.map passed).length ≤ 12 := by simpa using h1
  generalize w.rings.map passed = rs at *
  have d1 : ∀ a0 a1 a5 a6 a7 : Sl, lcGo (lcT (tbl pg fuel (m + 1)) (.tup [2, 3, 4]) [] f27_e0 [2, 3, 4]) (rs.map (rgD true)) [a0, a1, .no, .no, .no, a5, a6, a7] = .ok ((rs.map ringLine).map .str, [a0, a1, .no, .no, .no, a5, a6, a7]) := fun a0 a1 a5 a6 a7 => by
    rw [List.map_map]
    exact lc_mapf fun r h => by simp [lcT, f27_e0, fmt_ring (hr r h)]
  have d2 : ∀ a0 a1 a3 a4 : Sl, lcGo (lcT (tbl pg fuel (m + 1)) (.tup [2, 5, 6, 7]) [] f27_e1 [2, 5, 6, 7]) (w.joints.map (mtD true)) [a0, a1, .no, a3, a4, .no, .no, .no] = .ok ((w.joints.map mtLine).map .str, [a0, a1, .no, a3, a4, .no, .no, .no]) := fun a0 a1 a3 a4 => by
    rw [List.map_map]
    exact lc_mapf fun r h => by simp [lcT, f27_e1, fmt_mt (hm r h)]
  have hb2 : 1012 ≤ big := by decide
  have ad : addD (.lst ((rs.map ringLine).map .str)) (.lst ((w.joints.map mtLine).map .str)) = .own (.lst ((linesOf rs w.joints).map .str)) := by
    rw [addD_lst (by simp; omega), ← List.map_append]
    rfl
  have l1 : (rs.map ringLine).length ≤ big := by simp; omega
  have l2 : (w.joints.map mtLine).length ≤ big := by simp; omega
  unfold textOf
  generalize rs.map ringLine = rl at *
  generalize w.joints.map mtLine = ml at *
  rw [call_eq W.p27, runFn_eq]
  simp [f27, f27_0, mf1, k1, d1, unblk, l1]
  simp [f27_1, mf2, k2, d2, unblk, l2, ad]
  simp [f27_2, hjoin]
theorem pr_strip {x c : Tx} (h : x.length ≤ big) : pr .strip [.str x, .str c] = .val (.str (stripT c x)) := by simp [pr, ifB, h]
theorem c_number (W : NotP pg) {n : Int} (h : Sz n) : callN pg fuel (m + 1) 28 [.val (.str (intTx n))] = .ok (.val (.int n), [.val (.str (intTx n))]) := by
  have hl := h.len
  have hb : (intTx n).length ≤ big := Nat.le_trans hl (by decide)
  have h1 : (intTx n == []) = false := by simpa using h.ne
  have h2 := strip_figs h.fig
  have h4 : ¬ (1000 : Int) < (List.length (intTx n) : Int) := by omega
  have h5 : pr .int [.str (intTx n)] = .val (.int n) := by
    have : intOf (intTx n) = some n := by
      rw [intTx_nat h.1, intOf_digits]
      have := h.1
      congr 1
      omega
    have hle : (intTx n).length ≤ 640 := by omega
    simp [pr, ifB, hle, this]
  rw [call_eq W.p28, runFn_eq]
  by_cases h0 : n = 0
  · have e : intTx n = [48] := by rw [h0]; decide
    have hi : idxD (.str (intTx n)) (.int 0) = some (.str [48]) := by rw [idxD_str hb, e, atI_0]; rfl
    have h6 : ¬ (1 : Int) < (List.length (intTx n) : Int) := by rw [e]; decide
    simp [f28, f28_1, f28_2, pr_eq, pr_ne, h1, pr_strip hb, h2, hi, pr_lenS hb, h4, h5, h6]
  · obtain ⟨c, r, e, hc⟩ := digits_head n.toNat (by have := h.1; omega)
    have hi : idxD (.str (intTx n)) (.int 0) = some (.str [c]) := by rw [idxD_str hb, intTx_nat h.1, e, atI_0]; rfl
    simp [f28, f28_1, f28_2, pr_eq, pr_ne, h1, pr_strip hb, h2, hi, pr_lenS hb, h4, h5, hc]
/-! ### lines read -/
theorem name_no {x : Tx} (h : isNm x = true) {c : Nat} (hc : c < 48) : c ∉ x := by
  cases x with
  | nil => simp
  | cons a r =>
    unfold isNm at h
    simp only [Bool.and_eq_true, List.all_eq_true] at h
    intro z
    have := h.2 c z
    simp only [Bool.or_eq_true, List.contains_iff_mem] at this
    rcases this with q | q
    · unfold small k_SMALL at q
      simp only [List.mem_cons, List.not_mem_nil, or_false] at q
      omega
    · have := figs_mem.mp q
      omega
theorem int_no {n : Int} (h : Sz n) {c : Nat} (hc : c < 48) : c ∉ intTx n := fun z => by
  have := h.fig c z
  omega
theorem ringWs_no {r : Ring} (h : RSz r) {c : Nat} (hc : c < 48) : ∀ x ∈ ringWs r, c ∉ x := by
  intro x hx
  simp only [ringWs, List.mem_cons, List.not_mem_nil, or_false] at hx
  rcases hx with rfl | rfl | rfl | rfl
  · unfold ringW; simp only [List.mem_cons, List.not_mem_nil, or_false]; omega
  · exact name_no h.nm hc
  · exact int_no h.a hc
  · exact int_no h.b hc
theorem mtWs_no {t : Mtg} (h : MSz t) {c : Nat} (hc : c < 48) : ∀ x ∈ mtWs t, c ∉ x := by
  intro x hx
  simp only [mtWs, List.mem_cons, List.not_mem_nil, or_false] at hx
  rcases hx with rfl | rfl | rfl | rfl | rfl
  · unfold meetW; simp only [List.mem_cons, List.not_mem_nil, or_false]; omega
  · exact name_no h.n hc
  · exact int_no h.i hc
  · exact name_no h.o hc
  · exact int_no h.j hc
theorem joinT_no {c d : Nat} (hd : c ≠ d) : ∀ {ws : List Tx}, (∀ x ∈ ws, c ∉ x) → c ∉ joinT [d] ws
  | [], _ => by simp [joinT]
  | [x], h => by simpa [joinT] using h
  | x :: y :: r, h => by
    have ih := joinT_no hd (ws := y :: r) fun z hz => h z (List.mem_cons_of_mem _ hz)
    simp only [joinT, List.mem_append, List.mem_singleton, not_or]
    exact ⟨⟨h x (by simp), hd⟩, ih⟩
theorem lines_no {rs : List Ring} {ms : List Mtg} (hr : ∀ r ∈ rs, RSz r) (hm : ∀ t ∈ ms, MSz t) : ∀ l ∈ linesOf rs ms, 10 ∉ l := fun l hl => by
  unfold linesOf at hl
  rcases List.mem_append.mp hl with h | h
  · obtain ⟨r, hq, rfl⟩ := List.mem_map.mp h
    exact joinT_no (by decide) (ringWs_no (hr r hq) (by decide))
  · obtain ⟨r, hq, rfl⟩ := List.mem_map.mp h
    exact joinT_no (by decide) (mtWs_no (hm r hq) (by decide))
theorem pr_split {x : Tx} {c : Nat} (h : x.length + 2 ≤ big) (hc : c < 256) : pr .split [.str x, .str [c]] = .own (.lst ((splitT c [] x).map .str)) := by simp [pr, ifB, h, hc]
theorem split_ring {r : Ring} (h : RSz r) : pr .split [.str (ringLine r), .str [32]] = .own (.lst ((ringWs r).map .str)) := by
  have hb : 97 ≤ big := by decide
  rw [pr_split (by have := ringLine_len h; omega) (by decide)]
  unfold ringLine
  rw [splitT_join (by simp [ringWs]) (ringWs_no h (by decide))]
theorem split_mt {t : Mtg} (h : MSz t) : pr .split [.str (mtLine t), .str [32]] = .own (.lst ((mtWs t).map .str)) := by
  have hb : 106 ≤ big := by decide
  rw [pr_split (by have := mtLine_len h; omega) (by decide)]
  unfold mtLine
  rw [splitT_join (by simp [mtWs]) (mtWs_no h (by decide))]
theorem split_text {rs : List Ring} {ms : List Mtg} (hr : ∀ r ∈ rs, RSz r) (hm : ∀ t ∈ ms, MSz t) (h0 : 1 ≤ rs.length) (h1 : rs.length ≤ 12) (h2 : ms.length ≤ 1000) : pr .split [.str (textOf rs ms), .str [10]] = .own (.lst ((linesOf rs ms).map .str)) := by
  have hlen : (linesOf rs ms).length ≤ 1012 := by simp [linesOf]; omega
  have hne : linesOf rs ms ≠ [] := by
    intro z
    have e : (linesOf rs ms).length = rs.length + ms.length := by simp [linesOf]
    rw [z] at e
    simp only [List.length_nil] at e
    omega
  have : (textOf rs ms).length ≤ 1012 * 105 := by
    have h3 := joinT_len (s := [10]) (linesOf rs ms)
    have h4 := sum_le (l := (linesOf rs ms).map List.length) (k := 104) (fun n hn => by
      obtain ⟨l, hl, rfl⟩ := List.mem_map.mp hn
      exact linesOf_le hr hm l hl)
    rw [List.length_map] at h4
    unfold textOf
    simp only [List.length_cons, List.length_nil] at h3
    omega
  have hb : 1012 * 105 + 2 ≤ big := by decide
  rw [pr_split (by omega) (by decide)]
  unfold textOf
  rw [splitT_join hne (lines_no hr hm)]
end
section
variable {pg : Pg} {fuel m : Nat} {w : Wb}
theorem nm_big {x : Tx} (h : isNm x = true) : x.length ≤ big := Nat.le_trans (name_len h) (by decide)
theorem c_ring_of (W : NotP pg) {r : Ring} (h : RSz r) (h1 : 1 ≤ r.2.1) (h2 : 1 ≤ r.2.2) : callN pg fuel (m + 2) 29 [.val (.lst ((ringWs r).map .str))] = .ok (.val (rgD true r), [.val (.lst ((ringWs r).map .str))]) := by
  have k0 := c_is_name (fuel := fuel) (m := m) W.p0 r.1 (nm_big h.nm)
  rw [h.nm] at k0
  have k1 := c_number (fuel := fuel) (m := m) W h.a
  have k2 := c_number (fuel := fuel) (m := m) W h.b
  have hl : pr .len [.lst ((ringWs r).map .str)] = .val (.int 4) := by rw [pr_lenL (by simp [ringWs]; decide)]; rfl
  have i0 : idxD (.lst ((ringWs r).map .str)) (.int 0) = some (.str [114, 105, 110, 103]) := rfl
  have i1 : idxD (.lst ((ringWs r).map .str)) (.int 1) = some (.str r.1) := rfl
  have i2 : idxD (.lst ((ringWs r).map .str)) (.int 2) = some (.str (intTx r.2.1)) := rfl
  have i3 : idxD (.lst ((ringWs r).map .str)) (.int 3) = some (.str (intTx r.2.2)) := rfl
  have n1 : (r.2.1 != 0) = true := by simp; omega
  have n2 : (r.2.2 != 0) = true := by simp; omega
  generalize D.lst ((ringWs r).map .str) = ws at *
  rw [call_eq W.p29, runFn_eq]
  simp [f29, f29_1, f29_2, f29_3, hl, i0, i1, i2, i3, pr_ne, k0, k1, k2, n1, n2, rgT]
theorem c_meeting_of_no (W : NotP pg) {r : Ring} : callN pg fuel (m + 2) 30 [.val (.lst ((ringWs r).map .str))] = .ok (.val .non, [.val (.lst ((ringWs r).map .str))]) := by
  have hl : pr .len [.lst ((ringWs r).map .str)] = .val (.int 4) := by rw [pr_lenL (by simp [ringWs]; decide)]; rfl
  generalize D.lst ((ringWs r).map .str) = ws at *
  rw [call_eq W.p30, runFn_eq]
  simp [f30, f30_1, f30_0, hl, pr_ne]
theorem c_ring_of_no (W : NotP pg) {t : Mtg} : callN pg fuel (m + 2) 29 [.val (.lst ((mtWs t).map .str))] = .ok (.val .non, [.val (.lst ((mtWs t).map .str))]) := by
  have hl : pr .len [.lst ((mtWs t).map .str)] = .val (.int 5) := by rw [pr_lenL (by simp [mtWs]; decide)]; rfl
  generalize D.lst ((mtWs t).map .str) = ws at *
  rw [call_eq W.p29, runFn_eq]
  simp [f29, f29_1, f29_0, hl, pr_ne]
theorem c_meeting_of (W : NotP pg) {t : Mtg} (h : MSz t) : callN pg fuel (m + 2) 30 [.val (.lst ((mtWs t).map .str))] = .ok (.val (mtD true t), [.val (.lst ((mtWs t).map .str))]) := by
  have k0 := c_is_name (fuel := fuel) (m := m) W.p0 t.1 (nm_big h.n)
  have k3 := c_is_name (fuel := fuel) (m := m) W.p0 t.2.2.1 (nm_big h.o)
  rw [h.n] at k0
  rw [h.o] at k3
  have k1 := c_number (fuel := fuel) (m := m) W h.i
  have k2 := c_number (fuel := fuel) (m := m) W h.j
  have hl : pr .len [.lst ((mtWs t).map .str)] = .val (.int 5) := by rw [pr_lenL (by simp [mtWs]; decide)]; rfl
  have i0 : idxD (.lst ((mtWs t).map .str)) (.int 0) = some (.str [109, 101, 101, 116]) := rfl
  have i1 : idxD (.lst ((mtWs t).map .str)) (.int 1) = some (.str t.1) := rfl
  have i2 : idxD (.lst ((mtWs t).map .str)) (.int 2) = some (.str (intTx t.2.1)) := rfl
  have i3 : idxD (.lst ((mtWs t).map .str)) (.int 3) = some (.str t.2.2.1) := rfl
  have i4 : idxD (.lst ((mtWs t).map .str)) (.int 4) = some (.str (intTx t.2.2.2)) := rfl
  generalize D.lst ((mtWs t).map .str) = ws at *
  rw [call_eq W.p30, runFn_eq]
  simp [f30, f30_1, f30_2, f30_3, hl, i0, i1, i2, i3, i4, pr_ne, k0, k1, k2, k3, mtT]
end
end Mr

/-! notation.py: parse_web of a web's text. -/
namespace Mr
open Mr.P
section
variable {pg : Pg} {fuel m : Nat} {w : Wb}
theorem run_try_ret {T : Tb} {pn tmp cs : List Nat} {s u : Sl} {ρ ρ' : Rho} {body : List S} {bs : List (Option Nat)} {hs : List (List S)} (h : runs T fuel pn body (s :: ρ) = .ret u ρ') (hf : free pn (.tup tmp) = true) : run T fuel pn (.tryx body cs bs hs tmp) (s :: ρ) = .ret u ρ' := by
  simp only [run, h, hf, if_true]
theorem ownL_at {ρ : Rho} {j : Nat} {l : List D} (h : ρ[j]? = some (.own (.lst l))) : ownL ρ j = true := by unfold ownL; rw [h]
abbrev pwBody : List S := [f32_2, f32_3, f32_4, f32_6, f32_9]
theorem pw_ring (W : NotP pg) {A : D} {k : Int} {r : Ring} {acc : List D} (h : RSz r) (h1 : 1 ≤ r.2.1) (h2 : 1 ≤ r.2.2) (hl : acc.length < big) :
    turn (tbl pg fuel (m + 2)) fuel [] (.tup [4, 5]) pwBody [4, 5, 6, 7, 8] (.tup [.int k, .str (ringLine r)]) [.val A, .own (.lst acc), .own (.lst []), .no, .no, .no, .no, .no, .no] = .next [.val A, .own (.lst (acc ++ [rgD true r])), .own (.lst []), .no, .no, .no, .no, .no, .no] := by
  have k1 := c_ring_of (fuel := fuel) (m := m) W h h1 h2
  have k2 := c_meeting_of_no (fuel := fuel) (m := m) W (r := r)
  have sp := split_ring h
  generalize (ringWs r).map D.str = ws at *
  have e : rgD true r = .tup [.str r.1, .int r.2.1, .int r.2.2] := rfl
  rw [e] at k1 ⊢
  have o : ∀ a b c d e f g : Sl, ownL [a, .own (.lst acc), b, c, d, e, f, g] 1 = true := fun _ _ _ _ _ _ _ => rfl
  simp [turn_eq, f32_2, f32_3, f32_4, f32_6, f32_9, f32_7, sp, k1, k2, ownL, hl]
theorem pw_mt (W : NotP pg) {A : D} {k : Int} {t : Mtg} {rs acc : List D} (h : MSz t) (hl : acc.length < big) :
    turn (tbl pg fuel (m + 2)) fuel [] (.tup [4, 5]) pwBody [4, 5, 6, 7, 8] (.tup [.int k, .str (mtLine t)]) [.val A, .own (.lst rs), .own (.lst acc), .no, .no, .no, .no, .no, .no] = .next [.val A, .own (.lst rs), .own (.lst (acc ++ [mtD true t])), .no, .no, .no, .no, .no, .no] := by
  have k1 := c_meeting_of (fuel := fuel) (m := m) W h
  have k2 := c_ring_of_no (fuel := fuel) (m := m) W (t := t)
  have sp := split_mt h
  generalize (mtWs t).map D.str = ws at *
  have e : mtD true t = .tup [.str t.1, .int t.2.1, .str t.2.2.1, .int t.2.2.2] := rfl
  rw [e] at k1 ⊢
  simp [turn_eq, f32_2, f32_3, f32_4, f32_6, f32_9, f32_8, sp, k1, k2, ownL, hl]
theorem pw_rings (W : NotP pg) {A : D} : ∀ (rs : List Ring) (rest : List D) (k : Int) (acc : List D), (∀ r ∈ rs, RSz r ∧ 1 ≤ r.2.1 ∧ 1 ≤ r.2.2) → acc.length + rs.length ≤ big →
    ∃ k', forN (turn (tbl pg fuel (m + 2)) fuel [] (.tup [4, 5]) pwBody [4, 5, 6, 7, 8]) (enumD k (rs.map (fun r => .str (ringLine r)) ++ rest)) [.val A, .own (.lst acc), .own (.lst []), .no, .no, .no, .no, .no, .no] =
      forN (turn (tbl pg fuel (m + 2)) fuel [] (.tup [4, 5]) pwBody [4, 5, 6, 7, 8]) (enumD k' rest) [.val A, .own (.lst (acc ++ rs.map (rgD true))), .own (.lst []), .no, .no, .no, .no, .no, .no]
  | [], rest, k, acc, _, _ => ⟨k, by simp⟩
  | r :: rs, rest, k, acc, h, hl => by
    simp only [List.length_cons] at hl
    obtain ⟨h1, h2, h3⟩ := h r (by simp)
    obtain ⟨k', ih⟩ := pw_rings W (A := A) rs rest (k + 1) (acc ++ [rgD true r]) (fun q hq => h q (List.mem_cons_of_mem _ hq)) (by simp; omega)
    refine ⟨k', ?_⟩
    simp only [List.map_cons, List.cons_append, enum_cons]
    rw [forN_next (pw_ring W h1 h2 h3 (by omega)), ih]
    simp
theorem pw_mts (W : NotP pg) {A : D} {R : List D} : ∀ (ms : List Mtg) (k : Int) (acc : List D), (∀ t ∈ ms, MSz t) → acc.length + ms.length ≤ big →
    forN (turn (tbl pg fuel (m + 2)) fuel [] (.tup [4, 5]) pwBody [4, 5, 6, 7, 8]) (enumD k (ms.map (fun t => .str (mtLine t)))) [.val A, .own (.lst R), .own (.lst acc), .no, .no, .no, .no, .no, .no] =
      .next [.val A, .own (.lst R), .own (.lst (acc ++ ms.map (mtD true))), .no, .no, .no, .no, .no, .no]
  | [], k, acc, _, _ => by simp [enumD]
  | t :: ms, k, acc, h, hl => by
    simp only [List.length_cons] at hl
    simp only [List.map_cons, enum_cons]
    rw [forN_next (pw_mt W (h t (by simp)) (by omega)), pw_mts W ms (k + 1) (acc ++ [mtD true t]) (fun q hq => h q (List.mem_cons_of_mem _ hq)) (by simp; omega)]
    simp
/-- numbers that a text can bear -/
structure WbSz (w : Wb) : Prop where
  r : ∀ r ∈ w.rings, Sz r.2.1 ∧ Sz r.2.2
  m : ∀ t ∈ w.joints, Sz t.2.1 ∧ Sz t.2.2.2
  j : w.joints.length ≤ 1000
theorem lenOf_name {rs : List Ring} (h : ∀ r ∈ rs, isNm r.1 = true) {x : Tx} {i : Int} (p : isPl (lensOf rs) x i = true) : isNm x = true := by
  unfold isPl lenOf at p
  cases e : (lensOf rs).find? fun a => decide (a.1 = x) with
  | none => rw [e] at p; cases p
  | some a =>
    have h1 := List.find?_some e
    have h2 := List.mem_of_find?_eq_some e
    simp only [decide_eq_true_eq] at h1
    obtain ⟨r, hr, rfl⟩ := List.mem_map.mp h2
    rw [← h1]
    exact h r hr
theorem WbOk.rsz (h : WbOk w) (z : WbSz w) : ∀ r ∈ w.rings.map passed, RSz r ∧ 1 ≤ r.2.1 ∧ 1 ≤ r.2.2 := fun r hr => by
  have h1 := h.rs.nm r hr
  have h2 := h.rs.len r hr
  have h3 := h.rs.stp r hr
  obtain ⟨q, hq, rfl⟩ := List.mem_map.mp hr
  obtain ⟨za, zb⟩ := z.r q hq
  refine ⟨⟨h1, za, ?_⟩, h2, h3⟩
  show Sz (if q.2.2 = 0 then q.2.1 else q.2.2)
  split <;> assumption
theorem WbOk.msz (h : WbOk w) (z : WbSz w) : ∀ t ∈ w.joints, MSz t := fun t ht => by
  obtain ⟨a, b⟩ := z.m t ht
  have o := h.ms.one t ht
  have nm : ∀ r ∈ w.rings, isNm r.1 = true := fun r hr => h.rs.nm (passed r) (List.mem_map.mpr ⟨r, hr, rfl⟩)
  exact ⟨lenOf_name nm o.a, a, lenOf_name nm o.b, b⟩
theorem c_web_of (W : NotP pg) (b c : Bool) (rs : List Ring) (ms : List Mtg) (hr : RsOk rs) (hm : MsOk (lensOf rs) ms) (hl : 4 * ms.length ≤ big) : ∃ os, callN pg fuel (m + 4) 31 [.val (.lst (rs.map (rgD b))), .val (.lst (ms.map (mtD c)))] = .ok (.own (webD (mkWeb rs ms)), os) := by
  obtain ⟨os, k⟩ := c_web_init (fuel := fuel) (m := m) W.toWebP b c rs ms hr hm hl
  rw [call_eq W.p31, runFn_eq]
  simp only [f31, f31_2]
  have e : runs (tbl pg fuel (m + 3)) fuel [] [f31_0] [.val (.lst (rs.map (rgD b))), .val (.lst (ms.map (mtD c)))] = .ret (.own (webD (mkWeb rs ms))) [.val (.lst (rs.map (rgD b))), .val (.lst (ms.map (mtD c)))] := by
    simp [f31_0, W.init, k]
  simp [run_try_ret e]
theorem c_parse (W : NotP pg) (h : WbOk w) (z : WbSz w) : ∃ os, callN pg fuel (m + 5) 32 [.val (.str (textOf (w.rings.map passed) w.joints))] = .ok (.val (webD ⟨w.rings, w.joints, lensOf (w.rings.map passed)⟩), os) := by
  have hr := h.rsz z
  have hm := h.msz z
  have hmost := h.rs.most
  have hpos := h.rs.pos
  have sp := split_text (fun r q => (hr r q).1) hm hpos hmost z.j
  obtain ⟨a1, a2⟩ := again_ok h
  obtain ⟨os, kw⟩ := c_web_of (fuel := fuel) (m := m) W true true (w.rings.map passed) w.joints h.rs a1 (by have := z.j; unfold big; omega)
  rw [a2] at kw
  have kf := c_format (fuel := fuel) (m := m + 2) (w := ⟨w.rings, w.joints, lensOf (w.rings.map passed)⟩) W (fun r q => (hr r q).1) hm (by simpa using hmost) z.j
  obtain ⟨k', l1⟩ := pw_rings (fuel := fuel) (m := m + 2) W (A := .str (textOf (w.rings.map passed) w.joints)) (w.rings.map passed) (w.joints.map fun t => .str (mtLine t)) 0 [] hr (by simp only [List.length_nil]; unfold big; omega)
  have l2 := pw_mts (fuel := fuel) (m := m + 2) W (A := .str (textOf (w.rings.map passed) w.joints)) (R := [] ++ (w.rings.map passed).map (rgD true)) w.joints k' [] hm (by have := z.j; simp only [List.length_nil]; unfold big; omega)
  rw [l2] at l1
  simp only [List.nil_append] at l1
  have hlines : (linesOf (w.rings.map passed) w.joints).map D.str = (w.rings.map passed).map (fun r => D.str (ringLine r)) ++ w.joints.map fun t => D.str (mtLine t) := by
    unfold linesOf
    rw [List.map_append, List.map_map (l := w.rings.map passed), List.map_map (l := w.joints)]
    rfl
  rw [← hlines] at l1
  generalize (linesOf (w.rings.map passed) w.joints).map D.str = lines at *
  generalize textOf (w.rings.map passed) w.joints = tx at *
  generalize (w.rings.map passed).map (rgD true) = rl at *
  generalize w.joints.map (mtD true) = ml at *
  have iw : pr .isN [webD ⟨w.rings, w.joints, lensOf (w.rings.map passed)⟩] = .val (.bl false) := rfl
  generalize webD ⟨w.rings, w.joints, lensOf (w.rings.map passed)⟩ = wd at *
  rw [call_eq W.p32, runFn_eq]
  simp [f32, f32_0, f32_1, f32_10, sp, l1, f32_11, kw, f32_13, iw, kf, pr_ne, f32_14]
end
end Mr

/-! The laws' own helpers: cells, sources, draws. -/
namespace Mr
open Mr.P Mr.Q
@[simp] theorem atI_1 {α : Type} {a b : α} {l : List α} : atI (a :: b :: l) 1 = some b := by rw [show (1 : Int) = ((1 : Nat) : Int) from rfl, atI_nat]; rfl
@[simp] theorem atI_2 {α : Type} {a b c : α} {l : List α} : atI (a :: b :: c :: l) 2 = some c := by rw [show (2 : Int) = ((2 : Nat) : Int) from rfl, atI_nat]; rfl
@[simp] theorem atI_3 {α : Type} {a b c d : α} {l : List α} : atI (a :: b :: c :: d :: l) 3 = some d := by rw [show (3 : Int) = ((3 : Nat) : Int) from rfl, atI_nat]; rfl
def SrcOk (s f : Int) : Prop := (f = 1 ∧ 0 ≤ s) ∨ (f = 0 ∧ 0 ≤ s ∧ s < 2147483647)
abbrev srcD (s f : Int) : D := .lst [.int s, .int f]
def cellOf (ns : List Int) (k : Nat) : Int := (ns[k]?).getD 0
theorem pow10 {k : Nat} (h : (k : Int) ≤ 1000000) : pr .pow [.int 10, .int (k : Int)] = .val (.int (10 ^ k)) := by
  rw [pr_pow (by omega) h (by decide), Int.toNat_natCast]
theorem mulOk_r {n k : Int} (h : k.natAbs < 2 ^ 64) : mulOk n k = true := by
  unfold mulOk
  rw [decide_eq_true h, Bool.or_true]
theorem mulOk_l {n k : Int} (h : n.natAbs < 2 ^ 64) : mulOk n k = true := by
  unfold mulOk
  rw [decide_eq_true h, Bool.true_or]
section
variable {pg : Pg} {fuel m : Nat}
theorem c_cell (h : pg.fns.lookup 400 = some f400) (ns : List Int) (hl : ns.length ≤ 63) (k : Nat) : callN pg fuel (m + 1) 400 [.val (.lst (ns.map .int)), .val (.int (k : Int))] = .ok (.val (.int (cellOf ns k)), [.val (.lst (ns.map .int)), .val (.int (k : Int))]) := by
  have hlen : pr .len [.lst (ns.map .int)] = .val (.int (ns.length : Int)) := by rw [pr_lenL (by simp; exact Nat.le_trans hl (by decide)), List.length_map]
  rw [call_eq h, runFn_eq]
  unfold cellOf
  by_cases c : k < ns.length
  · have hi : idxD (.lst (ns.map .int)) (.int (k : Int)) = some (.int (ns[k]?.getD 0)) := by
      rw [idxD_lst, atI_nat, List.getElem?_map, List.getElem?_eq_getElem c]
      rfl
    have c' : (k : Int) < (ns.length : Int) := by omega
    simp [f400, f400_1, f400_0, hlen, c', hi]
  · have c' : ¬ (k : Int) < (ns.length : Int) := by omega
    have e : ns[k]? = none := List.getElem?_eq_none (by omega)
    simp [f400, f400_1, f400_2, hlen, c', e]
theorem c_source {c0 c1 : Int} (h : pg.fns.lookup 401 = some (f401 c0 c1)) (hc : c1.natAbs < 2 ^ 64) (n : Int) : ∃ s f os, SrcOk s f ∧ callN pg fuel (m + 1) 401 [.val (.int n)] = .ok (.own (srcD s f), os) := by
  have p10 : pr .pow [.int 10, .int 18] = .val (.int (10 ^ 18)) := pow10 (k := 18) (by decide)
  by_cases c : (10 : Int) ^ 18 ≤ n
  · refine ⟨n, 1, [.val (.int n)], .inl ⟨rfl, by omega⟩, ?_⟩
    have c' : (1000000000000000000 : Int) ≤ n := by omega
    rw [call_eq h, runFn_eq]
    simp [f401, f401_1, f401_0, p10, c']
  · refine ⟨(n * c1 + c0) % 2147483647, 0, [.val (.int n)], .inr ⟨rfl, Int.emod_nonneg _ (by decide), Int.emod_lt_of_pos _ (by decide)⟩, ?_⟩
    have c' : ¬ (1000000000000000000 : Int) ≤ n := by omega
    rw [call_eq h, runFn_eq]
    simp [f401, f401_1, f401_2, p10, c', pr_mul (mulOk_r hc), pr_mod (show (0 : Int) < 2147483647 by decide)]
theorem c_draw {c0 c1 : Int} (h : pg.fns.lookup 402 = some (f402 c0 c1)) (hc : c1.natAbs < 2 ^ 64) {s f : Int} (hs : SrcOk s f) {lim : Int} (hl : 0 < lim) (hl2 : lim.natAbs < 2 ^ 9000) :
    ∃ v s', 0 ≤ v ∧ v < lim ∧ SrcOk s' f ∧ callN pg fuel (m + 1) 402 [.own (srcD s f), .val (.int lim)] = .ok (.val (.int v), [.own (srcD s' f), .val (.int lim)]) := by
  rcases hs with ⟨rfl, h0⟩ | ⟨rfl, h0, h1⟩
  · refine ⟨s % lim, s / lim, Int.emod_nonneg _ (by omega), Int.emod_lt_of_pos _ hl, .inl ⟨rfl, Int.ediv_nonneg h0 (by omega)⟩, ?_⟩
    rw [call_eq h, runFn_eq]
    simp [f402, f402_3, f402_0, f402_1, f402_2, pr_eq, pr_mod hl, pr_fdiv hl hl2, putD, ixN]
  · have z0 := Int.emod_nonneg (s * c1 + c0) (b := 2147483647) (by decide)
    have z1 := Int.emod_lt_of_pos (s * c1 + c0) (b := 2147483647) (by decide)
    refine ⟨((s * c1 + c0) % 2147483647) ^ 5 % 2147483647 / 16 % lim, (s * c1 + c0) % 2147483647, Int.emod_nonneg _ (by omega), Int.emod_lt_of_pos _ hl, .inr ⟨rfl, z0, z1⟩, ?_⟩
    have p5 : pr .pow [.int ((s * c1 + c0) % 2147483647), .int 5] = .val (.int (((s * c1 + c0) % 2147483647) ^ 5)) := pr_pow (by decide) (by decide) (by omega)
    rw [call_eq h, runFn_eq]
    simp [f402, f402_3, f402_4, f402_5, pr_eq, pr_mod hl, pr_mul (mulOk_r hc), pr_mod (show (0 : Int) < 2147483647 by decide), p5, pr_fdiv (show (0 : Int) < 16 by decide) (show (16 : Int).natAbs < 2 ^ 9000 from Nat.lt_of_lt_of_le (by decide : 16 < 2 ^ 5) (Nat.pow_le_pow_right (by decide) (by decide))), putD, ixN]
/-! ### rings drawn -/
def menuT : List Tx := [[98], [97], [97, 49], [100], [114, 105, 110, 103], [109, 101, 101, 116], [114, 105, 110, 103, 50], [112, 113, 115, 117, 118, 119, 120], [107, 54, 56], [114, 49], [114, 49, 48], [101]]
/-- the name of the k-th ring -/
def nameAt (first k : Nat) : Tx := (menuT[(first + k) % 12]?).getD []
theorem nameAt_inj {first i j : Nat} (hi : i < 12) (hj : j < 12) (h : nameAt first i = nameAt first j) : i = j := by
  have key : ∀ a b : Fin 12, (menuT[a.1]?).getD [] = (menuT[b.1]?).getD [] → a = b := by decide
  have e := key ⟨(first + i) % 12, Nat.mod_lt _ (by decide)⟩ ⟨(first + j) % 12, Nat.mod_lt _ (by decide)⟩ h
  have e2 : (first + i) % 12 = (first + j) % 12 := Fin.mk.inj e
  omega
theorem nameAt_name (first k : Nat) : isNm (nameAt first k) = true := by
  have key : ∀ a : Fin 12, isNm ((menuT[a.1]?).getD []) = true := by decide
  exact key ⟨(first + k) % 12, Nat.mod_lt _ (by decide)⟩
/-- rings as they are drawn -/
structure Drawn (first : Nat) (most : Nat) (longest : Int) (rs : List Ring) : Prop where
  pos : 1 ≤ rs.length
  most : rs.length ≤ most
  nm : ∀ (k : Nat) r, rs[k]? = some r → r.1 = nameAt first k
  len : ∀ r ∈ rs, 1 ≤ r.2.1 ∧ r.2.1 ≤ longest
  stp : ∀ r ∈ rs, 1 ≤ r.2.2 ∧ r.2.2 ≤ 3 * r.2.1
theorem small9000 {n : Int} (h : n.natAbs < 2 ^ 200) : n.natAbs < 2 ^ 9000 := Nat.lt_of_lt_of_le h (Nat.pow_le_pow_right (by decide) (by decide))
abbrev rgBody : List S := [f403_2, f403_4, f403_5, f403_6, f403_7, f403_8]
theorem rg_turn {c0 c1 : Int} (h : pg.fns.lookup 402 = some (f402 c0 c1)) (hc : c1.natAbs < 2 ^ 64) {s f : Int} (hs : SrcOk s f) {M : D} {longest : Int} (hl : 2 ≤ longest) (hl2 : longest < 2 ^ 100) {first k : Nat} {acc : List D} (ha : acc.length < big) :
    ∃ s' r, SrcOk s' f ∧ r.1 = nameAt first k ∧ (1 ≤ r.2.1 ∧ r.2.1 ≤ longest) ∧ (1 ≤ r.2.2 ∧ r.2.2 ≤ 3 * r.2.1) ∧
      turn (tbl pg fuel (m + 1)) fuel [0] (.one 5) rgBody [5, 6, 7, 8, 9] (.int (k : Int)) [.own (srcD s f), .val M, .val (.int longest), .val (.int (first : Int)), .own (.lst acc), .no, .no, .no, .no, .no] =
        .next [.own (srcD s' f), .val M, .val (.int longest), .val (.int (first : Int)), .own (.lst (acc ++ [rgD false r])), .no, .no, .no, .no, .no] := by
  obtain ⟨v1, s1, a1, b1, o1, e1⟩ := c_draw (fuel := fuel) (m := m) h hc hs (lim := longest - 1) (by omega) (small9000 (by omega))
  obtain ⟨v2, s2, a2, b2, o2, e2⟩ := c_draw (fuel := fuel) (m := m) h hc o1 (lim := 12) (by omega) (small9000 (by decide))
  let len : Int := if v2 = 0 then 1 else 2 + v1
  have hlen : 1 ≤ len ∧ len ≤ longest := by
    show 1 ≤ (if v2 = 0 then 1 else 2 + v1) ∧ (if v2 = 0 then 1 else 2 + v1) ≤ longest
    split <;> omega
  obtain ⟨v3, s3, a3, b3, o3, e3⟩ := c_draw (fuel := fuel) (m := m) h hc o2 (lim := len) (by omega) (small9000 (by omega))
  obtain ⟨v4, s4, a4, b4, o4, e4⟩ := c_draw (fuel := fuel) (m := m) h hc o3 (lim := 3 * len) (by omega) (small9000 (by omega))
  obtain ⟨v5, s5, a5, b5, o5, e5⟩ := c_draw (fuel := fuel) (m := m) h hc o4 (lim := 4) (by omega) (small9000 (by decide))
  obtain ⟨st, es, h1, h2⟩ : ∃ st, atI [D.int 1, .int 1, .int (1 + v3), .int (1 + v4)] v5 = some (.int st) ∧ 1 ≤ st ∧ st ≤ 3 * len := by
    have : v5 = 0 ∨ v5 = 1 ∨ v5 = 2 ∨ v5 = 3 := by omega
    rcases this with rfl | rfl | rfl | rfl
    · exact ⟨1, by simp, by omega, by omega⟩
    · exact ⟨1, by simp, by omega, by omega⟩
    · exact ⟨1 + v3, by simp, by omega, by omega⟩
    · exact ⟨1 + v4, by simp, by omega, by omega⟩
  refine ⟨s5, (nameAt first k, len, st), o5, rfl, hlen, ⟨h1, h2⟩, ?_⟩
  have hm : idxD (.lst (menuT.map .str)) (.int (((first : Int) + (k : Int)) % 12)) = some (.str (nameAt first k)) := by
    rw [show ((first : Int) + (k : Int)) % 12 = (((first + k) % 12 : Nat) : Int) by omega, idxD_lst, atI_nat, List.getElem?_map]
    unfold nameAt
    have : (first + k) % 12 < menuT.length := Nat.mod_lt _ (by decide)
    rw [List.getElem?_eq_getElem this]
    rfl
  rw [show menuT.map D.str = [.str [98], .str [97], .str [97, 49], .str [100], .str [114, 105, 110, 103], .str [109, 101, 101, 116], .str [114, 105, 110, 103, 50], .str [112, 113, 115, 117, 118, 119, 120], .str [107, 54, 56], .str [114, 49], .str [114, 49, 48], .str [101]] from rfl] at hm
  have key : len = if v2 = 0 then 1 else 2 + v1 := rfl
  generalize len = len' at *
  generalize nameAt first k = nm at *
  by_cases z : v2 = 0
  · rw [if_pos z] at key
    subst z
    subst key
    simp only [Int.mul_one] at e4
    simp [turn_eq, f403_2, e1, f403_4, f403_3, e2, pr_eq]
    simp [f403_5, e3, pr_mul (mulOk_l (n := 3) (k := 1) (by decide)), e4, e5, es]
    simp [f403_6, f403_7, pr_mod (show (0 : Int) < 12 by decide), hm, f403_8, ownL, ha, rgD]
  · rw [if_neg z] at key
    subst key
    have z' : (v2 == 0) = false := by simpa using z
    simp [turn_eq, f403_2, e1, f403_4, f403_3, e2, pr_eq, z']
    simp [f403_5, e3, pr_mul (mulOk_l (n := 3) (k := 2 + v1) (by decide)), e4, e5, es]
    simp [f403_6, f403_7, pr_mod (show (0 : Int) < 12 by decide), hm, f403_8, ownL, ha, rgD]
theorem rng_cons {lo : Int} {n : Nat} : rngD lo (n + 1) = .int lo :: rngD (lo + 1) n := rfl
theorem rg_loop {c0 c1 : Int} (h : pg.fns.lookup 402 = some (f402 c0 c1)) (hc : c1.natAbs < 2 ^ 64) {f : Int} {M : D} {longest : Int} (hl : 2 ≤ longest) (hl2 : longest < 2 ^ 100) {first : Nat} : ∀ (n k : Nat) (s : Int) (acc : List D), SrcOk s f → acc.length + n < big →
    ∃ (s' : Int) (rs : List Ring), SrcOk s' f ∧ rs.length = n ∧ (∀ (j : Nat) r, rs[j]? = some r → r.1 = nameAt first (k + j)) ∧ (∀ r ∈ rs, 1 ≤ r.2.1 ∧ r.2.1 ≤ longest) ∧ (∀ r ∈ rs, 1 ≤ r.2.2 ∧ r.2.2 ≤ 3 * r.2.1) ∧
      forN (turn (tbl pg fuel (m + 1)) fuel [0] (.one 5) rgBody [5, 6, 7, 8, 9]) (rngD (k : Int) n) [.own (srcD s f), .val M, .val (.int longest), .val (.int (first : Int)), .own (.lst acc), .no, .no, .no, .no, .no] =
        .next [.own (srcD s' f), .val M, .val (.int longest), .val (.int (first : Int)), .own (.lst (acc ++ rs.map (rgD false))), .no, .no, .no, .no, .no]
  | 0, k, s, acc, hs, _ => ⟨s, [], hs, rfl, fun j r e => by simp at e, fun r hr => by simp at hr, fun r hr => by simp at hr, by simp [rngD]⟩
  | n + 1, k, s, acc, hs, ha => by
    obtain ⟨s1, r, o1, h1, h2, h3, e1⟩ := rg_turn (fuel := fuel) (m := m) h hc hs (M := M) hl hl2 (first := first) (k := k) (acc := acc) (by omega)
    obtain ⟨s2, rs, o2, g1, g2, g3, g4, e2⟩ := rg_loop h hc hl hl2 (first := first) (M := M) n (k + 1) s1 (acc ++ [rgD false r]) o1 (by simp; omega)
    refine ⟨s2, r :: rs, o2, by simp [g1], fun j q e => ?_, fun q hq => ?_, fun q hq => ?_, ?_⟩
    · cases j with
      | zero => simp at e; subst e; exact h1
      | succ j =>
        have := g2 j q (by simpa using e)
        rw [show k + (j + 1) = k + 1 + j by omega]
        exact this
    · rcases List.mem_cons.mp hq with z | z
      · rw [z]; exact h2
      · exact g3 q z
    · rcases List.mem_cons.mp hq with z | z
      · rw [z]; exact h3
      · exact g4 q z
    · rw [rng_cons, forN_next e1, show (k : Int) + 1 = ((k + 1 : Nat) : Int) by omega, e2]
      simp
theorem c_rings {c0 c1 : Int} (h2 : pg.fns.lookup 402 = some (f402 c0 c1)) (h : pg.fns.lookup 403 = some f403) (hc : c1.natAbs < 2 ^ 64) {s f : Int} (hs : SrcOk s f) {most : Nat} (hm : 1 ≤ most) (hm2 : most ≤ 12) {longest : Int} (hl : 2 ≤ longest) (hl2 : longest < 2 ^ 100) :
    ∃ s' first rs, SrcOk s' f ∧ Drawn first most longest rs ∧ callN pg fuel (m + 2) 403 [.own (srcD s f), .val (.int (most : Int)), .val (.int longest)] = .ok (.own (.lst (rs.map (rgD false))), [.own (srcD s' f), .val (.int (most : Int)), .val (.int longest)]) := by
  obtain ⟨v1, s1, a1, b1, o1, e1⟩ := c_draw (fuel := fuel) (m := m) h2 hc hs (lim := 12) (by omega) (small9000 (by decide))
  obtain ⟨v2, s2, a2, b2, o2, e2⟩ := c_draw (fuel := fuel) (m := m) h2 hc o1 (lim := (most : Int)) (by omega) (small9000 (by omega))
  obtain ⟨s3, rs, o3, g1, g2, g3, g4, e3⟩ := rg_loop (fuel := fuel) (m := m) h2 hc (f := f) (M := .int (most : Int)) hl hl2 (first := v1.toNat) (1 + v2).toNat 0 s2 [] o2 (by simp; unfold big; omega)
  refine ⟨s3, v1.toNat, rs, o3, ⟨by omega, by omega, fun k r e => by have := g2 k r e; rwa [Nat.zero_add] at this, g3, g4⟩, ?_⟩
  have hv : ((v1.toNat : Nat) : Int) = v1 := by omega
  rw [hv] at e3
  simp only [Int.cast_ofNat_Int, List.nil_append] at e3
  rw [call_eq h, runFn_eq]
  simp [f403, f403_0, f403_1, e1, f403_9, e2, iter_rng1 (show -(2 ^ 62) ≤ 1 + v2 by omega) (show 1 + v2 < 2 ^ 62 by omega), e3, f403_10]
end
end Mr

/-! The laws' own helpers: meetings drawn. -/
namespace Mr
open Mr.P Mr.Q
theorem Drawn.ok {first most : Nat} {longest : Int} {rs : List Ring} (h : Drawn first most longest rs) (hm : most ≤ 12) : RsOk rs := by
  refine ⟨fun r hr => ?_, ?_, fun r hr => (h.len r hr).1, fun r hr => (h.stp r hr).1, h.pos, Nat.le_trans h.most hm⟩
  · obtain ⟨k, e⟩ := List.getElem?_of_mem hr
    rw [h.nm k r e]
    exact nameAt_name first k
  · rw [List.nodup_iff_pairwise_ne, List.pairwise_iff_getElem]
    intro i j hi hj hij z
    simp only [List.length_map] at hi hj
    simp only [List.getElem_map] at z
    have hl := h.most
    have e1 := h.nm i rs[i] (List.getElem?_eq_getElem hi)
    have e2 := h.nm j rs[j] (List.getElem?_eq_getElem hj)
    rw [e1, e2] at z
    have := nameAt_inj (by omega) (by omega) z
    omega
/-- two names in order -/
def srt2 (a b : Tx) : Tx × Tx := if ltT b a then (b, a) else (a, b)
theorem leD_str (a b : Tx) : leD (.str a) (.str b) = !ltT b a := by
  unfold leD
  rw [cmpD_str]
  cases e : ltT a b with
  | true => simp [ltT_asy e]
  | false => cases e2 : ltT b a <;> simp
theorem sort2 (a b : Tx) : sortD [.str a, .str b] = [.str (srt2 a b).1, .str (srt2 a b).2] := by
  unfold sortD srt2
  have : [D.str a, D.str b].mergeSort leD = if leD (.str a) (.str b) then [.str a, .str b] else [.str b, .str a] := by
    simp [List.mergeSort, List.MergeSort.Internal.splitInTwo, List.merge]
  rw [this, leD_str]
  cases ltT b a <;> rfl
theorem pr_sort2 (a b : Tx) : pr .sorted [.lst [.str a, .str b]] = .own (nlD (srt2 a b)) := by
  have hl : [D.str a, D.str b].length ≤ big := show 2 ≤ big by decide
  rw [pr_sorted rfl (by simp) hl rfl, sort2]
  rfl
theorem srt2_eq {a b c d : Tx} (h : srt2 a b = srt2 c d) : (a = c ∧ b = d) ∨ (a = d ∧ b = c) := by
  unfold srt2 at h
  split at h <;> split at h <;> (obtain ⟨h1, h2⟩ := Prod.mk.inj h) <;> first | exact .inl ⟨h1, h2⟩ | exact .inr ⟨h1, h2⟩ | exact .inl ⟨h2, h1⟩ | exact .inr ⟨h2, h1⟩
theorem srt2_of {a b c d : Tx} (h : (a = c ∧ b = d) ∨ (a = d ∧ b = c)) : srt2 a b = srt2 c d := by
  rcases h with ⟨rfl, rfl⟩ | ⟨rfl, rfl⟩
  · rfl
  · unfold srt2
    cases e : ltT b a with
    | true => simp [ltT_asy e]
    | false =>
      cases e2 : ltT a b with
      | true => simp
      | false => simp [ltT_triz e e2]
/-- the places taken so far; the pairs -/
def takenOf (ms : List Mtg) : List Pl := ms.flatMap fun t => [(t.1, t.2.1), (t.2.2.1, t.2.2.2)]
def prsOf (ms : List Mtg) : List (Tx × Tx) := ms.map fun t => srt2 t.1 t.2.2.1
theorem takenOf_app (ms : List Mtg) (t : Mtg) : takenOf (ms ++ [t]) = takenOf ms ++ [(t.1, t.2.1), (t.2.2.1, t.2.2.2)] := by simp [takenOf]
theorem prsOf_app (ms : List Mtg) (t : Mtg) : prsOf (ms ++ [t]) = prsOf ms ++ [srt2 t.1 t.2.2.1] := by simp [prsOf]
theorem MsOk.add {ls : Lens} {ms : List Mtg} (h : MsOk ls ms) {t : Mtg} (o : One ls t) (a : (t.1, t.2.1) ∉ takenOf ms) (b : (t.2.2.1, t.2.2.2) ∉ takenOf ms) (p : srt2 t.1 t.2.2.1 ∉ prsOf ms) : MsOk ls (ms ++ [t]) := by
  refine ⟨fun u hu => ?_, ?_⟩
  · rcases List.mem_append.mp hu with z | z
    · exact h.one u z
    · rw [List.mem_singleton] at z; rw [z]; exact o
  · rw [List.pairwise_append]
    refine ⟨h.two, by simp, fun u hu v hv => ?_⟩
    rw [List.mem_singleton] at hv
    subst hv
    have a1 : ∀ q, q ∈ [(u.1, u.2.1), (u.2.2.1, u.2.2.2)] → q ∈ takenOf ms := fun q hq => List.mem_flatMap.mpr ⟨u, hu, hq⟩
    have p1 : srt2 u.1 u.2.2.1 ∈ prsOf ms := List.mem_map.mpr ⟨u, hu, rfl⟩
    refine ⟨fun z => a (z ▸ a1 _ (by simp)), fun z => a (z ▸ a1 _ (by simp)), fun z => b (z ▸ a1 _ (by simp)), fun z => b (z ▸ a1 _ (by simp)), fun z => p ?_, fun z => p ?_⟩
    · rw [srt2_of (.inl z)]; exact p1
    · rw [srt2_of (.inr z)]; exact p1
theorem lenOf_mem {rs : List Ring} (nd : (rs.map (·.1)).Nodup) {r : Ring} (h : r ∈ rs) : lenOf (lensOf rs) r.1 = some r.2.1 := by
  unfold lenOf lensOf
  rw [List.find?_map]
  have e : rs.find? ((fun a : Tx × Int => decide (a.1 = r.1)) ∘ fun r => (r.1, r.2.1)) = some r := by
    have hf : ∃ q, rs.find? ((fun a : Tx × Int => decide (a.1 = r.1)) ∘ fun r => (r.1, r.2.1)) = some q := by
      cases e : rs.find? ((fun a : Tx × Int => decide (a.1 = r.1)) ∘ fun r => (r.1, r.2.1)) with
      | some q => exact ⟨q, rfl⟩
      | none =>
        rw [List.find?_eq_none] at e
        exact absurd (by simp) (e r h)
    obtain ⟨q, e⟩ := hf
    rw [e]
    have h1 := List.find?_some e
    have h2 := List.mem_of_find?_eq_some e
    simp only [Function.comp_apply, decide_eq_true_eq] at h1
    rw [List.nodup_iff_pairwise_ne, List.pairwise_map] at nd
    exact congrArg some (Classical.byContradiction fun ne => pw_all (fun h => Ne.symm h) nd h2 h ne h1)
  rw [e]
  rfl
section
variable {pg : Pg} {fuel m : Nat}
abbrev mtBody : List S := [f404_3, f404_4, f404_5, f404_6, f404_7, f404_8, f404_12]
/-- rings among which meetings are drawn -/
structure RsIn (rs : List Ring) : Prop where
  nd : (rs.map (·.1)).Nodup
  pos : 1 ≤ rs.length
  most : rs.length ≤ 12
  len : ∀ r ∈ rs, 1 ≤ r.2.1 ∧ r.2.1 < 2 ^ 200
theorem mt_turn {c0 c1 : Int} (h : pg.fns.lookup 402 = some (f402 c0 c1)) (hc : c1.natAbs < 2 ^ 64) {s f : Int} (hs : SrcOk s f) {rs : List Ring} (hr : RsIn rs) {M : D} {k : Int} {ms : List Mtg} (ho : MsOk (lensOf rs) ms) (hl : 2 * ms.length + 4 ≤ big) :
    ∃ s' ms', SrcOk s' f ∧ MsOk (lensOf rs) ms' ∧ ms'.length ≤ ms.length + 1 ∧
      turn (tbl pg fuel (m + 1)) fuel [0] (.one 6) mtBody [6, 7, 8, 9, 10, 11, 12] (.int k) [.own (srcD s f), .val (.lst (rs.map (rgD false))), .val M, .own (.lst (ms.map (mtD true))), .own (.lst ((takenOf ms).map plD)), .own (.lst ((prsOf ms).map nlD)), .no, .no, .no, .no, .no, .no, .no] =
        .next [.own (srcD s' f), .val (.lst (rs.map (rgD false))), .val M, .own (.lst (ms'.map (mtD true))), .own (.lst ((takenOf ms').map plD)), .own (.lst ((prsOf ms').map nlD)), .no, .no, .no, .no, .no, .no, .no] := by
  have hlen : pr .len [.lst (rs.map (rgD false))] = .val (.int (rs.length : Int)) := by rw [pr_lenL (by have := hr.most; simp; unfold big; omega), List.length_map]
  have hp := hr.pos
  have hmo := hr.most
  obtain ⟨v1, s1, a1, b1, o1, e1⟩ := c_draw (fuel := fuel) (m := m) h hc hs (lim := (rs.length : Int)) (by omega) (small9000 (by omega))
  obtain ⟨v2, s2, a2, b2, o2, e2⟩ := c_draw (fuel := fuel) (m := m) h hc o1 (lim := (rs.length : Int)) (by omega) (small9000 (by omega))
  have get : ∀ v : Int, 0 ≤ v → v < (rs.length : Int) → ∃ r, rs[v.toNat]? = some r ∧ r ∈ rs ∧ idxD (.lst (rs.map (rgD false))) (.int v) = some (rgD false r) := fun v h0 h1 => by
    obtain ⟨n, rfl⟩ : ∃ n : Nat, v = (n : Int) := ⟨v.toNat, by omega⟩
    have hv : n < rs.length := by omega
    rw [Int.toNat_natCast]
    refine ⟨rs[n], List.getElem?_eq_getElem hv, List.getElem_mem hv, ?_⟩
    rw [idxD_lst, atI_nat, List.getElem?_map, List.getElem?_eq_getElem hv]
    rfl
  obtain ⟨r1, g1, m1, i1⟩ := get v1 a1 b1
  obtain ⟨r2, g2, m2, i2⟩ := get v2 a2 b2
  have l1 := hr.len r1 m1
  have l2 := hr.len r2 m2
  obtain ⟨v3, s3, a3, b3, o3, e3⟩ := c_draw (fuel := fuel) (m := m) h hc o2 (lim := r1.2.1) (by omega) (small9000 (by omega))
  obtain ⟨v4, s4, a4, b4, o4, e4⟩ := c_draw (fuel := fuel) (m := m) h hc o3 (lim := r2.2.1) (by omega) (small9000 (by omega))
  have j0 : ∀ r : Ring, idxD (rgD false r) (.int 0) = some (.str r.1) := fun r => rfl
  have j1 : ∀ r : Ring, idxD (rgD false r) (.int 1) = some (.int r.2.1) := fun r => rfl
  have p1 : inD (.tup [.str r1.1, .int v3]) (.lst ((takenOf ms).map plD)) = some (decide ((r1.1, v3) ∈ takenOf ms)) := inD_enc encP (r1.1, v3) _
  have p2 : inD (.tup [.str r2.1, .int v4]) (.lst ((takenOf ms).map plD)) = some (decide ((r2.1, v4) ∈ takenOf ms)) := inD_enc encP (r2.1, v4) _
  have p3 : inD (nlD (srt2 r1.1 r2.1)) (.lst ((prsOf ms).map nlD)) = some (decide (srt2 r1.1 r2.1 ∈ prsOf ms)) := inD_enc encNL _ _
  have hso := pr_sort2 r1.1 r2.1
  have tl : (takenOf ms).length = 2 * ms.length := by
    clear p1 p2 p3 ho hl
    induction ms with
    | nil => rfl
    | cons t ms ih => simp only [takenOf, List.flatMap_cons, List.length_append, List.length_cons, List.length_nil] at *; omega
  have pl : (prsOf ms).length = ms.length := by simp [prsOf]
  have ml : (ms.map (mtD true)).length < big := by simp; omega
  have pl' : ((prsOf ms).map nlD).length < big := by simp [pl]; omega
  have ad : addD (.lst ((takenOf ms).map plD)) (.lst [.tup [.str r1.1, .int v3], .tup [.str r2.1, .int v4]]) = .own (.lst ((takenOf (ms ++ [(r1.1, v3, r2.1, v4)])).map plD)) := by
    rw [addD_lst (by simp [tl]; omega), takenOf_app]
    simp [plD]
  have yes : ¬ (v1 = v2) → srt2 r1.1 r2.1 ∉ prsOf ms → (r1.1, v3) ∉ takenOf ms → (r2.1, v4) ∉ takenOf ms → MsOk (lensOf rs) (ms ++ [(r1.1, v3, r2.1, v4)]) := fun q1 q2 q3 q4 => by
    refine ho.add ⟨?_, ?_, ?_⟩ q3 q4 q2
    · show isPl _ r1.1 v3 = true
      unfold isPl
      rw [lenOf_mem hr.nd m1]
      simp [a3, b3]
    · show isPl _ r2.1 v4 = true
      unfold isPl
      rw [lenOf_mem hr.nd m2]
      simp [a4, b4]
    · intro z
      have nd := hr.nd
      rw [List.nodup_iff_pairwise_ne, List.pairwise_map] at nd
      have er : r1 = r2 := Classical.byContradiction fun ne => pw_all (fun h => Ne.symm h) nd m1 m2 ne z
      have h1 := (List.getElem?_eq_some_iff.mp g1)
      have h2 := (List.getElem?_eq_some_iff.mp g2)
      have nd2 : rs.Nodup := by
        rw [List.nodup_iff_pairwise_ne]
        exact nd.imp fun h e => h (by rw [e])
      have : v1.toNat = v2.toNat := (List.getElem?_inj h1.1 nd2).mp (by rw [g1, g2, er])
      omega
  have en : (ms ++ [(r1.1, v3, r2.1, v4)]).map (mtD true) = ms.map (mtD true) ++ [.tup [.str r1.1, .int v3, .str r2.1, .int v4]] := by simp [mtT]
  have ep : (prsOf (ms ++ [(r1.1, v3, r2.1, v4)])).map nlD = (prsOf ms).map nlD ++ [nlD (srt2 r1.1 r2.1)] := by rw [prsOf_app]; simp
  by_cases q1 : v1 = v2
  · refine ⟨s4, ms, o4, ho, by omega, ?_⟩
    generalize rs.map (rgD false) = rl at *
    generalize nlD (srt2 r1.1 r2.1) = sn at *
    have q1' : (v1 == v2) = true := by simpa using q1
    simp [turn_eq, f404_3, hlen, e1, f404_4, e2, f404_5, i1, j1, e3, f404_6, i2, e4]
    simp [f404_7, i1, i2, j0, f404_8, hso, f404_12, pr_ne, q1']
  by_cases q2 : srt2 r1.1 r2.1 ∈ prsOf ms
  · refine ⟨s4, ms, o4, ho, by omega, ?_⟩
    generalize rs.map (rgD false) = rl at *
    generalize nlD (srt2 r1.1 r2.1) = sn at *
    have q1' : (v1 == v2) = false := by simpa using q1
    simp [turn_eq, f404_3, hlen, e1, f404_4, e2, f404_5, i1, j1, e3, f404_6, i2, e4]
    simp [f404_7, i1, i2, j0, f404_8, hso, f404_12, pr_ne, q1', p3, q2]
  by_cases q3 : (r1.1, v3) ∈ takenOf ms
  · refine ⟨s4, ms, o4, ho, by omega, ?_⟩
    generalize rs.map (rgD false) = rl at *
    generalize nlD (srt2 r1.1 r2.1) = sn at *
    have q1' : (v1 == v2) = false := by simpa using q1
    simp [turn_eq, f404_3, hlen, e1, f404_4, e2, f404_5, i1, j1, e3, f404_6, i2, e4]
    simp [f404_7, i1, i2, j0, f404_8, hso, f404_12, pr_ne, q1', p3, q2, p1, q3]
  by_cases q4 : (r2.1, v4) ∈ takenOf ms
  · refine ⟨s4, ms, o4, ho, by omega, ?_⟩
    generalize rs.map (rgD false) = rl at *
    generalize nlD (srt2 r1.1 r2.1) = sn at *
    have q1' : (v1 == v2) = false := by simpa using q1
    simp [turn_eq, f404_3, hlen, e1, f404_4, e2, f404_5, i1, j1, e3, f404_6, i2, e4]
    simp [f404_7, i1, i2, j0, f404_8, hso, f404_12, pr_ne, q1', p3, q2, p1, q3, p2, q4]
  · refine ⟨s4, ms ++ [(r1.1, v3, r2.1, v4)], o4, yes q1 q2 q3 q4, by simp, ?_⟩
    rw [en, ep]
    generalize rs.map (rgD false) = rl at *
    generalize nlD (srt2 r1.1 r2.1) = sn at *
    generalize (takenOf (ms ++ [(r1.1, v3, r2.1, v4)])).map plD = tn at *
    generalize ms.map (mtD true) = msd at *
    generalize (prsOf ms).map nlD = psd at *
    have q1' : (v1 == v2) = false := by simpa using q1
    simp [turn_eq, f404_3, hlen, e1, f404_4, e2, f404_5, i1, j1, e3, f404_6, i2, e4]
    simp [f404_7, i1, i2, j0, f404_8, hso, f404_12, pr_ne, q1', p3, q2, p1, q3, p2, q4]
    simp [f404_9, i1, i2, j0, f404_10, f404_11, ownL, ml, ad, pl']
theorem mt_loop {c0 c1 : Int} (h : pg.fns.lookup 402 = some (f402 c0 c1)) (hc : c1.natAbs < 2 ^ 64) {f : Int} {rs : List Ring} (hr : RsIn rs) {M : D} : ∀ (n : Nat) (k s : Int) (ms : List Mtg), SrcOk s f → MsOk (lensOf rs) ms → 2 * (ms.length + n) + 4 ≤ big →
    ∃ s' ms', SrcOk s' f ∧ MsOk (lensOf rs) ms' ∧ ms'.length ≤ ms.length + n ∧
      forN (turn (tbl pg fuel (m + 1)) fuel [0] (.one 6) mtBody [6, 7, 8, 9, 10, 11, 12]) (rngD k n) [.own (srcD s f), .val (.lst (rs.map (rgD false))), .val M, .own (.lst (ms.map (mtD true))), .own (.lst ((takenOf ms).map plD)), .own (.lst ((prsOf ms).map nlD)), .no, .no, .no, .no, .no, .no, .no] =
        .next [.own (srcD s' f), .val (.lst (rs.map (rgD false))), .val M, .own (.lst (ms'.map (mtD true))), .own (.lst ((takenOf ms').map plD)), .own (.lst ((prsOf ms').map nlD)), .no, .no, .no, .no, .no, .no, .no]
  | 0, k, s, ms, hs, ho, _ => ⟨s, ms, hs, ho, by omega, rfl⟩
  | n + 1, k, s, ms, hs, ho, hl => by
    obtain ⟨s1, ms1, o1, h1, l1, e1⟩ := mt_turn (fuel := fuel) (m := m) h hc hs hr (M := M) (k := k) ho (by omega)
    obtain ⟨s2, ms2, o2, h2, l2, e2⟩ := mt_loop h hc hr (M := M) n (k + 1) s1 ms1 o1 h1 (by omega)
    exact ⟨s2, ms2, o2, h2, by omega, by rw [rng_cons, forN_next e1, e2]⟩
theorem c_mts {c0 c1 : Int} (h : pg.fns.lookup 402 = some (f402 c0 c1)) (h4 : pg.fns.lookup 404 = some f404) (hc : c1.natAbs < 2 ^ 64) {s f : Int} (hs : SrcOk s f) {rs : List Ring} (hr : RsIn rs) {many : Int} (h0 : 0 ≤ many) (h1 : many ≤ 1000) :
    ∃ s' ms, SrcOk s' f ∧ MsOk (lensOf rs) ms ∧ (ms.length : Int) ≤ many ∧
      callN pg fuel (m + 2) 404 [.own (srcD s f), .val (.lst (rs.map (rgD false))), .val (.int many)] = .ok (.own (.lst (ms.map (mtD true))), [.own (srcD s' f), .val (.lst (rs.map (rgD false))), .val (.int many)]) := by
  obtain ⟨s', ms, o, ho, hl, e⟩ := mt_loop (fuel := fuel) (m := m) h hc (f := f) hr (M := .int many) many.toNat 0 s [] hs ⟨fun t ht => by simp at ht, List.Pairwise.nil⟩ (by simp; unfold big; omega)
  refine ⟨s', ms, o, ho, by simp only [List.length_nil] at hl; omega, ?_⟩
  simp only [takenOf, prsOf, List.flatMap_nil, List.map_nil] at e
  rw [call_eq h4, runFn_eq]
  simp [f404, f404_0, f404_1, f404_2, f404_13, iter_rng1 (show -(2 ^ 62) ≤ many by omega) (show many < 2 ^ 62 by omega), e, f404_14]
end
end Mr

/-! Law k15: the plain part. -/
namespace Mr
theorem sortR_kept {rs : List Ring} (nd : (rs.map (·.1)).Nodup) : (sortR rs).map kept = sortR (rs.map kept) := by
  have nd2 : ((rs.map kept).map (·.1)).Nodup := by rw [List.map_map]; exact nd
  rw [sortR_eq nd, sortR_eq nd2]
  exact List.map_mergeSort fun _ _ _ _ => rfl
end Mr
namespace Mr.K15
open Mr.P Mr.Q
/-- the ring as the law writes it -/
def lawR (r : Ring) : Ring := passed (kept r)
section
variable {pg : Pg} {fuel m : Nat}
abbrev tBody1 : List S := [f539_1, f539_2]
theorem tx_turn {A B : D} {r : Ring} {acc : List D} (h : RSz (lawR r)) (h1 : 1 ≤ r.2.1) (hl : acc.length < big) :
    turn (tbl pg fuel m) fuel [] (.tup [4, 5, 6]) tBody1 [4, 5, 6, 7] (rgD true r) [.val A, .val B, .own (.lst acc), .no, .no, .no, .no, .no, .no, .no, .no] = .next [.val A, .val B, .own (.lst (acc ++ [.str (ringLine (lawR r))])), .no, .no, .no, .no, .no, .no, .no, .no] := by
  have z0 := Int.emod_nonneg r.2.2 (b := r.2.1) (by omega)
  have hnm : isNm r.1 = true := h.nm
  have nl := name_len hnm
  have a1 : Sz r.2.1 := h.a
  have la := a1.len
  have lb := h.b.len
  have hb : 200 ≤ big := by decide
  have es := a1.str
  have et := h.b.str
  have key : ∀ x : Int, (lawR r).2.2 = x → strD (.int x) = .val (.str (intTx (lawR r).2.2)) := fun x e => by rw [← e]; exact et
  have line : ([114, 105, 110, 103, 32] ++ r.1 ++ [32] ++ intTx r.2.1 ++ [32] ++ intTx (lawR r).2.2 : Tx) = ringLine (lawR r) := by simp [ringLine, ringWs, joinT, ringW, lawR, passed, kept]
  have q1 := addD_str (u := [114, 105, 110, 103, 32]) (v := r.1) (by simp; omega)
  have q2 := addD_str (u := [114, 105, 110, 103, 32] ++ r.1) (v := [32]) (by simp; omega)
  have q3 := addD_str (u := [114, 105, 110, 103, 32] ++ r.1 ++ [32]) (v := intTx r.2.1) (by simp; omega)
  have q4 := addD_str (u := [114, 105, 110, 103, 32] ++ r.1 ++ [32] ++ intTx r.2.1) (v := [32]) (by simp; omega)
  have q5 := addD_str (u := [114, 105, 110, 103, 32] ++ r.1 ++ [32] ++ intTx r.2.1 ++ [32]) (v := intTx (lawR r).2.2) (by simp; omega)
  rw [line] at q5
  generalize ([114, 105, 110, 103, 32] ++ r.1 ++ [32] ++ intTx r.2.1 ++ [32] : Tx) = w5 at *
  generalize ([114, 105, 110, 103, 32] ++ r.1 ++ [32] ++ intTx r.2.1 : Tx) = w4 at *
  generalize ([114, 105, 110, 103, 32] ++ r.1 ++ [32] : Tx) = w3 at *
  generalize ([114, 105, 110, 103, 32] ++ r.1 : Tx) = w2 at *
  by_cases z : r.2.2 % r.2.1 = 0
  · have e7 : (lawR r).2.2 = r.2.1 := by simp [lawR, passed, kept, z]
    have z' : ¬ 0 < r.2.2 % r.2.1 := by omega
    rw [e7] at q5
    simp [turn_eq, f539_1, f539_2, pr_mod (show 0 < r.2.1 by omega), q1, q2, q3, q4, q5, es, z', ownL, hl]
  · have e6 := key (r.2.2 % r.2.1) (by simp [lawR, passed, kept, z])
    have z' : 0 < r.2.2 % r.2.1 := by omega
    simp [turn_eq, f539_1, f539_2, pr_mod (show 0 < r.2.1 by omega), q1, q2, q3, q4, q5, es, e6, z', ownL, hl]
theorem tx_loop {A B : D} : ∀ (rs : List Ring) (acc : List D), (∀ r ∈ rs, RSz (lawR r) ∧ 1 ≤ r.2.1) → acc.length + rs.length ≤ big →
    forN (turn (tbl pg fuel m) fuel [] (.tup [4, 5, 6]) tBody1 [4, 5, 6, 7]) (rs.map (rgD true)) [.val A, .val B, .own (.lst acc), .no, .no, .no, .no, .no, .no, .no, .no] = .next [.val A, .val B, .own (.lst (acc ++ rs.map fun r => .str (ringLine (lawR r)))), .no, .no, .no, .no, .no, .no, .no, .no]
  | [], acc, _, _ => by simp
  | r :: rs, acc, h, hl => by
    simp only [List.length_cons] at hl
    obtain ⟨h1, h2⟩ := h r (by simp)
    rw [List.map_cons, forN_next (tx_turn h1 h2 (by omega)), tx_loop rs _ (fun q hq => h q (List.mem_cons_of_mem _ hq)) (by simp; omega)]
    simp
theorem tm_turn {A B : D} {t : Mtg} {acc : List D} (h : MSz t) (hl : acc.length < big) :
    turn (tbl pg fuel m) fuel [] (.one 3) [f539_4] [3] (mtD true t) [.val A, .val B, .own (.lst acc), .no, .no, .no, .no, .no, .no, .no, .no] = .next [.val A, .val B, .own (.lst (acc ++ [.str (mtLine t)])), .no, .no, .no, .no, .no, .no, .no, .no] := by
  have d1 : ∀ a0 a1 a2 a3 a4 a5 a6 a7 a8 a9 : Sl, lcGo (lcT (tbl pg fuel m) (.one 10) [] f539_e2 [10]) [.str t.1, .int t.2.1, .str t.2.2.1, .int t.2.2.2] [a0, a1, a2, a3, a4, a5, a6, a7, a8, a9, .no] = .ok ([t.1, intTx t.2.1, t.2.2.1, intTx t.2.2.2].map .str, [a0, a1, a2, a3, a4, a5, a6, a7, a8, a9, .no]) := fun a0 a1 a2 a3 a4 a5 a6 a7 a8 a9 => by
    simp [lcGo, lcT, f539_e2, h.i.str, h.j.str]
  have n1 := name_len h.n
  have n2 := name_len h.o
  have n3 := h.i.len
  have n4 := h.j.len
  have hb : 200 ≤ big := by decide
  have j := pr_join (xs := [t.1, intTx t.2.1, t.2.2.1, intTx t.2.2.2]) (s := [32]) (by simp; omega)
  have ad := addD_str (u := [109, 101, 101, 116, 32]) (v := joinT [32] [t.1, intTx t.2.1, t.2.2.1, intTx t.2.2.2]) (by simp [joinT]; omega)
  have line : ([109, 101, 101, 116, 32] ++ joinT [32] [t.1, intTx t.2.1, t.2.2.1, intTx t.2.2.2] : Tx) = mtLine t := by simp [mtLine, mtWs, joinT, meetW]
  rw [line] at ad
  have hw : ([t.1, intTx t.2.1, t.2.2.1, intTx t.2.2.2].map D.str).length ≤ big := by simp only [List.length_map, List.length_cons, List.length_nil]; decide
  generalize [t.1, intTx t.2.1, t.2.2.1, intTx t.2.2.2].map D.str = ws at *
  generalize joinT [32] [t.1, intTx t.2.1, t.2.2.1, intTx t.2.2.2] = jw at *
  simp [turn_eq, f539_4, mtT, d1, unblk, j, ad, ownL, hl, hw]
theorem tm_loop {A B : D} : ∀ (ms : List Mtg) (acc : List D), (∀ t ∈ ms, MSz t) → acc.length + ms.length ≤ big →
    forN (turn (tbl pg fuel m) fuel [] (.one 3) [f539_4] [3]) (ms.map (mtD true)) [.val A, .val B, .own (.lst acc), .no, .no, .no, .no, .no, .no, .no, .no] = .next [.val A, .val B, .own (.lst (acc ++ ms.map fun t => .str (mtLine t))), .no, .no, .no, .no, .no, .no, .no, .no]
  | [], acc, _, _ => by simp
  | t :: ms, acc, h, hl => by
    simp only [List.length_cons] at hl
    rw [List.map_cons, forN_next (tm_turn (h t (by simp)) (by omega)), tm_loop ms _ (fun q hq => h q (List.mem_cons_of_mem _ hq)) (by simp; omega)]
    simp
theorem c_text (h : pg.fns.lookup 539 = some f539) {rs : List Ring} {ms : List Mtg} (hr : RsOk rs) (hm : MsOk (lensOf rs) ms) (zr : ∀ r ∈ rs, RSz (lawR r)) (zm : ∀ t ∈ (mkWeb rs ms).joints, MSz t) (hl : ms.length ≤ 1000) :
    ∃ os, callN pg fuel (m + 1) 539 [.val (.lst (rs.map (rgD false))), .val (.lst (ms.map (mtD true)))] = .ok (.val (.str (textOf ((mkWeb rs ms).rings.map passed) (mkWeb rs ms).joints)), os) := by
  have hmost := hr.most
  have hb : 1012 * 105 + 12 ≤ big := by decide
  have d1 : ∀ a0 a1 a2 a3 a4 a5 a6 a7 a9 a10 : Sl, lcGo (lcT (tbl pg fuel m) (.one 8) [] f539_e0 [8]) (rs.map (rgD false)) [a0, a1, a2, a3, a4, a5, a6, a7, .no, a9, a10] = .ok (rs.map (rgD true), [a0, a1, a2, a3, a4, a5, a6, a7, .no, a9, a10]) := fun a0 a1 a2 a3 a4 a5 a6 a7 a9 a10 => lc_mapf fun r _ => by simp [lcT, f539_e0, rgD]
  have d2 : ∀ a0 a1 a2 a3 a4 a5 a6 a7 a8 a10 : Sl, lcGo (lcT (tbl pg fuel m) (.one 9) [] f539_e1 [9]) (ms.map (mtD true)) [a0, a1, a2, a3, a4, a5, a6, a7, a8, .no, a10] = .ok ((ms.map inOrd).map (mtD true), [a0, a1, a2, a3, a4, a5, a6, a7, a8, .no, a10]) := fun a0 a1 a2 a3 a4 a5 a6 a7 a8 a10 => by
    rw [List.map_map]
    refine lc_mapf fun t _ => ?_
    have i0 : idxD (mtD true t) (.int 0) = some (.str t.1) := rfl
    have i2 : idxD (mtD true t) (.int 2) = some (.str t.2.2.1) := rfl
    have c1 : cutD (mtD true t) (some 2) none = .val (.tup [.str t.2.2.1, .int t.2.2.2]) := by rw [mtT, cutD_tup]; rfl
    have c2 : cutD (mtD true t) none (some 2) = .val (.tup [.str t.1, .int t.2.1]) := by rw [mtT, cutD_tup]; rfl
    have ad : addD (.tup [.str t.2.2.1, .int t.2.2.2]) (.tup [.str t.1, .int t.2.1]) = .val (mtD true (t.2.2.1, t.2.2.2, t.1, t.2.1)) := by
      have hl4 : ([D.str t.2.2.1, .int t.2.2.2]).length + ([D.str t.1, .int t.2.1]).length ≤ big := show 2 + 2 ≤ big by decide
      rw [addD_tup hl4]; rfl
    simp only [Function.comp_apply, inOrd]
    generalize hq : mtD true t = td at *
    cases e : ltT t.1 t.2.2.1 with
    | true => simp [lcT, f539_e1, i0, i2, e, hq]
    | false =>
      simp [lcT, f539_e1, i0, i2, e, c1, c2, ad]
  have s1 := srt_rg (l := rs) (by omega)
  have s2 := srt_mt (l := ms.map inOrd) (by simp; omega)
  have hml' : (ms.map inOrd).length ≤ big := by simp; omega
  have hrl' : (rs.map (rgD true)).length ≤ big := by simp; omega
  have zs : ∀ r ∈ sortR rs, RSz (lawR r) ∧ 1 ≤ r.2.1 := fun r h => by
    have := (sortR_perm rs).mem_iff.mp h
    exact ⟨zr r this, hr.len r this⟩
  have l1 := tx_loop (pg := pg) (fuel := fuel) (m := m) (A := .lst (rs.map (rgD false))) (B := .lst (ms.map (mtD true))) (sortR rs) [] zs (by rw [sortR_len]; simp only [List.length_nil]; omega)
  have l2 := tm_loop (pg := pg) (fuel := fuel) (m := m) (A := .lst (rs.map (rgD false))) (B := .lst (ms.map (mtD true))) (sortM (ms.map inOrd)) ([] ++ (sortR rs).map fun r => .str (ringLine (lawR r))) zm (by simp [sortM_len, sortR_len]; omega)
  have hrk : (mkWeb rs ms).rings = (sortR rs).map kept := (sortR_kept hr.nd).symm
  have hlines : ([] ++ (sortR rs).map fun r => D.str (ringLine (lawR r))) ++ (sortM (ms.map inOrd)).map (fun t => D.str (mtLine t)) = (linesOf ((mkWeb rs ms).rings.map passed) (mkWeb rs ms).joints).map D.str := by
    unfold linesOf
    rw [hrk, List.map_append, List.map_map, List.map_map, List.map_map, List.map_map]
    rfl
  rw [hlines] at l2
  have zr2 : ∀ r ∈ (mkWeb rs ms).rings.map passed, RSz r := fun r h => by
    rw [hrk, List.map_map] at h
    obtain ⟨q, hq, rfl⟩ := List.mem_map.mp h
    exact (zs q hq).1
  have hlen : (linesOf ((mkWeb rs ms).rings.map passed) (mkWeb rs ms).joints).length ≤ 1012 := by
    have e : (mkWeb rs ms).joints.length = ms.length := by rw [show (mkWeb rs ms).joints = sortM _ from rfl, sortM_len, List.length_map]
    unfold linesOf
    rw [List.length_append, List.length_map, List.length_map, List.length_map, hrk, List.length_map, sortR_len, e]
    omega
  have hjoin := pr_join (xs := linesOf ((mkWeb rs ms).rings.map passed) (mkWeb rs ms).joints) (s := [10]) (by
    have := sum_le (l := (linesOf ((mkWeb rs ms).rings.map passed) (mkWeb rs ms).joints).map List.length) (k := 104) (fun n hn => by
      obtain ⟨l, hl, rfl⟩ := List.mem_map.mp hn
      exact linesOf_le zr2 zm l hl)
    rw [List.length_map] at this
    simp only [List.length_cons, List.length_nil]
    omega)
  unfold textOf
  generalize (linesOf ((mkWeb rs ms).rings.map passed) (mkWeb rs ms).joints) = lines at *
  generalize ((sortR rs).map fun r => D.str (ringLine (lawR r))) = rl at *
  generalize ms.map inOrd = mo at *
  generalize ms.map (mtD true) = msd at *
  generalize rs.map (rgD false) = rsd at *
  generalize rs.map (rgD true) = rst at *
  simp only [List.nil_append] at l1 l2
  rw [call_eq h, runFn_eq]
  simp [f539, f539_0, f539_3, d1, unblk, s1, l1, hrl']
  simp [f539_5, d2, unblk, s2, l2, hml']
  simp [f539_6, hjoin]
/-! ### the law -/
structure LawP (pg : Pg) : Prop extends NotP pg where
  q0 : pg.fns.lookup 400 = some f400
  q1 : pg.fns.lookup 401 = some (f401 160481191 48271)
  q2 : pg.fns.lookup 402 = some (f402 160481191 69621)
  q3 : pg.fns.lookup 403 = some f403
  q4 : pg.fns.lookup 404 = some f404
  p539 : pg.fns.lookup 539 = some f539
  p540 : pg.fns.lookup 540 = some f540
/-- a web's own spots -/
def spotsN (w : Wb) : Int := (w.rings.map fun r => r.2.1).sum - w.joints.length
theorem lens_some {w : Wb} (h : WbOk w) {r : Ring} (hr : r ∈ w.rings) : (lenOf w.lens r.1).isSome = true := by
  have nd : (w.rings.map (·.1)).Nodup := by
    have := h.rs.nd
    rw [List.map_map] at this
    exact this
  rw [h.lens, lenOf_mem nd hr]
  rfl
theorem steps_some {w : Wb} (h : WbOk w) {r : Ring} (hr : r ∈ w.rings) : lenOf (stepsOf w.rings) r.1 = some r.2.2 := by
  have nd : (w.rings.map (·.1)).Nodup := by
    have := h.rs.nd
    rw [List.map_map] at this
    exact this
  have e : stepsOf w.rings = lensOf (w.rings.map fun r => (r.1, r.2.2, r.2.1)) := by unfold stepsOf lensOf; rw [List.map_map]; rfl
  rw [e]
  exact lenOf_mem (rs := w.rings.map fun r => ((r.1, r.2.2, r.2.1) : Ring)) (by rw [List.map_map]; exact nd) (r := (r.1, r.2.2, r.2.1)) (List.mem_map.mpr ⟨r, hr, rfl⟩)
theorem again_web {w : Wb} (h : WbOk w) : WbOk ⟨w.rings, w.joints, lensOf (w.rings.map passed)⟩ := by
  refine ⟨h.rs, h.stp, h.srt, h.ms, h.ord, h.srtM, fun x => ?_⟩
  show lenOf (lensOf (w.rings.map passed)) x = _
  congr 1
  unfold lensOf
  rw [List.map_map]
  rfl
abbrev lwBody : List S := [f540_10, f540_11, f540_13, f540_15]
theorem lw_turn (W : LawP pg) {w : Wb} (h : WbOk w) (z : WbSz w) {k : Int} {s0 s1 s2 s3 s4 s5 s6 : Sl} (hs : isOV s6 (webD w)) :
    turn (tbl pg fuel (m + 6)) fuel [] (.one 8) lwBody [8, 9] (.int k) [s0, s1, s2, s3, s4, s5, s6, .val (.str (textOf (w.rings.map passed) w.joints)), .no, .no, .no] =
      .next [s0, s1, s2, s3, s4, s5, .val (webD w), .val (.str (textOf (w.rings.map passed) w.joints)), .no, .no, .no] := by
  have hmost : w.rings.length ≤ 12 := by have := h.rs.most; rwa [List.length_map] at this
  have hb : 1012 ≤ big := by decide
  have k1 := c_format (fuel := fuel) (m := m + 4) (w := w) W.toNotP (fun r q => (h.rsz z r q).1) (h.msz z) hmost z.j
  obtain ⟨os, k2⟩ := c_parse (fuel := fuel) (m := m + 1) W.toNotP h z
  have hv := again_web h
  generalize hve : (⟨w.rings, w.joints, lensOf (w.rings.map passed)⟩ : Wb) = v at *
  have er : v.rings = w.rings := by rw [← hve]
  have ej : v.joints = w.joints := by rw [← hve]
  have k3 := c_web_eq (fuel := fuel) (m := m + 5) (w := v) (v := w) W.toWebM
  rw [er, ej] at k3
  simp only [decide_true, Bool.and_self] at k3
  have iv : isiS (tbl pg fuel (m + 6)) 100 (webD v) = .val (.bl true) := by simp [webD, W.init]
  have eqw : eqS (tbl pg fuel (m + 6)) false (webD v) (webD w) = .val (.bl true) := by
    simp only [webD] at k3
    simp [webD, W.eqm, k3]
  have mm : ∀ u : Wb, methF (tbl pg fuel (m + 6)) 28 (webD u) = some 12 := fun u => by simp [webD, W.mMeet]
  have mn : ∀ u : Wb, methF (tbl pg fuel (m + 6)) 22 (webD u) = some 8 := fun u => by simp [webD, W.mNames]
  have mst : ∀ u : Wb, methF (tbl pg fuel (m + 6)) 27 (webD u) = some 11 := fun u => by simp [webD, W.mStep]
  have k4 : ∀ u : Wb, callN pg fuel (m + 6) 12 [.val (webD u)] = .ok (.own (.lst (u.joints.map (mtD true))), [.val (webD u)]) := fun u => c_meetings (fuel := fuel) (m := m + 5) W.toWebM
  have k5 : ∀ u : Wb, u.rings = w.rings → callN pg fuel (m + 6) 8 [.val (webD u)] = .ok (.own (.lst (w.rings.map fun r => .str r.1)), [.val (webD u)]) := fun u e => by
    rw [← e]
    exact c_names (fuel := fuel) (m := m + 5) W.toWebM (by rw [e]; omega)
  have k5w := k5 w rfl
  have k5v := k5 v er
  have st : ∀ u : Wb, WbOk u → u.rings = w.rings → ∀ r ∈ w.rings, callN pg fuel (m + 6) 11 [.val (webD u), .val (.str r.1)] = .ok (.val (.int r.2.2), [.val (webD u), .val (.str r.1)]) := fun u hu e r hr => by
    rw [← e] at hr
    exact c_step (fuel := fuel) (m := m + 4) W.toWebM (lens_some hu hr) (steps_some hu hr)
  have d1 : ∀ a0 a1 a2 a3 a4 a5 a6 a7 a8 : Sl, lcGo (lcT (tbl pg fuel (m + 6)) (.one 10) [] f540_e0 [10]) (w.rings.map fun r => .str r.1) [a0, a1, a2, a3, a4, a5, a6, a7, a8, .val (webD v), .no] = .ok (w.rings.map fun r => .int r.2.2, [a0, a1, a2, a3, a4, a5, a6, a7, a8, .val (webD v), .no]) := fun a0 a1 a2 a3 a4 a5 a6 a7 a8 => lc_mapf fun r hr => by
    simp [lcT, f540_e0, mst, st v hv er r hr]
  have d2 : ∀ a0 a1 a2 a3 a4 a5 a7 a8 a9 : Sl, lcGo (lcT (tbl pg fuel (m + 6)) (.one 10) [] f540_e1 [10]) (w.rings.map fun r => .str r.1) [a0, a1, a2, a3, a4, a5, .val (webD w), a7, a8, a9, .no] = .ok (w.rings.map fun r => .int r.2.2, [a0, a1, a2, a3, a4, a5, .val (webD w), a7, a8, a9, .no]) := fun a0 a1 a2 a3 a4 a5 a7 a8 a9 => lc_mapf fun r hr => by
    simp [lcT, f540_e1, mst, st w h rfl r hr]
  have n1 : pr .ne [.lst (w.joints.map (mtD true)), .lst (w.joints.map (mtD true))] = .val (.bl false) := by
    rw [pr_ne (by rw [okD_lst]; exact encM.okL (by omega) _) (by rw [okD_lst]; exact encM.okL (by omega) _), eqD_lst, eqDs_enc encM]
    simp
  have n2 : pr .ne [.lst (w.rings.map fun r => .int r.2.2), .lst (w.rings.map fun r => .int r.2.2)] = .val (.bl false) := by
    have e : (w.rings.map fun r => D.int r.2.2) = (w.rings.map fun r => r.2.2).map D.int := by rw [List.map_map]; rfl
    rw [e, pr_ne (by rw [okD_lst]; exact encI.okL (by omega) _) (by rw [okD_lst]; exact encI.okL (by omega) _), eqD_lst, eqDs_enc encI]
    simp
  have l1 : (w.rings.map fun r => D.int r.2.2).length ≤ big := by simp; omega
  have k4w := k4 w
  have k4v := k4 v
  rw [ej] at k4v
  have mmw := mm w
  have mmv := mm v
  have mnw := mn w
  have mnv := mn v
  generalize (w.rings.map fun r => D.int r.2.2) = stl at *
  generalize (w.rings.map fun r => D.str r.1) = nml at *
  generalize w.joints.map (mtD true) = js at *
  generalize textOf (w.rings.map passed) w.joints = tx at *
  generalize webD v = vd at *
  generalize webD w = wd at *
  have nt : pr .ne [.str tx, .str tx] = .val (.bl false) := by rw [pr_ne (by simp) (by simp)]; simp
  rcases hs with rfl | rfl
  · simp [turn_eq, f540_10, k1, nt, f540_11, k2]
    simp [f540_13, iv, eqw, mmw, mmv, k4v, k4w, n1]
    simp [f540_15, mnv, mnw, k5v, k5w, d1, d2, unblk, l1, n2]
  · simp [turn_eq, f540_10, k1, nt, f540_11, k2]
    simp [f540_13, iv, eqw, mmw, mmv, k4v, k4w, n1]
    simp [f540_15, mnv, mnw, k5v, k5w, d1, d2, unblk, l1, n2]
/-- what the law's own rings are -/
structure LawRs (rs : List Ring) : Prop where
  ok : RsOk rs
  len : ∀ r ∈ rs, r.2.1 < 10 ^ 32
theorem LawRs.rin {rs : List Ring} (h : LawRs rs) : RsIn rs := ⟨h.ok.nd, h.ok.pos, h.ok.most, fun r hr => ⟨h.ok.len r hr, Int.lt_trans (h.len r hr) (by decide)⟩⟩
theorem LawRs.rsz {rs : List Ring} (h : LawRs rs) : ∀ r ∈ rs, RSz (lawR r) := fun r hr => by
  have h1 := h.ok.len r hr
  have h2 := h.len r hr
  have z0 := Int.emod_nonneg r.2.2 (b := r.2.1) (by omega)
  have z1 := Int.emod_lt_of_pos r.2.2 (b := r.2.1) (by omega)
  have hs : Sz r.2.1 := ⟨by omega, Int.lt_trans h2 (by decide)⟩
  refine ⟨h.ok.nm r hr, hs, ?_⟩
  show Sz (if r.2.2 % r.2.1 = 0 then r.2.1 else r.2.2 % r.2.1)
  split
  · exact hs
  · exact ⟨z0, by have := hs.2; omega⟩
theorem LawRs.wsz {rs : List Ring} {ms : List Mtg} (h : LawRs rs) (hm : MsOk (lensOf rs) ms) (hl : ms.length ≤ 1000) : WbSz (mkWeb rs ms) := by
  have jl : (mkWeb rs ms).joints.length = ms.length := by rw [show (mkWeb rs ms).joints = sortM _ from rfl, sortM_len, List.length_map]
  have hj : MsOk (lensOf rs) (mkWeb rs ms).joints := hm.ord.perm (sortM_perm _)
  have pl : ∀ {x : Tx} {i : Int}, isPl (lensOf rs) x i = true → Sz i := fun {x i} p => by
    unfold isPl at p
    cases e : lenOf (lensOf rs) x with
    | none => rw [e] at p; cases p
    | some n =>
      rw [e] at p
      simp only [Bool.and_eq_true, decide_eq_true_eq] at p
      unfold lenOf at e
      obtain ⟨a, ea, rfl⟩ := Option.map_eq_some_iff.mp e
      have hm2 := List.mem_of_find?_eq_some ea
      obtain ⟨r, hr, rfl⟩ := List.mem_map.mp hm2
      exact ⟨p.1, Int.lt_trans (Int.lt_trans p.2 (h.len r hr)) (by decide)⟩
  refine ⟨fun r hr => ?_, fun t ht => ⟨pl (hj.one t ht).a, pl (hj.one t ht).b⟩, by omega⟩
  have pm : (mkWeb rs ms).rings.Perm (rs.map kept) := sortR_perm _
  obtain ⟨q, hq, rfl⟩ := List.mem_map.mp (pm.mem_iff.mp hr)
  have h1 := h.ok.len q hq
  have h2 := h.len q hq
  have z0 := Int.emod_nonneg q.2.2 (b := q.2.1) (by omega)
  have z1 := Int.emod_lt_of_pos q.2.2 (b := q.2.1) (by omega)
  have hs : Sz q.2.1 := ⟨by omega, Int.lt_trans h2 (by decide)⟩
  exact ⟨hs, z0, Int.lt_trans z1 hs.2⟩
theorem law_rest (W : LawP pg) {rs : List Ring} {ms : List Mtg} (h : LawRs rs) (hm : MsOk (lensOf rs) ms) (hl : ms.length ≤ 1000) {s0 s1 s3 s4 : Sl} :
    ∃ ρ', runs (tbl pg fuel (m + 6)) fuel [] [f540_7, f540_8, f540_16, f540_17] [s0, s1, .val (.lst (rs.map (rgD false))), s3, s4, .own (.lst (ms.map (mtD true))), .no, .no, .no, .no, .no] = .ret (.val (.bl true)) ρ' := by
  have hw := mkWeb_ok h.ok hm
  have hz := h.wsz hm hl
  obtain ⟨os1, e1⟩ := c_web_init (fuel := fuel) (m := m + 3) W.toWebP false true rs ms h.ok hm (by unfold big; omega)
  obtain ⟨os2, e2⟩ := c_text (fuel := fuel) (m := m + 5) W.p539 h.ok hm h.rsz (hw.msz hz) hl
  have t1 := fun k s0 s1 s2 s3 s4 s5 => lw_turn (fuel := fuel) (m := m) (k := k) (s0 := s0) (s1 := s1) (s2 := s2) (s3 := s3) (s4 := s4) (s5 := s5) W hw hz (.inl rfl)
  have t2 := fun k s0 s1 s2 s3 s4 s5 => lw_turn (fuel := fuel) (m := m) (k := k) (s0 := s0) (s1 := s1) (s2 := s2) (s3 := s3) (s4 := s4) (s5 := s5) W hw hz (.inr rfl)
  obtain ⟨os, k2⟩ := c_parse (fuel := fuel) (m := m + 1) W.toNotP hw hz
  have hmost : (mkWeb rs ms).rings.length ≤ 12 := by have := hw.rs.most; rwa [List.length_map] at this
  have hj := hz.j
  have sp : ∀ u : Wb, u.rings = (mkWeb rs ms).rings → u.joints = (mkWeb rs ms).joints → attrS (tbl pg fuel (m + 6)) 29 (webD u) = .val (.int (spotsN (mkWeb rs ms))) := fun u er ej => by
    have k := c_spots (fuel := fuel) (m := m + 5) (w := u) W.toWebM (by rw [er]; unfold big; omega) (by rw [ej]; unfold big; omega)
    rw [er, ej] at k
    simp only [webD] at k ⊢
    rw [er, ej] at k ⊢
    simp only [attrS_obj]
    simp [W.pSpots, k, spotsN]
  have sp1 := sp (mkWeb rs ms) rfl rfl
  have sp2 := sp ⟨(mkWeb rs ms).rings, (mkWeb rs ms).joints, lensOf ((mkWeb rs ms).rings.map passed)⟩ rfl rfl
  generalize webD ⟨(mkWeb rs ms).rings, (mkWeb rs ms).joints, lensOf ((mkWeb rs ms).rings.map passed)⟩ = vd at *
  generalize textOf ((mkWeb rs ms).rings.map passed) (mkWeb rs ms).joints = tx at *
  generalize webD (mkWeb rs ms) = wd at *
  generalize rs.map (rgD false) = rsd at *
  generalize ms.map (mtD true) = msd at *
  simp [f540_7, W.init, e1, f540_8, e2]
  have hr2 : iterD .rng1 [.int 2] = some [.int 0, .int 1] := rfl
  simp [f540_16, hr2, forN_next (t1 _ _ _ _ _ _ _), forN_next (t2 _ _ _ _ _ _ _)]
  simp [f540_17, k2, sp1, sp2, pr_eq]
theorem far_ok {first : Nat} {r : Ring} {rs : List Ring} (h : Drawn first 6 9 (r :: rs)) {a b : Int} (ha : 0 ≤ a) (ha2 : a < 10 ^ 31) (hb : 1 ≤ b) : LawRs ((r.1, 9 + a, b) :: rs) := by
  have o := h.ok (by decide)
  refine ⟨⟨fun q hq => ?_, o.nd, fun q hq => ?_, fun q hq => ?_, o.pos, o.most⟩, fun q hq => ?_⟩
  · rcases List.mem_cons.mp hq with z | z
    · rw [z]; exact o.nm r (by simp)
    · exact o.nm q (List.mem_cons_of_mem _ z)
  · rcases List.mem_cons.mp hq with z | z
    · rw [z]; show 1 ≤ 9 + a; omega
    · exact o.len q (List.mem_cons_of_mem _ z)
  · rcases List.mem_cons.mp hq with z | z
    · rw [z]; exact hb
    · exact o.stp q (List.mem_cons_of_mem _ z)
  · rcases List.mem_cons.mp hq with z | z
    · rw [z]; show 9 + a < 10 ^ 32; omega
    · have := (h.len q (List.mem_cons_of_mem _ z)).2
      omega
theorem law_ok (W : LawP pg) (ns : List Int) (hn : ns.length ≤ 63) : ∃ os, callN pg fuel (m + 7) 540 [.val (.lst (ns.map .int))] = .ok (.val (.bl true), os) := by
  have cl := fun k => c_cell (fuel := fuel) (m := m + 5) W.q0 ns hn k
  have c0 := cl 0
  have c1 := cl 1
  have c2 := cl 2
  have c3 := cl 3
  simp only [Int.cast_ofNat_Int] at c0 c1 c2 c3
  obtain ⟨s1, f1', os1, o1, e1⟩ := c_source (fuel := fuel) (m := m + 5) W.q1 (by decide) (cellOf ns 0)
  obtain ⟨s2, first, rs, o2, hd, e2⟩ := c_rings (fuel := fuel) (m := m + 4) W.q2 W.q3 (by decide) o1 (most := 6) (by decide) (by decide) (longest := 9) (by decide) (by decide)
  simp only [Int.cast_ofNat_Int] at e2
  obtain ⟨v3, s3, a3, b3, o3, e3⟩ := c_draw (fuel := fuel) (m := m + 5) W.q2 (by decide) o2 (lim := 3) (by decide) (small9000 (by decide))
  obtain ⟨s4, f4', os4, o4, e4⟩ := c_source (fuel := fuel) (m := m + 5) W.q1 (by decide) (cellOf ns 1)
  obtain ⟨v5, s5, a5, b5, o5, e5⟩ := c_draw (fuel := fuel) (m := m + 5) W.q2 (by decide) o4 (lim := 9) (by decide) (small9000 (by decide))
  obtain ⟨P, hP⟩ : ∃ P : Int, P = 10 ^ 31 := ⟨_, rfl⟩
  have hP0 : 0 < P := by rw [hP]; decide
  have p31 : pr .pow [.int 10, .int 31] = .val (.int P) := by rw [hP]; exact pow10 (k := 31) (by decide)
  have m31 : ∀ n : Int, pr .mod [.int n, .int P] = .val (.int (n % P)) := fun n => pr_mod hP0
  have z0 := Int.emod_nonneg (cellOf ns 2) (b := P) (by omega)
  have z1 := Int.emod_lt_of_pos (cellOf ns 2) hP0
  have z2 := Int.emod_nonneg (cellOf ns 3) (b := P) (by omega)
  obtain ⟨r0, rt, er⟩ : ∃ r t, rs = r :: t := by
    cases rs with
    | nil => exact absurd hd.pos (by simp)
    | cons r t => exact ⟨r, t, rfl⟩
  have fin : ∀ rs : List Ring, LawRs rs → ∃ s6 ms, (∃ ρ', ∀ s0 s1 s3 : Sl, True) ∧ MsOk (lensOf rs) ms ∧ ms.length ≤ 1000 ∧ callN pg fuel (m + 6) 404 [.own (srcD s5 f4'), .val (.lst (rs.map (rgD false))), .val (.int v5)] = .ok (.own (.lst (ms.map (mtD true))), [.own (srcD s6 f4'), .val (.lst (rs.map (rgD false))), .val (.int v5)]) := fun rs h => by
    obtain ⟨s6, ms, o6, hm, hl, e6⟩ := c_mts (fuel := fuel) (m := m + 4) W.q2 W.q4 (by decide) o5 h.rin a5 (by omega)
    exact ⟨s6, ms, ⟨(), fun _ _ _ => trivial⟩, hm, by omega, e6⟩
  generalize hfar : (cellOf ns 2 % P) = far at *
  rw [call_eq W.p540, runFn_eq]
  by_cases c : v3 = 0
  · have hrs := far_ok (er ▸ hd) (a := far) (b := 1 + cellOf ns 3 % P) z0 (hP ▸ z1) (by omega)
    obtain ⟨s6, ms, _, hm, hl, e6⟩ := fin _ hrs
    have rest := fun s0 s1 s3 s4 => law_rest (fuel := fuel) (m := m) (s0 := s0) (s1 := s1) (s3 := s3) (s4 := s4) W hrs hm hl
    have put0 : putD (.lst (rs.map (rgD false))) (.int 0) (.lst [.str r0.1, .int (9 + far), .int (1 + cellOf ns 3 % P)]) = some (.lst (((r0.1, 9 + far, 1 + cellOf ns 3 % P) :: rt).map (rgD false))) := by
      rw [er]
      simp [putD, ixN, rgD]
    have i0 : idxD (.lst (rs.map (rgD false))) (.int 0) = some (rgD false r0) := by rw [er, idxD_lst, List.map_cons, atI_0]
    have i1 : idxD (rgD false r0) (.int 0) = some (.str r0.1) := rfl
    generalize ((r0.1, 9 + far, 1 + cellOf ns 3 % P) :: rt).map (rgD false) = rs2 at *
    generalize rs.map (rgD false) = rsd at *
    subst c
    simp [f540, f540_0, c0, e1, f540_1, e2, f540_2, c2, p31, m31, hfar]
    simp [f540_4, e3, pr_eq, f540_3, i0, i1, c3, p31, m31, put0]
    simp [f540_5, c1, e4, f540_6, e5, e6]
    obtain ⟨ρ', e7⟩ := rest (.val (.lst (ns.map .int))) (.own (srcD s3 f1')) (.val (.int far)) (.own (srcD s6 f4'))
    rw [runs_cons] at e7
    rw [e7]
    simp
  · have hrs : LawRs rs := ⟨hd.ok (by decide), fun r hr => by have := (hd.len r hr).2; omega⟩
    obtain ⟨s6, ms, _, hm, hl, e6⟩ := fin _ hrs
    have rest := fun s0 s1 s3 s4 => law_rest (fuel := fuel) (m := m) (s0 := s0) (s1 := s1) (s3 := s3) (s4 := s4) W hrs hm hl
    generalize rs.map (rgD false) = rsd at *
    have c' : (v3 == 0) = false := by simpa using c
    simp [f540, f540_0, c0, e1, f540_1, e2, f540_2, c2, p31, m31, hfar]
    simp [f540_4, e3, pr_eq, c']
    simp [f540_5, c1, e4, f540_6, e5, e6]
    obtain ⟨ρ', e7⟩ := rest (.val (.lst (ns.map .int))) (.own (srcD s3 f1')) (.val (.int far)) (.own (srcD s6 f4'))
    rw [runs_cons] at e7
    rw [e7]
    simp
theorem lawP : LawP (lay.pg fns) where
  p0 := rfl
  p1 := rfl
  p2 := rfl
  p3 := rfl
  p4 := rfl
  init := rfl
  fld := fun f h => by rcases h with rfl | rfl | rfl | rfl | rfl <;> rfl
  p5 := rfl
  p8 := rfl
  p9 := rfl
  p11 := rfl
  p12 := rfl
  p13 := rfl
  p21 := rfl
  eqm := rfl
  mCheck := rfl
  mPass := rfl
  mNames := rfl
  mStep := rfl
  mMeet := rfl
  pSpots := rfl
  p27 := rfl
  p28 := rfl
  p29 := rfl
  p30 := rfl
  p31 := rfl
  p32 := rfl
  q0 := rfl
  q1 := rfl
  q2 := rfl
  q3 := rfl
  q4 := rfl
  p539 := rfl
  p540 := rfl
end
end Mr.K15

theorem Mr.K15.hm (ns : List Int) (h : ns.length ≤ 63) : ∃ os, Mr.callN (Mr.K15.lay.pg Mr.K15.fns) 100 (6 + 1) 540 [.val (.lst (ns.map .int))] = .ok (.val (.bl true), os) := Mr.K15.law_ok (m := 0) Mr.K15.lawP ns h
open PySem PySem.W PySem.Calls PyProof.Rows
theorem PySem.Challenge.cw_meetrings_k15_texts_there_and_back_holds : PySem.Challenge.rw_meetrings_k15_texts_there_and_back.Holds := by
  w_on; o_law
  refine HandSHeadRun.head_any (r := OpenLaw.row PySem.Challenge.rw_meetrings_k15_texts_there_and_back) (q := view (OpenLaw.row PySem.Challenge.rw_meetrings_k15_texts_there_and_back).prog [34]) (H := Mr.K15.hk) (ob := Mr.K15.ob) (M := 9000) (loose := Mr.K15.loose)
    (d := HandSHeadRun.topDef (OpenLaw.row PySem.Challenge.rw_meetrings_k15_texts_there_and_back).prog 34) (kwd := []) Mr.K15.ob_eq
    (by kernel_rfl) (fun s => by kernel_rfl) Mr.K15.run (by kernel_rfl) (by kernel_rfl) (by kernel_rfl) (by rfl) (by first | assumption | decide +kernel) (by decide +kernel) ⟨rfl, rfl, rfl, rfl, rfl, by decide +kernel⟩ ?hw ?hc
  case hw => w_witness2
  case hc => exact Mr.law_walk (l := PySem.Challenge.rw_meetrings_k15_texts_there_and_back) (x := Mr.K15.xs) (li := 540) (nn := 6) (n := 6) (fuel := 100) (Fl := Mr.K15.f540) rfl (by kernel_rfl) ⟨rfl, by decide, by decide⟩ (by kernel_rfl) (by rfl) (by rfl) Mr.K15.hm
#print axioms PySem.Challenge.cw_meetrings_k15_texts_there_and_back_holds

