import PyProof.Rows.All
import Wide.All
import OpenK.AllK
import Wide.FinOn
import HandS.ForMost
import HandS.Deep
import HandS.TupAny
import HandS.Conv
import HandS.SortInts
import HandS.WideBits
import HandS.Wide
import HandS.Style
import HandS.NoneIn
import HandS.TupMul
import PyProof.StrBlock2
import KE.KTupSum
import PyProof.Rows.SortShellAny
import HandS.More
import HandS.Flt
import HandS.SetFor
import KE.DataMinMax
import KE.SortData
import HandS.IsInst
import HandS.Text
import KE.KDictWalk
import HandS.ReplaceLit
import HandS.ReplaceList
import HandS.Words
import HandS.EndBits
import PySem.Challenge.RW_creasehold_k60_best_places_for_a_stroke
set_option Elab.async false
set_option linter.all false

/-! A small interpreter for the part of Python that the program and its laws use. -/
namespace Ir

/-- values, as trees -/
inductive T where
  | non | bl (b : Bool) | int (i : Int) | str (s : List Nat)
  | tup (xs : List T) | lst (xs : List T) | dct (tk : Bool) (ks : List T) (vs : List T) | set (xs : List T)
  deriving Inhabited

/-- what a name holds: nothing that is known; a thing that stays; a list of one's own; a list lent by the caller; one's own, walked just now -/
inductive Sl where
  | no | fr (t : T) | ow (t : T) | rw (t : T) | lk (t : T)
  deriving Inhabited
/-- what an expression gives: a thing that stays, or a new list -/
inductive Vl where
  | fr (t : T) | ow (t : T)
  deriving Inhabited
def Vl.t : Vl → T
  | .fr t => t
  | .ow t => t
def Vl.sl : Vl → Sl
  | .fr t => .fr t
  | .ow t => .ow t

abbrev Loc := List Sl
abbrev M (α : Type) := Loc → Option (α × Loc)
def ret {α : Type} (a : α) : M α := fun l => some (a, l)
def bind {α β : Type} (m : M α) (f : α → M β) : M β := fun l => match m l with
  | some (a, l') => f a l'
  | none => none
def lift {α : Type} (o : Option α) : M α := fun l => match o with
  | some a => some (a, l)
  | none => none

def sizeMax : Nat := 16777216

/-! ### data -/
mutual
/-- no list, dict or set within -/
def T.pure : T → Bool
  | .non => true
  | .bl _ => true
  | .int _ => true
  | .str _ => true
  | .tup xs => pures xs
  | .lst _ => false
  | .dct _ _ _ => false
  | .set _ => false
def pures : List T → Bool
  | [] => true
  | x :: xs => x.pure && pures xs
end
mutual
/-- may be compared by ==, and is no deeper than n -/
def T.shp : Nat → T → Bool
  | _, .non => true
  | _, .bl _ => true
  | _, .int _ => true
  | _, .str s => s.all fun c => decide (c < 0x110000)
  | 0, .tup _ => false
  | n + 1, .tup xs => shps n xs
  | 0, .lst _ => false
  | n + 1, .lst xs => shps n xs
  | _, .dct _ _ _ => false
  | _, .set _ => false
def shps : Nat → List T → Bool
  | _, [] => true
  | n, x :: xs => x.shp n && shps n xs
end
mutual
/-- == -/
def eqv : T → T → Bool
  | .non, .non => true
  | .bl a, .bl b => a == b
  | .bl a, .int j => (if a then 1 else 0) == j
  | .int i, .bl b => i == (if b then 1 else 0)
  | .int i, .int j => i == j
  | .str x, .str y => x == y
  | .lst xs, .lst ys => eqvs xs ys
  | .tup xs, .tup ys => eqvs xs ys
  | _, _ => false
def eqvs : List T → List T → Bool
  | [], [] => true
  | x :: xs, y :: ys => eqv x y && eqvs xs ys
  | _, _ => false
end
/-- the depth to which data are compared -/
def deep : Nat := 40
def T.flat : T → Bool
  | .non => true
  | .bl _ => true
  | .int _ => true
  | .str _ => true
  | _ => false
/-- may be compared -/
def eqOk (a b : T) : Bool := (a.shp deep && b.shp deep) || (a.flat && b.flat)
def inOk (x : T) (ys : List T) : Bool := (x.shp deep && shps deep ys) || (x.flat && ys.all T.flat)

/-- a place told by an index that may be negative -/
def ixN (n : Nat) (i : Int) : Option Nat :=
  if 0 ≤ i then (if i < n then some i.toNat else none) else if 0 ≤ i + n then some (i + n).toNat else none
def atI {α : Type} (xs : List α) (i : Int) : Option α := (ixN xs.length i).bind fun j => xs[j]?
/-- a bound of a slice -/
def cl (n : Nat) (i : Int) : Nat := if i < 0 then (i + n).toNat else min i.toNat n
def clO (n : Nat) (d : Nat) : Option Int → Nat
  | none => d
  | some i => cl n i
def cut {α : Type} (xs : List α) (lo hi : Option Int) : List α :=
  (xs.drop (clO xs.length 0 lo)).take (clO xs.length xs.length hi - clO xs.length 0 lo)
/-- every second one, from the first -/
def ev2 {α : Type} : List α → List α
  | [] => []
  | [x] => [x]
  | x :: _ :: r => x :: ev2 r

def small (i : Int) : Bool := decide (-(2 ^ 62) ≤ i ∧ i < 2 ^ 62)
def mulOk (a b : Int) : Bool :=
  decide (-(2 ^ 64) < a ∧ a < 2 ^ 64) || decide (-(2 ^ 64) < b ∧ b < 2 ^ 64) || decide (a.natAbs.log2 + b.natAbs.log2 ≤ 2 ^ 26)

def T.ints : List T → Option (List Int)
  | [] => some []
  | .int i :: r => match T.ints r with
    | some is => some (i :: is)
    | none => none
  | _ :: _ => none
def T.bls : List T → Option (List Bool)
  | [] => some []
  | .bl i :: r => match T.bls r with
    | some is => some (i :: is)
    | none => none
  | _ :: _ => none
def T.strs : List T → Option (List (List Nat))
  | [] => some []
  | .str i :: r => match T.strs r with
    | some is => some (i :: is)
    | none => none
  | _ :: _ => none

/-- the items of a list or a tuple -/
def T.items : T → Option (List T)
  | .lst xs => some xs
  | .tup xs => some xs
  | _ => none

/-- the primitive operations, over what is read -/
inductive Pr where
  | add | sub | mul | fdv | mod | pow | neg
  | eq | ne | lt | le | gt | ge | inn | nin | isN | notN
  | len | abs | int | tuple | list | sum | min1 | max1 | min2 | max2 | all | any
  | idx | sl (lo hi : Bool) | rev | ev | od | isB | isI | isS | isT
  | join | index | sorted | lrng1 | lrng2 | count | replace | lrng3 | trng1 | trng2 | trng3 | min3 | sset | lset | shl | shr | band | bor
  deriving DecidableEq, Inhabited

def leI (a b : Int) : Bool := decide (a ≤ b)
def leS : List Nat → List Nat → Bool
  | [], _ => true
  | _ :: _, [] => false
  | a :: r, b :: t => decide (a < b) || (a == b && leS r t)
def bool (b : Bool) : Option Vl := some (.fr (.bl b))
def isBl : T → Bool
  | .bl _ => true
  | _ => false
def isIn : T → Bool
  | .bl _ => true
  | .int _ => true
  | _ => false
def isSt : T → Bool
  | .str _ => true
  | _ => false
def isTu : T → Bool
  | .tup _ => true
  | _ => false
def isLst : T → Bool
  | .lst _ => true
  | _ => false
def isDc : T → Bool
  | .dct _ _ _ => true
  | _ => false
def isNon : T → Bool
  | .non => true
  | _ => false
def joinS (sep : List Nat) : List (List Nat) → List Nat
  | [] => []
  | [x] => x
  | x :: y :: r => x ++ sep ++ joinS sep (y :: r)
def rangeL (a b : Int) : List Int := (List.range (b - a).toNat).map fun (i : Nat) => a + (i : Int)
/-- a range by a step: -1 or 2 -/
def rangeS (a b c : Int) : List Int :=
  if c = -1 then (List.range (a - b).toNat).map fun (i : Nat) => a + (i : Int) * (-1)
  else (List.range ((b - a + 1) / 2).toNat).map fun (i : Nat) => a + (i : Int) * 2
def minL : List Int → Option Int
  | [] => none
  | [x] => some x
  | x :: r => match minL r with
    | some m => some (if m < x then m else x)
    | none => none
def maxL : List Int → Option Int
  | [] => none
  | [x] => some x
  | x :: r => match maxL r with
    | some m => some (if x < m then m else x)
    | none => none

def prAdd : List T → Option Vl
  | [.int a, .int b] => some (.fr (.int (a + b)))
  | [.str a, .str b] => if a.length + b.length ≤ sizeMax then some (.fr (.str (a ++ b))) else none
  | [.tup a, .tup b] => if a.length + b.length ≤ sizeMax then some (.fr (.tup (a ++ b))) else none
  | [.lst a, .lst b] => if a.length + b.length ≤ sizeMax then some (.ow (.lst (a ++ b))) else none
  | _ => none
def prMul : List T → Option Vl
  | [.int a, .int b] => if mulOk a b then some (.fr (.int (a * b))) else none
  | [.str a, .int k] => if a.length * k.toNat ≤ sizeMax ∧ small k = true then some (.fr (.str (List.replicate k.toNat a).flatten)) else none
  | [.lst a, .int k] => if a.length * k.toNat ≤ sizeMax ∧ small k = true then some (.ow (.lst (List.replicate k.toNat a).flatten)) else none
  | [.tup a, .int k] => if (0 < a.length ∧ a.length ≤ 1000) ∧ (1 ≤ k ∧ k ≤ 1000) then some (.fr (.tup (List.replicate k.toNat a).flatten)) else none
  | _ => none
def prCmp (f : Int → Int → Bool) (g : List Nat → List Nat → Bool) : List T → Option Vl
  | [.int a, .int b] => bool (f a b)
  | [.str a, .str b] => bool (g a b)
  | _ => none
def prIn (neg : Bool) : List T → Option Vl
  | [x, .lst ys] => if inOk x ys then bool (neg != ys.any fun y => eqv y x) else none
  | [x, .tup ys] => if inOk x ys then bool (neg != ys.any fun y => eqv y x) else none
  | [.str [c], .str ys] => bool (neg != decide (c ∈ ys))
  | [x, .set ys] => if x.shp deep && shps deep ys && x.pure && pures ys then bool (neg != ys.any fun y => eqv y x) else none
  | _ => none
def prLen : List T → Option Vl
  | [.lst xs] => some (.fr (.int xs.length))
  | [.tup xs] => some (.fr (.int xs.length))
  | [.str xs] => if xs.length ≤ sizeMax then some (.fr (.int xs.length)) else none
  | [.set xs] => some (.fr (.int xs.length))
  | _ => none
def prIdx : List T → Option Vl
  | [.lst xs, .int i] => (atI xs i).map .fr
  | [.tup xs, .int i] => (atI xs i).map .fr
  | [.str xs, .int i] => if xs.length ≤ sizeMax then (atI xs i).map fun c => .fr (.str [c]) else none
  | _ => none
def prCut (lo hi : Option Int) : T → Option Vl
  | .lst xs => some (.ow (.lst (cut xs lo hi)))
  | .tup xs => some (.fr (.tup (cut xs lo hi)))
  | .str xs => if xs.length ≤ sizeMax then some (.fr (.str (cut xs lo hi))) else none
  | _ => none
def prSl : Bool → Bool → List T → Option Vl
  | true, true, [x, .int a, .int b] => prCut (some a) (some b) x
  | true, false, [x, .int a] => prCut (some a) none x
  | false, true, [x, .int b] => prCut none (some b) x
  | false, false, [x] => prCut none none x
  | _, _, _ => none
def onSeq (f : ∀ {α : Type}, List α → List α) : T → Option Vl
  | .lst xs => some (.ow (.lst (f xs)))
  | .tup xs => some (.fr (.tup (f xs)))
  | .str xs => some (.fr (.str (f xs)))
  | _ => none
def int1 (f : Int → Int) : List T → Option Vl
  | [.int a] => some (.fr (.int (f a)))
  | _ => none
def int2 (f : Int → Int → Int) : List T → Option Vl
  | [.int a, .int b] => some (.fr (.int (f a b)))
  | _ => none
def onInts (tup : Bool) (f : List Int → Option Vl) : List T → Option Vl
  | [x] => match (if tup || isLst x then x.items else none) with
    | some xs => match T.ints xs with
      | some is => f is
      | none => none
    | none => none
  | _ => none
def prFdv : List T → Option Vl
  | [.int a, .int b] => if 0 < b ∧ b.natAbs.log2 < 9000 then some (.fr (.int (a / b))) else none
  | _ => none
def prMod : List T → Option Vl
  | [.int a, .int b] => if 0 < b then some (.fr (.int (a % b))) else none
  | _ => none
def prPow : List T → Option Vl
  | [.int a, .int b] => if 0 ≤ b ∧ b ≤ 1000 ∧ a.natAbs < 2 ^ 64 then some (.fr (.int (a ^ b.toNat))) else none
  | _ => none
def prEq (neg : Bool) : List T → Option Vl
  | [a, b] => if eqOk a b then bool (neg != eqv a b) else none
  | _ => none
def pr1 (f : T → Option Vl) : List T → Option Vl
  | [a] => f a
  | _ => none
def prIsi (f : T → Bool) : List T → Option Vl
  | [a] => if isDc a then none else bool (f a)
  | _ => none
def prInt : List T → Option Vl
  | [.int a] => some (.fr (.int a))
  | [.bl b] => some (.fr (.int (if b then 1 else 0)))
  | _ => none
def prTuple : List T → Option Vl
  | [.lst xs] => some (.fr (.tup xs))
  | [.tup xs] => some (.fr (.tup xs))
  | _ => none
def prList : List T → Option Vl
  | [.lst xs] => some (.ow (.lst xs))
  | [.tup xs] => some (.ow (.lst xs))
  | _ => none
def onBls (f : List Bool → Bool) : List T → Option Vl
  | [.lst xs] => match T.bls xs with
    | some bs => bool (f bs)
    | none => none
  | _ => none
def prJoin : List T → Option Vl
  | [.str sep, x] => match x.items with
    | some xs => match T.strs xs with
      | some ss => if (ss.map List.length).sum + ss.length * sep.length ≤ sizeMax then some (.fr (.str (joinS sep ss))) else none
      | none => none
    | none => none
  | _ => none
/-- pairs of ints -/
def T.prs : List T → Option (List (Int × Int))
  | [] => some []
  | .tup [.int i, .int j] :: r => match T.prs r with
    | some ps => some ((i, j) :: ps)
    | none => none
  | _ :: _ => none
def prT (q : Int × Int) : T := .tup [.int q.1, .int q.2]
def leP (a b : Int × Int) : Bool := decide (a.1 < b.1) || (decide (a.1 = b.1) && decide (a.2 ≤ b.2))
def T.tps0 : List T → Option (List (List Int))
  | [] => some []
  | .tup xs :: r => match T.ints xs, T.tps0 r with
    | some is, some rs => if is = [] then none else some (is :: rs)
    | _, _ => none
  | _ :: _ => none
def leL (a b : List Int) : Bool := decide (a ≤ b)
def prSorted : List T → Option Vl
  | [.lst xs] => match T.ints xs with
    | some is => some (.ow (.lst ((is.mergeSort leI).map .int)))
    | none => match T.strs xs with
      | some ss => some (.ow (.lst ((ss.mergeSort leS).map .str)))
      | none => match T.prs xs with
        | some ps => some (.ow (.lst ((ps.mergeSort leP).map prT)))
        | none => match T.tps0 xs with
          | some rs => some (.ow (.lst ((rs.mergeSort leL).map fun is => .tup (is.map .int))))
          | none => none
  | [.tup xs] => match T.ints xs with
    | some is => some (.ow (.lst ((is.mergeSort leI).map .int)))
    | none => none
  | [.dct false ks _] => match T.ints ks with
    | some is => some (.ow (.lst ((is.mergeSort leI).map .int)))
    | none => match T.strs ks with
      | some ss => some (.ow (.lst ((ss.mergeSort leS).map .str)))
      | none => none
  | _ => none
/-- put into an ascending list, once -/
def insU (z : Int) : List Int → List Int
  | [] => [z]
  | y :: r => if z < y then z :: y :: r else if z = y then y :: r else y :: insU z r
/-- the numbers of a list, each once, ascending -/
def srtU (is : List Int) : List Int := is.foldr insU []
def prSetI (f : List Int → Vl) : List T → Option Vl
  | [.lst xs] => match T.ints xs with
    | some is => if (srtU is).length ≤ 4000 then some (f is) else none
    | none => none
  | [.tup xs] => match T.ints xs with
    | some is => if is.length ≤ 4000 then some (f is) else none
    | none => none
  | _ => none
/-- lists of ints -/
def T.tps : List T → Option (List (List Int))
  | [] => some []
  | .tup xs :: r => match T.ints xs, T.tps r with
    | some is, some q => some (is :: q)
    | _, _ => none
  | _ => none
/-- the first of the least -/
def minT (x : List Int) (xs : List (List Int)) : List Int := xs.foldl (fun a y => if y < a then y else a) x
def prMinT : List T → Option Vl
  | [.lst xs] => match T.tps xs with
    | some (l :: r) => some (.fr (.tup ((minT l r).map .int)))
    | _ => none
  | _ => none
def prMin1 (ts : List T) : Option Vl := match onInts true (fun is => (minL is).map fun m => .fr (.int m)) ts with
  | some r => some r
  | none => prMinT ts
def prShl : List T → Option Vl
  | [.int a, .int b] => if 0 ≤ b ∧ b ≤ 1000 ∧ a.natAbs.log2 ≤ 1000000 then some (.fr (.int (a * 2 ^ b.toNat))) else none
  | _ => none
def prShr : List T → Option Vl
  | [.int a, .int b] => if 0 ≤ b then some (.fr (.int (a / 2 ^ b.toNat))) else none
  | _ => none
def prBand : List T → Option Vl
  | [.int a, .int b] => if 0 ≤ a ∧ 0 ≤ b then some (.fr (.int ((a.toNat &&& b.toNat : Nat) : Int))) else none
  | _ => none
def prBor : List T → Option Vl
  | [.int a, .int b] => if 0 ≤ a ∧ 0 ≤ b then some (.fr (.int ((a.toNat ||| b.toNat : Nat) : Int))) else none
  | _ => none
def prSset (ts : List T) : Option Vl := prSetI (fun is => .ow (.lst ((srtU is).map .int))) ts
def prLset (ts : List T) : Option Vl := prSetI (fun is => .fr (.int ((srtU is).length : Int))) ts
def prMin3 : List T → Option Vl
  | [.int a, .int b, .int c] => some (.fr (.int (if c < (if b < a then b else a) then c else (if b < a then b else a))))
  | _ => none
def prIndex : List T → Option Vl
  | [.lst ys, x] => if inOk x ys then (ys.findIdx? fun y => eqv y x).map fun (i : Nat) => .fr (.int (i : Int)) else none
  | _ => none
def prRev : List T → Option Vl
  | [.lst xs] => some (.ow (.lst xs.reverse))
  | [.tup xs] => some (.fr (.tup xs.reverse))
  | [.str xs] => if xs.length ≤ sizeMax then some (.fr (.str xs.reverse)) else none
  | _ => none
def prEv (a : Nat) : List T → Option Vl
  | [.lst xs] => some (.ow (.lst (ev2 (xs.drop a))))
  | [.tup xs] => some (.fr (.tup (ev2 (xs.drop a))))
  | [.str xs] => if xs.length ≤ sizeMax then some (.fr (.str (ev2 (xs.drop a)))) else none
  | _ => none
def prLrng1 : List T → Option Vl
  | [.int b] => if small b && decide (b ≤ sizeMax) then some (.ow (.lst ((rangeL 0 b).map .int))) else none
  | _ => none
def prLrng2 : List T → Option Vl
  | [.int a, .int b] => if small a && small b && decide (b - a ≤ sizeMax) then some (.ow (.lst ((rangeL a b).map .int))) else none
  | _ => none
def prTrng1 : List T → Option Vl
  | [.int b] => if small b && decide (b ≤ sizeMax) then some (.fr (.tup ((rangeL 0 b).map .int))) else none
  | _ => none
def prTrng2 : List T → Option Vl
  | [.int a, .int b] => if small a && small b && decide (b - a ≤ sizeMax) then some (.fr (.tup ((rangeL a b).map .int))) else none
  | _ => none
def rng3N (a b c : Int) : Nat := if a < b then ((b - a - 1) / c + 1).toNat else 0
def rng3L (a b c : Int) : List Int := (List.range (rng3N a b c)).map fun (i : Nat) => a + (i : Int) * c
def prTrng3 : List T → Option Vl
  | [.int a, .int b, .int c] => if (0 ≤ a ∧ a ≤ 1000000) ∧ (0 ≤ b ∧ b ≤ 1000000) ∧ 0 < c ∧ c ≤ 1000000 then some (.fr (.tup ((rng3L a b c).map .int))) else none
  | _ => none
def prCount : List T → Option Vl
  | [.str s, .str [c]] => if s.length ≤ sizeMax then some (.fr (.int (s.count c : Nat))) else none
  | _ => none
/-- what a primitive gives -/
def prS : Pr → List T → Option Vl
  | .add, ts => prAdd ts
  | .sub, ts => int2 (· - ·) ts
  | .mul, ts => prMul ts
  | .fdv, ts => prFdv ts
  | .mod, ts => prMod ts
  | .pow, ts => prPow ts
  | .neg, ts => int1 (- ·) ts
  | .eq, ts => prEq false ts
  | .ne, ts => prEq true ts
  | .lt, ts => prCmp (fun a b => decide (a < b)) (fun a b => decide (a < b)) ts
  | .le, ts => prCmp (fun a b => decide (a ≤ b)) (fun a b => !decide (b < a)) ts
  | .gt, ts => prCmp (fun a b => decide (b < a)) (fun a b => decide (b < a)) ts
  | .ge, ts => prCmp (fun a b => decide (b ≤ a)) (fun a b => !decide (a < b)) ts
  | .inn, ts => prIn false ts
  | .nin, ts => prIn true ts
  | .isN, ts => pr1 (fun a => bool (isNon a)) ts
  | .notN, ts => pr1 (fun a => bool (!isNon a)) ts
  | .len, ts => prLen ts
  | .abs, ts => int1 (fun a => if a < 0 then -a else a) ts
  | .int, ts => prInt ts
  | .tuple, ts => prTuple ts
  | .list, ts => prList ts
  | .sum, ts => onInts true (fun is => some (.fr (.int is.sum))) ts
  | .min1, ts => prMin1 ts
  | .max1, ts => onInts true (fun is => (maxL is).map fun m => .fr (.int m)) ts
  | .min2, ts => int2 (fun a b => if b < a then b else a) ts
  | .max2, ts => int2 (fun a b => if b > a then b else a) ts
  | .all, ts => onBls (fun bs => bs.all id) ts
  | .any, ts => onBls (fun bs => bs.any id) ts
  | .idx, ts => prIdx ts
  | .sl a b, ts => prSl a b ts
  | .rev, ts => prRev ts
  | .ev, ts => prEv 0 ts
  | .od, ts => prEv 1 ts
  | .isB, ts => prIsi isBl ts
  | .isI, ts => prIsi isIn ts
  | .isS, ts => prIsi isSt ts
  | .isT, ts => prIsi isTu ts
  | .join, ts => prJoin ts
  | .index, _ => none
  | .sorted, ts => prSorted ts
  | .lrng1, ts => prLrng1 ts
  | .lrng2, ts => prLrng2 ts
  | .count, ts => prCount ts
  | .replace, _ => none
  | .lrng3, _ => none
  | .trng1, ts => prTrng1 ts
  | .trng2, ts => prTrng2 ts
  | .trng3, ts => prTrng3 ts
  | .min3, ts => prMin3 ts
  | .sset, ts => prSset ts
  | .lset, ts => prLset ts
  | .shl, ts => prShl ts
  | .shr, ts => prShr ts
  | .band, ts => prBand ts
  | .bor, ts => prBor ts

/-! ### syntax -/
/-- a target: a name, or names in brackets -/
inductive Tg where
  | nm (k : Nat) | tp (ks : List Nat)
  deriving Inhabited
mutual
inductive E where
  | con (t : T)
  | glo (g : Nat)
  | var (k : Nat)
  | pr (p : Pr) (as : Es)
  | tup (as : Es)
  | lst (as : Es)
  | and (a b : E) | or (a b : E) | not (a : E) | ite (c a b : E)
  | chn (p q : Pr) (a b c : E)
  | call (f : Nat) (fz : Bool) (as : Es)
  | pop (k : Nat)
  | popAt (k : Nat) (e : E)
  | sl (x a b : E)
  | index (x a : E)
  | count (x : E) (s : List Nat)
  | join (s : List Nat) (a : E)
  | dget (k1 v1 k2 v2 : List Nat) (a b : E)
  | dnew (tk : Bool)
  | dgt (tk : Bool) (k : Nat) (as : Es) (d : E)
  | dix (tk : Bool) (k : Nat) (as : Es)
  | dixv (k : Nat) (a : E)
  | din (tk neg : Bool) (k : Nat) (as : Es)
  | repl (x : E) (i : Int) (ps : List (List Nat × List Nat))
  | cmp (elt : E) (tg : Tg) (it : It) (cs : Es) (own : List Nat)
  | cmp2 (elt : E) (tg : Tg) (it : It) (cs : Es) (tg1 : Tg) (it1 : It) (cs1 : Es) (own own1 : List Nat)
inductive Es where
  | nil
  | cons (e : E) (es : Es)
/-- what is walked -/
inductive It where
  | e (e : E)
  | rng1 (a : E) | rng2 (a b : E) | rng3 (a b : E) (c : Int)
end
mutual
inductive S where
  | asg (k : Nat) (e : E)
  | mov (k j : Nat)
  | unp (ks : List Nat) (e : E)
  | par (i j : Nat) (a b : E)
  | aug (k : Nat) (p : Pr) (e : E)
  | exp (e : E)
  | app (k : Nat) (e : E)
  | ins (k : Nat) (i e : E)
  | rev (k : Nat)
  | seti (k : Nat) (i e : E)
  | augi (k : Nat) (i : E) (p : Pr) (e : E)
  | iff (c : E) (a b : Ss)
  | par3 (i j l : Nat) (as : Es)
  | dput (tk : Bool) (k : Nat) (as : Es) (e : E)
  | ford (vals : Bool) (tg : Tg) (k : Nat) (b : Ss) (fg : List Nat)
  | for_ (tg : Tg) (it : It) (b : Ss) (fg : List Nat)
  | whl (c : E) (b : Ss) (fg : List Nat)
  | ret (e : E)
  | retv (k : Nat)
  | retN | brk | cnt | pas | stk
inductive Ss where
  | nil
  | cons (s : S) (ss : Ss)
end
/-- a def: its parameters (lent or not), its names, its body -/
structure Fd where
  rw : List Bool
  ns : Nat
  body : Ss
/-- the surroundings: how calls answer -/
structure Cx where
  tab : List Fd
  glo : List T
  call : Nat → List T → Option (Vl × List T)

/-! ### expressions -/
/-- an operand: a value, or a name that is looked up when the operation is done -/
inductive Op where
  | vl (v : Vl) | pl (k : Nat)
  deriving Inhabited
def slT : Option Sl → Option T
  | some (.fr t) => some t
  | some (.ow t) => some t
  | some (.rw t) => some t
  | some (.lk t) => some t
  | _ => none
def Op.tree (l : Loc) : Op → Option T
  | .vl v => some v.t
  | .pl k => slT l[k]?
def trees (l : Loc) : List Op → Option (List T)
  | [] => some []
  | o :: r => match o.tree l with
    | some t => match trees l r with
      | some ts => some (t :: ts)
      | none => none
    | none => none
/-- a name's value, given away: from then on it stays -/
def take (k : Nat) : M T := fun l => match l[k]? with
  | some (.fr t) => some (t, l)
  | some (.ow t) => some (t, l.set k (.fr t))
  | _ => none
def Op.give : Op → M T
  | .vl v => ret v.t
  | .pl k => take k
def gives : List Op → M (List T)
  | [] => ret []
  | o :: r => bind o.give fun t => bind (gives r) fun ts => ret (t :: ts)
/-- a new list in the place of a name's list -/
def put (k : Nat) (t : T) : M Unit := fun l => match l[k]? with
  | some (.ow _) => some ((), l.set k (.ow t))
  | some (.rw _) => some ((), l.set k (.rw t))
  | _ => none
def own (k : Nat) : M T := fun l => match l[k]? with
  | some (.ow t) => some (t, l)
  | some (.rw t) => some (t, l)
  | _ => none
/-- x = value -/
def stV (k : Nat) (s : Sl) : M Unit := fun l => match l[k]? with
  | some .no => some ((), l.set k s)
  | some (.fr _) => some ((), l.set k s)
  | some (.ow _) => some ((), l.set k s)
  | _ => none
def stAll : List Nat → List T → M Unit
  | [], [] => ret ()
  | k :: ks, t :: ts => bind (stV k (.fr t)) fun _ => stAll ks ts
  | _, _ => fun _ => none
def Tg.store : Tg → T → M Unit
  | .nm k, t => stV k (.fr t)
  | .tp ks, .tup ts => if ks.length = ts.length then stAll ks ts else fun _ => none
  | .tp _, _ => fun _ => none
/-- a name is locked while it is walked -/
def lock : Op → Loc → Loc
  | .pl k, l => match l[k]? with
    | some (.ow t) => l.set k (.lk t)
    | some (.rw t) => l.set k (.lk t)
    | _ => l
  | .vl _, l => l
def unlock (l0 : Loc) : Op → Loc → Loc
  | .pl k, l => match l0[k]? with
    | some (.ow t) => l.set k (.ow t)
    | some (.rw t) => l.set k (.rw t)
    | _ => l
  | .vl _, l => l
def forget : List Nat → Loc → Loc
  | [], l => l
  | k :: ks, l => forget ks (match l[k]? with
    | some (.rw _) => l
    | some (.lk _) => l
    | _ => l.set k .no)

/-- the arguments of a call: what is lent must be one's own list -/
def lent (l : Loc) : List Bool → List Op → Option (List T)
  | [], [] => some []
  | true :: bs, .pl k :: os => match l[k]?, lent l bs os with
    | some (.ow t), some ts => some (t :: ts)
    | some (.rw t), some ts => some (t :: ts)
    | _, _ => none
  | true :: bs, .vl (.ow t) :: os => (lent l bs os).map (t :: ·)
  | false :: bs, o :: os => match o.tree l, lent l bs os with
    | some t, some ts => some (t :: ts)
    | _, _ => none
  | _, _ => none
/-- the names that are lent, those that are shown -/
def lents : List Bool → List Op → List Nat
  | true :: bs, .pl k :: os => k :: lents bs os
  | _ :: bs, _ :: os => lents bs os
  | _, _ => []
def shown : List Bool → List Op → List Nat
  | false :: bs, .pl k :: os => k :: shown bs os
  | _ :: bs, _ :: os => shown bs os
  | _, _ => []
/-- the names among some that hold a list of one's own -/
def owned (l : Loc) : List Nat → List Nat
  | [] => []
  | k :: ks => match l[k]? with
    | some (.ow _) => k :: owned l ks
    | some (.rw _) => k :: owned l ks
    | some (.lk _) => k :: owned l ks
    | _ => owned l ks
def back : List Bool → List Op → List T → M Unit
  | true :: bs, .pl k :: os, t :: ts => bind (put k t) fun _ => back bs os ts
  | true :: bs, .vl _ :: os, _ :: ts => back bs os ts
  | false :: bs, _ :: os, ts => back bs os ts
  | [], [], [] => ret ()
  | _, _, _ => fun _ => none
/-- nothing that was shown can hang in it -/
def Vl.clear : Vl → Bool
  | .fr t => t.pure
  | .ow (.lst xs) => pures xs
  | .ow (.dct _ ks vs) => pures ks && pures vs
  | .ow (.set xs) => pures xs
  | .ow _ => false
def clearT : T → Bool
  | .lst xs => pures xs
  | .dct _ ks vs => pures ks && pures vs
  | .set xs => pures xs
  | _ => false
/-- some names' lists stay from now on -/
def freeze : List Nat → Loc → Loc
  | [], l => l
  | k :: ks, l => freeze ks (match l[k]? with
    | some (.ow t) => l.set k (.fr t)
    | _ => l)
def nodupB : List Nat → Bool
  | [] => true
  | k :: ks => !ks.contains k && nodupB ks
def doCall (X : Cx) (f : Nat) (fz : Bool) (os : List Op) : M Vl := fun l0 => match X.tab[f]? with
  | none => none
  | some d => if nodupB (lents d.rw os) && !(shown d.rw os).any (lents d.rw os).contains then
      (fun l => match lent l d.rw os with
        | none => none
        | some ts => match X.call f ts with
          | none => none
          | some (r, fin) =>
            if (owned l (shown d.rw os)).isEmpty || (r.clear && fin.all clearT) then bind (back d.rw os fin) (fun _ => ret r) l
            else none) (if fz then freeze (shown d.rw os) l0 else l0)
    else none

/-- an operand: a name is looked up when the operation is done -/
def opO (e : E) (m : M Vl) : M Op := match e with
  | .var k => fun l => match slT l[k]? with
    | some _ => some (.pl k, l)
    | none => none
  | _ => bind m fun v => ret (.vl v)
def truth : Vl → M Bool
  | .fr (.bl b) => ret b
  | _ => fun _ => none
def intOf : Vl → M Int
  | .fr (.int i) => ret i
  | _ => fun _ => none
/-- x.index(a) -/
def indexM (mo ma : M Op) : M Vl := bind mo fun o => fun l => match o.tree l with
  | some (.lst _) => bind ma (fun a => fun l => match trees l [o, a] with
    | some ts => lift (prIndex ts) l
    | none => none) l
  | _ => none
/-- x[a:b] -/
def slM (mo : M Op) (ma mb : M Vl) : M Vl := bind mo fun o => bind ma fun v => bind (intOf v) fun i => bind mb fun w => bind (intOf w) fun j => fun l => match o.tree l with
  | some t => lift (prCut (some i) (some j) t) l
  | none => none
def wipeL (ks : List Nat) (l : Loc) : Loc := ks.foldl (fun l k => l.set k .no) l
/-- what the slots were, for the names of a block -/
def back0 (l0 : Loc) (ks : List Nat) (l : Loc) : Loc := ks.foldl (fun l k => match l0[k]? with
  | some s => l.set k s
  | none => l) l
/-- no list of one's own -/
def fixed (l : Loc) : Op → Bool
  | .vl _ => true
  | .pl k => match l[k]? with
    | some (.fr _) => true
    | _ => false
/-- a comprehension's loop: the turn gives items -/
def compL (turn : T → M (List T)) : List T → M (List T)
  | [] => ret []
  | x :: xs => bind (turn x) fun a => bind (compL turn xs) fun b => ret (a ++ b)

/-! dicts -/
def isKy : T → Bool
  | .int _ => true
  | .str _ => true
  | _ => false
def keyT : Bool → List T → Option T
  | false, [t] => if isKy t then some t else none
  | false, _ => none
  | true, ts => if ts.all isKy then some (.tup ts) else none
def dAt : List T → List T → T → Option T
  | a :: ks, v :: vs, k => if eqv a k then some v else dAt ks vs k
  | _, _, _ => none
def dHas (ks : List T) (k : T) : Bool := ks.any fun a => eqv a k
def dKs (ks : List T) (k : T) : List T := if dHas ks k then ks else ks ++ [k]
def dVs (ks vs : List T) (k x : T) : List T := if dHas ks k then List.zipWith (fun a v => if eqv a k then x else v) ks vs else vs ++ [x]
def keyM (tk : Bool) (m : M (List Op)) : M T := bind m fun os => fun l => match trees l os with
  | some ts => match keyT tk ts with
    | some t => some (t, l)
    | none => none
  | none => none
/-- a tuple as a key -/
def keyV (m : M Op) : M T := bind m fun o => fun l => match o.tree l with
  | some (.tup ts) => if ts.all isKy then some (.tup ts, l) else none
  | _ => none
def dictAt (tk : Bool) (k : Nat) : M (List T × List T) := fun l => match slT l[k]? with
  | some (.dct tk' ks vs) => if tk' = tk then some ((ks, vs), l) else none
  | _ => none
/-- a dict that is walked stays -/
def dkM (vals : Bool) (k : Nat) : M (Op × List T) := bind (take k) fun t => match t with
  | .dct _ ks vs => ret (.vl (.fr .non), if vals = true then vs else ks)
  | _ => fun _ => none
/-! one sign put in the place of another -/
def rpl1 (a : Nat) (b : List Nat) (s : List Nat) : List Nat := s.flatMap fun c => if c = a then b else [c]
/-- the last one first -/
def rplR : List (List Nat × List Nat) → List Nat → Option (List Nat)
  | [], s => some s
  | ([a], b) :: r, s => match rplR r s with
    | some z => if z.length ≤ 1000000 ∧ b.length ≤ 1 then some (rpl1 a b z) else none
    | none => none
  | _ :: _, _ => none
mutual
def evE (X : Cx) : E → M Vl
  | .con t => ret (.fr t)
  | .glo g => lift (X.glo[g]?.map .fr)
  | .var k => bind (take k) fun t => ret (.fr t)
  | .pr p as => bind (evOs X as) fun os => fun l => match trees l os with
    | some ts => lift (prS p ts) l
    | none => none
  | .tup as => bind (evOs X as) fun os => bind (gives os) fun ts => ret (.fr (.tup ts))
  | .lst as => bind (evOs X as) fun os => bind (gives os) fun ts => ret (.ow (.lst ts))
  | .and a b => bind (evE X a) fun v => bind (truth v) fun c => if c then evE X b else ret (.fr (.bl false))
  | .or a b => bind (evE X a) fun v => bind (truth v) fun c => if c then ret (.fr (.bl true)) else evE X b
  | .not a => bind (evE X a) fun v => bind (truth v) fun c => ret (.fr (.bl !c))
  | .ite c a b => bind (evE X c) fun v => bind (truth v) fun d => if d then evE X a else evE X b
  | .chn p q a b c => bind (opO a (evE X a)) fun x => bind (opO b (evE X b)) fun y => bind (fun l => match trees l [x, y] with
      | some ts => lift (prS p ts) l
      | none => none) fun v => bind (truth v) fun d =>
      if d then bind (opO c (evE X c)) fun z => fun l => match trees l [y, z] with
        | some ts => lift (prS q ts) l
        | none => none
      else ret (.fr (.bl false))
  | .call f fz as => bind (evOs X as) fun os => doCall X f fz os
  | .pop k => bind (own k) fun t => match t with
    | .lst xs => match xs.getLast? with
      | some x => bind (put k (.lst xs.dropLast)) fun _ => ret (.fr x)
      | none => fun _ => none
    | _ => fun _ => none
  | .popAt k e => bind (own k) fun t0 => if isLst t0 then bind (evE X e) fun v => match v with
    | .fr (.int i) => bind (own k) fun t => match t with
      | .lst xs => match (if small i then ixN xs.length i else none) with
        | some j => match xs[j]? with
          | some x => bind (put k (.lst (xs.eraseIdx j))) fun _ => ret (.fr x)
          | none => fun _ => none
        | none => fun _ => none
      | _ => fun _ => none
    | _ => fun _ => none
    else fun _ => none
  | .join s a => bind (bind (ret (.vl (.fr (.str s)))) fun o => bind (bind (opO a (evE X a)) fun o => bind (ret []) fun os => ret (o :: os)) fun os => ret (o :: os)) fun os => fun l => match trees l os with
    | some ts => lift (prS .join ts) l
    | none => none
  | .index x a => indexM (opO x (evE X x)) (opO a (evE X a))
  | .count x s => bind (bind (opO x (evE X x)) fun o => bind (bind (ret (.vl (.fr (.str s)))) fun o => bind (ret []) fun os => ret (o :: os)) fun os => ret (o :: os)) fun os => fun l => match trees l os with
    | some ts => lift (prS .count ts) l
    | none => none
  | .dget k1 v1 k2 v2 a b => bind (evE X a) fun v => bind (evE X b) fun w => match v, w with
    | .fr (.str s), .fr (.str t) => ret (.fr (.str (if s = k1 then v1 else if s = k2 then v2 else t)))
    | _, _ => fun _ => none
  | .sl x a b => slM (opO x (evE X x)) (evE X a) (evE X b)
  | .cmp elt tg it cs ks => bind (evI X it) fun oi => fun l0 =>
    match bind (compL (fun x => bind (tg.store x) fun _ => bind (evC X cs) fun c =>
        if c then bind (evE X elt) fun v => fun l => some ([v.t], wipeL ks l) else fun l => some ([], wipeL ks l)) oi.2) (fun ys => if ys.length ≤ sizeMax then ret ys else fun _ => none) (wipeL ks (lock oi.1 l0)) with
    | some (ys, l) => some (.ow (.lst ys), unlock l0 oi.1 (back0 l0 ks l))
    | none => none
  | .cmp2 elt tg it cs tg1 it1 cs1 ks ks1 => bind (evI X it) fun oi => fun l0 =>
    match bind (compL (fun x => bind (tg.store x) fun _ => bind (evC X cs) fun c =>
        if c then bind (evI X it1) fun oi1 => fun l1 => if fixed l1 oi1.1 then
          match compL (fun x => bind (tg1.store x) fun _ => bind (evC X cs1) fun c =>
            if c then bind (evE X elt) fun v => fun l => some ([v.t], wipeL ks1 l) else fun l => some ([], wipeL ks1 l)) oi1.2 (wipeL ks1 l1) with
          | some (ys, l) => some (ys, wipeL ks l)
          | none => none
          else none
        else fun l => some ([], wipeL ks l)) oi.2) (fun ys => if ys.length ≤ sizeMax then ret ys else fun _ => none) (wipeL ks (lock oi.1 l0)) with
    | some (ys, l) => some (.ow (.lst ys), unlock l0 oi.1 (back0 l0 ks l))
    | none => none
  | .dnew tk => ret (.ow (.dct tk [] []))
  | .dgt tk k as d => bind (dictAt tk k) fun _ => bind (keyM tk (evOs X as)) fun key => bind (bind (opO d (evE X d)) fun o => o.give) fun z => bind (dictAt tk k) fun p => ret (.fr ((dAt p.1 p.2 key).getD z))
  | .dix tk k as => bind (dictAt tk k) fun _ => bind (keyM tk (evOs X as)) fun key => bind (dictAt tk k) fun p => lift ((dAt p.1 p.2 key).map .fr)
  | .dixv k a => bind (dictAt true k) fun _ => bind (keyV (opO a (evE X a))) fun key => bind (dictAt true k) fun p => lift ((dAt p.1 p.2 key).map .fr)
  | .din tk neg k as => bind (keyM tk (evOs X as)) fun key => bind (dictAt tk k) fun p => ret (.fr (.bl (neg != dHas p.1 key)))
  | .repl x i ps => bind (bind (bind (opO x (evE X x)) fun o => bind (bind (opO (.con (.int i)) (ret (.fr (.int i)))) fun o => bind (ret []) fun os => ret (o :: os)) fun os => ret (o :: os)) fun os => fun l => match trees l os with
    | some ts => lift (prS .idx ts) l
    | none => none) fun v => match v with
    | .fr (.str s) => match rplR ps s with
      | some z => ret (.fr (.str z))
      | none => fun _ => none
    | _ => fun _ => none
def evOs (X : Cx) : Es → M (List Op)
  | .nil => ret []
  | .cons e es => bind (opO e (evE X e)) fun o => bind (evOs X es) fun os => ret (o :: os)
/-- tests, one after the other -/
def evC (X : Cx) : Es → M Bool
  | .nil => ret true
  | .cons e es => bind (evE X e) fun v => bind (truth v) fun c => if c then evC X es else ret false
/-- what is walked: the operand to be locked, the items -/
def evI (X : Cx) : It → M (Op × List T)
  | .e e => bind (opO e (evE X e)) fun o => fun l => match o.tree l with
    | some (.lst xs) => some ((o, xs), l)
    | some (.tup xs) => some ((o, xs), l)
    | some (.str xs) => some ((o, xs.map fun c => .str [c]), l)
    | _ => none
  | .rng1 a => bind (evE X a) fun v => match v with
    | .fr (.int b) => if small b then ret (.vl (.fr .non), (rangeL 0 b).map .int) else fun _ => none
    | _ => fun _ => none
  | .rng2 a b => bind (evE X a) fun v => bind (evE X b) fun w => match v, w with
    | .fr (.int a), .fr (.int b) => if small a && small b then ret (.vl (.fr .non), (rangeL a b).map .int) else fun _ => none
    | _, _ => fun _ => none
  | .rng3 a b c => bind (evE X a) fun v => bind (evE X b) fun w => match v, w with
    | .fr (.int a), .fr (.int b) => if small a && small b && (c == -1 || c == 2) then ret (.vl (.fr .non), (rangeS a b c).map .int) else fun _ => none
    | _, _ => fun _ => none
end
end Ir

namespace Ir
/-! ### statements -/
inductive Fl where
  | nx | rt (v : Vl) | bk | ct
  deriving Inhabited
/-- a while loop; a turn forgets what is not carried -/
def whileM (c : M Bool) (b : M Fl) (fg : List Nat) (l : Loc) : Option (Fl × Loc) :=
  match c l with
  | none => none
  | some (false, l1) => some (.nx, l1)
  | some (true, l1) => match b l1 with
    | none => none
    | some (.nx, l2) => whileM c b fg (forget fg l2)
    | some (.ct, l2) => whileM c b fg (forget fg l2)
    | some (.bk, l2) => some (.nx, forget fg l2)
    | some (.rt v, l2) => some (.rt v, l2)
partial_fixpoint
def forM (st : T → M Unit) (b : M Fl) (fg : List Nat) : List T → M Fl
  | [] => ret .nx
  | x :: xs => fun l => match bind (st x) (fun _ => b) l with
    | none => none
    | some (.nx, l2) => forM st b fg xs (forget fg l2)
    | some (.ct, l2) => forM st b fg xs (forget fg l2)
    | some (.bk, l2) => some (.nx, forget fg l2)
    | some (.rt v, l2) => some (.rt v, l2)
/-- a for loop: what is walked is locked -/
def forS (mi : M (Op × List T)) (tg : Tg) (b : M Fl) (fg : List Nat) : M Fl := bind mi fun oi => fun l0 => match forM tg.store b fg oi.2 (forget fg (lock oi.1 l0)) with
    | some (f, l) => some (f, unlock l0 oi.1 l)
    | none => none
def seqM (a b : M Fl) : M Fl := fun l => match a l with
  | none => none
  | some (.nx, l') => b l'
  | some (.ct, l') => some (.ct, l')
  | some (.bk, l') => some (.bk, l')
  | some (.rt v, l') => some (.rt v, l')
/-- a value laid into a structure -/
def giveE (X : Cx) (e : E) : M T := bind (opO e (evE X e)) fun o => o.give
/-- k[i] = x -/
def setAt (k : Nat) (i : T) (x : T) : M Unit := bind (own k) fun t => fun l => match t with
  | .lst xs => match i with
    | .int i => match ixN xs.length i with
      | some j => put k (.lst (xs.set j x)) l
      | none => none
    | _ => none
  | _ => none
def movM (k j : Nat) : M Fl := fun l => match l[j]? with
    | some (.fr t) => bind (stV k (.fr t)) (fun _ => ret .nx) (l.set j .no)
    | some (.ow t) => bind (stV k (.ow t)) (fun _ => ret .nx) (l.set j .no)
    | _ => none
def retvM (k : Nat) : M Fl := fun l => match l[k]? with
    | some (.fr t) => some (.rt (.fr t), l)
    | some (.ow t) => some (.rt (.ow t), l.set k .no)
    | _ => none
def unpM (ks : List Nat) (m : M Op) : M Fl := bind m fun o => fun l => match o.tree l with
    | some (.tup ts) => if ks.length = ts.length then bind (stAll ks ts) (fun _ => ret .nx) l else none
    | some (.lst ts) => if ks.length = ts.length then bind (stAll ks ts) (fun _ => ret .nx) l else none
    | _ => none
/-- what op= at a name may give -/
def augOk (p : Pr) : T → Bool
  | .int _ => true
  | .str _ => decide (p = .add)
  | .tup _ => decide (p = .add)
  | _ => false
/-- x op= e: a value that stays, or a list of one's own that grows -/
def augM (k : Nat) (p : Pr) (m : M Op) : M Fl := fun l0 => match slT l0[k]? with
  | none => none
  | some _ => bind m (fun o => fun l => match l[k]? with
    | some (.fr t) => match o.tree l with
      | some u => match prS p [t, u] with
        | some (.fr w) => if augOk p w = true then bind (stV k (.fr w)) (fun _ => ret .nx) l else none
        | _ => none
      | none => none
    | some (.ow (.lst xs)) => match o with
      | .vl (.ow (.lst ys)) => if p = .add ∧ xs.length + ys.length ≤ sizeMax then bind (put k (.lst (xs ++ ys))) (fun _ => ret .nx) l else none
      | _ => none
    | _ => none) l0
def appM (k : Nat) (m : M T) : M Fl := bind (own k) fun t0 => if isLst t0 = true then bind m fun x => bind (own k) fun t => fun l => match t with
    | .lst xs => if xs.length < sizeMax then bind (put k (.lst (xs ++ [x]))) (fun _ => ret .nx) l else none
    | _ => none
    else fun _ => none
def insM (k : Nat) (mi : M Vl) (m : M T) : M Fl := bind (own k) fun t0 => if isLst t0 = true then bind mi fun v => bind (intOf v) fun i => bind m fun x => bind (own k) fun t => fun l => match t with
    | .lst xs => if xs.length < sizeMax ∧ 0 ≤ i ∧ i < 2 ^ 62 then bind (put k (.lst (xs.take i.toNat ++ [x] ++ xs.drop i.toNat))) (fun _ => ret .nx) l else none
    | _ => none
    else fun _ => none
def revM (k : Nat) : M Fl := bind (own k) fun t => fun l => match t with
    | .lst xs => bind (put k (.lst xs.reverse)) (fun _ => ret .nx) l
    | _ => none
def setM (k : Nat) (m mi : M T) : M Fl := bind (own k) fun _ => bind m fun x => bind mi fun j => bind (setAt k j x) fun _ => ret .nx
def augiM (k : Nat) (mi : M Vl) (p : Pr) (m : M Op) : M Fl := bind (own k) fun _ => bind mi fun v => bind (intOf v) fun i => bind (own k) fun t => fun l => match t with
    | .lst xs => match atI xs i with
      | some old => bind m (fun o => fun l => match o.tree l with
        | some u => match prS p [old, u] with
          | some (.fr w) => if augOk p w = true then bind (setAt k (.int i) w) (fun _ => ret .nx) l else none
          | _ => none
        | none => none) l
      | none => none
    | _ => none
/-- a, b = x, y: two new lists are owned -/
def parM (i j : Nat) (mo no : M Op) : M Fl := bind mo fun x => bind no fun y => match x, y with
  | .vl (.ow t), .vl (.ow u) => bind (stV i (.ow t)) fun _ => bind (stV j (.ow u)) fun _ => ret .nx
  | x, y => bind x.give fun v => bind y.give fun w => bind (stV i (.fr v)) fun _ => bind (stV j (.fr w)) fun _ => ret .nx
/-- a, b, c = x, y, z -/
def par3M (i j k : Nat) (m : M (List Op)) : M Fl := bind m fun os => bind (gives os) fun ts => match ts with
  | [u, v, w] => bind (stV i (.fr u)) fun _ => bind (stV j (.fr v)) fun _ => bind (stV k (.fr w)) fun _ => ret .nx
  | _ => fun _ => none
/-- d[key] = x -/
def dputM (tk : Bool) (k : Nat) (mk : M T) (me : M T) : M Fl := bind (own k) fun _ => bind me fun v => bind mk fun key => bind (own k) fun t => fun l => match t with
  | .dct tk' ks vs => if tk' = tk ∧ ks.length < sizeMax then bind (put k (.dct tk (dKs ks key) (dVs ks vs key v))) (fun _ => ret .nx) l else none
  | _ => none
mutual
def evS (X : Cx) : S → M Fl
  | .asg k e => bind (evE X e) fun v => bind (stV k v.sl) fun _ => ret .nx
  | .mov k j => movM k j
  | .unp ks e => unpM ks (opO e (evE X e))
  | .par i j a b => parM i j (opO a (evE X a)) (opO b (evE X b))
  | .aug k p e => augM k p (opO e (evE X e))
  | .exp e => bind (evE X e) fun _ => ret .nx
  | .app k e => appM k (giveE X e)
  | .ins k i e => insM k (evE X i) (giveE X e)
  | .rev k => revM k
  | .seti k i e => setM k (giveE X e) (giveE X i)
  | .augi k i p e => augiM k (evE X i) p (opO e (evE X e))
  | .iff c a b => bind (evE X c) fun v => bind (truth v) fun d => if d then evSs X a else evSs X b
  | .for_ tg it b fg => forS (evI X it) tg (evSs X b) fg
  | .par3 i j k as => par3M i j k (evOs X as)
  | .dput tk k as e => dputM tk k (keyM tk (evOs X as)) (giveE X e)
  | .ford vals tg k b fg => forS (dkM vals k) tg (evSs X b) fg
  | .whl c b fg => fun l => whileM (bind (evE X c) truth) (evSs X b) fg (forget fg l)
  | .ret e => bind (evE X e) fun v => ret (.rt v)
  | .retv k => retvM k
  | .retN => ret (.rt (.fr .non))
  | .brk => ret .bk
  | .cnt => ret .ct
  | .pas => ret .nx
  | .stk => fun _ => none
def evSs (X : Cx) : Ss → M Fl
  | .nil => ret .nx
  | .cons s ss => seqM (evS X s) (evSs X ss)
end
/-! ### calls -/
/-- the slots at the start -/
def start (rw : List Bool) (ts : List T) (ns : Nat) : Loc :=
  (List.zipWith (fun (b : Bool) t => if b then Sl.rw t else Sl.fr t) rw ts) ++ List.replicate (ns - ts.length) .no
/-- what was lent, at the end -/
def finals : List Bool → Loc → Option (List T)
  | [], _ => some []
  | false :: bs, _ :: l => finals bs l
  | true :: bs, .rw t :: l => (finals bs l).map (t :: ·)
  | _, _ => none
def runF (X : Cx) (d : Fd) (ts : List T) : Option (Vl × List T) :=
  if d.rw.length = ts.length ∧ ts.length ≤ d.ns then
    match evSs X d.body (start d.rw ts d.ns) with
    | some (.rt v, l) => (finals d.rw l).map (v, ·)
    | some (.nx, l) => (finals d.rw l).map (.fr .non, ·)
    | _ => none
  else none
/-- a program: its defs, its constants -/
structure Pg where
  tab : List Fd
  glo : List T
/-- the call of the f-th def, at most n calls deep -/
def callT (P : Pg) : Nat → Nat → List T → Option (Vl × List T)
  | 0, _, _ => none
  | n + 1, f, ts => match P.tab[f]? with
    | some d => runF ⟨P.tab, P.glo, callT P n⟩ d ts
    | none => none
end Ir

set_option Elab.async false
set_option linter.all false
namespace Ir
open PySem L2

/-- a list that the module has -/
def Kn (K : PySem.W.Frag) (a : Addr) (vs : List V) : Prop := vs.length ≤ sizeLine ∧ ∃ (us : List Value) (n : Nat), Vals vs us ∧ K.lookup a = some { cls := .type "list", data := .seq us.toArray n }
theorem Kn.sq {K : PySem.W.Frag} {H : Hp} {a : Addr} {vs : List V} (h : Kn K a vs) : SqL K H a vs := by
  obtain ⟨hz, us, n, r, e⟩ := h
  exact .inr ⟨_, us.toArray, n, e, rfl, rfl, rfl, by rw [List.size_toArray, ← r.length]; exact hz, r⟩
/-- a dict's key -/
def kT : Key → T
  | .inl i => .int i
  | .inr x => .str x.cps.toList
def kTs (k : List Key) : T := .tup (k.map kT)
section
variable (K : PySem.W.Frag) (H : Hp) (Z : Addr → Prop)
mutual
/-- a value stands for a tree, for good: its lists are at places of Z -/
inductive RF : T → V → Prop
  | non : RF .non .non
  | bl (b : Bool) : RF (.bl b) (.bl b)
  | int (i : Int) : RF (.int i) (.int i)
  | str (x : Str) : RF (.str x.cps.toList) (.str x)
  | tup {a : Addr} {vs : List V} {ts : List T} : SqT K H a vs → RFs ts vs → RF (.tup ts) (.ref a)
  | lst {a : Addr} {vs : List V} {ts : List T} : Rd H a (.lst vs) → Z a → RFs ts vs → RF (.lst ts) (.ref a)
  | kls {a : Addr} {vs : List V} {ts : List T} : Kn K a vs → RFs ts vs → RF (.lst ts) (.ref a)
  | dK {a : Addr} {kvs : List (Key × V)} {ks : List T} {ts : List T} {vs : List V} : Rd H a (.dK kvs) → Z a → kvs.map (fun p => kT p.1) = ks → kvs.map (fun p => p.2) = vs → RFs ts vs → RF (.dct false ks ts) (.ref a)
  | dT {a : Addr} {kvs : List (List Key × V)} {ks : List T} {ts : List T} {vs : List V} : Rd H a (.dT kvs) → Z a → kvs.map (fun p => kTs p.1) = ks → kvs.map (fun p => p.2) = vs → RFs ts vs → RF (.dct true ks ts) (.ref a)
inductive RFs : List T → List V → Prop
  | nil : RFs [] []
  | cons {t : T} {v : V} {ts : List T} {vs : List V} : RF t v → RFs ts vs → RFs (t :: ts) (v :: vs)
end
/-- a list of one's own -/
inductive OA : T → Addr → Prop
  | lst {a : Addr} {vs : List V} {ts : List T} : H a = some (.lst vs) → RFs K H Z ts vs → OA (.lst ts) a
  | dK {a : Addr} {kvs : List (Key × V)} {ks : List T} {ts : List T} {vs : List V} : H a = some (.dK kvs) → kvs.map (fun p => kT p.1) = ks → kvs.map (fun p => p.2) = vs → RFs K H Z ts vs → OA (.dct false ks ts) a
  | dT {a : Addr} {kvs : List (List Key × V)} {ks : List T} {ts : List T} {vs : List V} : H a = some (.dT kvs) → kvs.map (fun p => kTs p.1) = ks → kvs.map (fun p => p.2) = vs → RFs K H Z ts vs → OA (.dct true ks ts) a
end

/-- the kinds of a name -/
def Sl.mut : Sl → Bool
  | .ow _ => true
  | .rw _ => true
  | _ => false
def Sl.own : Sl → Option T
  | .ow t => some t
  | .rw t => some t
  | .lk t => some t
  | _ => none
structure AL (K : PySem.W.Frag) (H : Hp) (Z : Addr → Prop) (l : Loc) (σ : St) : Prop where
  zd : ∀ b, Z b → H b ≠ none
  len : l.length = σ.length
  fr : ∀ (i : Nat) (t : T), l[i]? = some (.fr t) → ∃ v, σ[i]? = some (some v) ∧ RF K H Z t v
  ow : ∀ (i : Nat) (s : Sl) (t : T), l[i]? = some s → s.own = some t → ∃ a, σ[i]? = some (some (.ref a)) ∧ OA K H Z t a ∧ ¬ Z a
  dj : ∀ (i j : Nat) (s s' : Sl) (t t' : T) (a : Addr), l[i]? = some s → s.own = some t → l[j]? = some s' → s'.own = some t' → σ[i]? = some (some (.ref a)) → σ[j]? = some (some (.ref a)) → i = j
/-- the lists that may be changed -/
def W (l : Loc) (σ : St) (b : Addr) : Prop := ∃ (i : Nat) (s : Sl), l[i]? = some s ∧ s.mut = true ∧ σ[i]? = some (some (.ref b))
/-- the lists that are not the caller's -/
def OwR (l : Loc) (σ : St) (b : Addr) : Prop := ∃ (i : Nat) (t : T), l[i]? = some (.ow t) ∧ σ[i]? = some (some (.ref b))
structure Ex (W Z Z' : Addr → Prop) (H H' : Hp) : Prop where
  fr : ∀ b o, H b = some o → ¬ W b → H' b = some o
  up : ∀ b, Z b → Z' b
  nw : ∀ b, Z' b → Z b ∨ H b = none ∨ W b
  dm : ∀ b, W b → H' b ≠ none
  zd : ∀ b, Z' b → H' b ≠ none
/-- a list, not frozen, at b -/
def isMu : HO → Prop
  | .lst _ => True
  | .dK _ => True
  | .dT _ => True
  | _ => False
def Mu (H : Hp) (b : Addr) : Prop := ∃ u, H b = some u ∧ isMu u
structure Post (K : PySem.W.Frag) (l : Loc) (σ : St) (Z : Addr → Prop) (H : Hp) (l' : Loc) (σ' : St) (Z' : Addr → Prop) (H' : Hp) : Prop where
  al : AL K H' Z' l' σ'
  ex : Ex (W l σ) Z Z' H H'
  wn : ∀ b, W l' σ' b → W l σ b ∨ H b = none
  lk : ∀ (i : Nat) (t : T), l[i]? = some (.lk t) → l'[i]? = some (.lk t) ∧ σ'[i]? = σ[i]?
  rw : ∀ (i : Nat) (t : T), l[i]? = some (.rw t) → (∃ t', l'[i]? = some (.rw t')) ∧ σ'[i]? = σ[i]?
  fo : ∀ b, OwR l' σ' b → OwR l σ b ∨ H b = none
/-- what an expression gives, from H on -/
def VR (K : PySem.W.Frag) (H : Hp) (Z' : Addr → Prop) (H' : Hp) : Vl → V → Prop
  | .fr t, v => RF K H' Z' t v
  | .ow t, v => ∃ a, v = .ref a ∧ OA K H' Z' t a ∧ ¬ Z' a ∧ H a = none

section
variable {K : PySem.W.Frag} {H H' H1 H2 : Hp} {Z Z' Z1 Z2 W W' W1 W2 : Addr → Prop} {l l1 l2 l' : Loc} {σ σ1 σ2 σ' : St} {t : T} {ts : List T} {v : V} {vs : List V} {a b : Addr}

theorem Sl.own_of_mut {s : Sl} (h : s.mut = true) : ∃ t, s.own = some t := by
  cases s <;> first | exact ⟨_, rfl⟩ | cases h
theorem W_sub {K : PySem.W.Frag} (A : AL K H Z l σ) : ∀ b, Ir.W l σ b → Mu H b ∧ ¬ Z b := fun b ⟨i, s, h1, h2, h3⟩ => by
  obtain ⟨t, ht⟩ := Sl.own_of_mut h2
  obtain ⟨a, e, o, n⟩ := A.ow i s t h1 ht
  rw [e] at h3
  injection h3 with h3
  injection h3 with h3
  injection h3 with h3
  subst h3
  cases o with
  | lst h _ => exact ⟨⟨_, h, trivial⟩, n⟩
  | dK h _ _ _ => exact ⟨⟨_, h, trivial⟩, n⟩
  | dT h _ _ _ => exact ⟨⟨_, h, trivial⟩, n⟩
theorem Ex.refl (h : ∀ b, W b → H b ≠ none) (z : ∀ b, Z b → H b ≠ none) : Ex W Z Z H H := ⟨fun _ _ h _ => h, fun _ h => h, fun _ h => .inl h, h, z⟩
theorem Ex.back (e : Ex W Z Z' H H') {b : Addr} (h : H' b = none) : H b = none := by
  cases q : H b with
  | none => rfl
  | some o =>
    by_cases w : W b
    · exact absurd h (e.dm b w)
    · rw [e.fr b o q w] at h
      cases h
theorem Ex.trans (e : Ex W Z Z1 H H1) (f : Ex W1 Z1 Z2 H1 H2) (h : ∀ b, W1 b → W b ∨ H b = none) : Ex W Z Z2 H H2 where
  fr := fun b o q n => f.fr b o (e.fr b o q n) fun w => (h b w).elim n fun z => by rw [q] at z; cases z
  up := fun b z => f.up b (e.up b z)
  nw := fun b z => by
    rcases f.nw b z with z | z | z
    · exact e.nw b z
    · exact .inr (.inl (e.back z))
    · exact .inr ((h b z).symm.imp_right id)
  dm := fun b w q => by
    by_cases z : W1 b
    · exact f.dm b z q
    · cases r : H1 b with
      | none => exact e.dm b w r
      | some o =>
        rw [f.fr b o r z] at q
        cases q
  zd := f.zd
/-- more may be changed -/
theorem Ex.mono (e : Ex W Z Z' H H') (h : ∀ b, W b → W' b) (hd : ∀ b, W' b → H b ≠ none) : Ex W' Z Z' H H' where
  fr := fun b o q n => e.fr b o q fun w => n (h b w)
  up := e.up
  nw := fun b z => (e.nw b z).imp_right (.imp_right (h b))
  dm := fun b w q => hd b w (e.back q)
  zd := e.zd

theorem Rd.ex {u : HO} (e : Ex W Z Z' H H') (hw : ∀ b, W b → Mu H b ∧ ¬ Z b) (n : isMu u → Z a) (h : Rd H a u) : Rd H' a u := by
  rcases h with h | ⟨o, h⟩
  · refine .inl (e.fr a _ h fun w => ?_)
    obtain ⟨⟨u', q, m⟩, nz⟩ := hw a w
    rw [h] at q
    cases q
    exact nz (n m)
  · refine .inr ⟨o, e.fr a _ h fun w => ?_⟩
    obtain ⟨⟨u', q, m⟩, nz⟩ := hw a w
    rw [h] at q
    cases q
    exact m
theorem SqT.ex (e : Ex W Z Z' H H') (hw : ∀ b, W b → Mu H b ∧ ¬ Z b) (h : SqT K H a vs) : SqT K H' a vs := by
  rcases h with h | h
  · exact .inl (Rd.ex e hw (fun q => q.elim) h)
  · exact .inr h
mutual
theorem RF.ex (e : Ex W Z Z' H H') (hw : ∀ b, W b → Mu H b ∧ ¬ Z b) : ∀ {t : T} {v : V}, RF K H Z t v → RF K H' Z' t v
  | _, _, .non => .non
  | _, _, .bl b => .bl b
  | _, _, .int i => .int i
  | _, _, .str x => .str x
  | _, _, .tup h r => .tup (SqT.ex e hw h) (RFs.ex e hw r)
  | _, _, .lst h z r => .lst (Rd.ex e hw (fun _ => z) h) (e.up _ z) (RFs.ex e hw r)
  | _, _, .kls h r => .kls h (RFs.ex e hw r)
  | _, _, .dK h z q1 q2 r => .dK (Rd.ex e hw (fun _ => z) h) (e.up _ z) q1 q2 (RFs.ex e hw r)
  | _, _, .dT h z q1 q2 r => .dT (Rd.ex e hw (fun _ => z) h) (e.up _ z) q1 q2 (RFs.ex e hw r)
theorem RFs.ex (e : Ex W Z Z' H H') (hw : ∀ b, W b → Mu H b ∧ ¬ Z b) : ∀ {ts : List T} {vs : List V}, RFs K H Z ts vs → RFs K H' Z' ts vs
  | _, _, .nil => .nil
  | _, _, .cons r s => .cons (RF.ex e hw r) (RFs.ex e hw s)
end
theorem OA.ex (e : Ex W Z Z' H H') (hw : ∀ b, W b → Mu H b ∧ ¬ Z b) (n : ¬ W a) (h : OA K H Z t a) : OA K H' Z' t a := by
  cases h with
  | lst h r => exact .lst (e.fr a _ h n) (RFs.ex e hw r)
  | dK h q1 q2 r => exact .dK (e.fr a _ h n) q1 q2 (RFs.ex e hw r)
  | dT h q1 q2 r => exact .dT (e.fr a _ h n) q1 q2 (RFs.ex e hw r)
theorem OA.mu (h : OA K H Z t a) : Mu H a := by
  cases h with
  | lst h r => exact ⟨_, h, trivial⟩
  | dK h _ _ r => exact ⟨_, h, trivial⟩
  | dT h _ _ r => exact ⟨_, h, trivial⟩
theorem OA.ne (h : OA K H Z t a) : H a ≠ none := by
  obtain ⟨_, h, _⟩ := h.mu
  rw [h]
  simp
theorem Mu.ne (h : Mu H a) : H a ≠ none := by
  obtain ⟨_, h, _⟩ := h
  rw [h]
  simp

theorem RFs.length (h : RFs K H Z ts vs) : ts.length = vs.length := by
  induction ts generalizing vs with
  | nil => cases h; rfl
  | cons t ts ih => cases h with | cons _ r => simp [ih r]
theorem RFs.get (h : RFs K H Z ts vs) {i : Nat} {t : T} (e : ts[i]? = some t) : ∃ v, vs[i]? = some v ∧ RF K H Z t v := by
  induction ts generalizing vs i with
  | nil => simp at e
  | cons x ts ih =>
    cases h with
    | cons r rr =>
      cases i with
      | zero => simp at e; subst e; exact ⟨_, rfl, r⟩
      | succ i => simpa using ih rr (by simpa using e)
theorem RFs.append {us : List T} {ws : List V} (h : RFs K H Z ts vs) (g : RFs K H Z us ws) : RFs K H Z (ts ++ us) (vs ++ ws) := by
  induction ts generalizing vs with
  | nil => cases h; exact g
  | cons x ts ih => cases h with | cons r rr => exact .cons r (ih rr)
theorem RFs.take (h : RFs K H Z ts vs) (n : Nat) : RFs K H Z (ts.take n) (vs.take n) := by
  induction ts generalizing vs n with
  | nil => cases h; simp; exact .nil
  | cons x ts ih => cases h with | cons r rr => cases n with
    | zero => exact .nil
    | succ n => exact .cons r (ih rr n)
theorem RFs.drop (h : RFs K H Z ts vs) (n : Nat) : RFs K H Z (ts.drop n) (vs.drop n) := by
  induction ts generalizing vs n with
  | nil => cases h; simp; exact .nil
  | cons x ts ih => cases h with | cons r rr => cases n with
    | zero => exact .cons r rr
    | succ n => exact ih rr n
theorem RFs.set (h : RFs K H Z ts vs) {t : T} {v : V} (g : RF K H Z t v) (n : Nat) : RFs K H Z (ts.set n t) (vs.set n v) := by
  induction ts generalizing vs n with
  | nil => cases h; exact .nil
  | cons x ts ih => cases h with | cons r rr => cases n with
    | zero => exact .cons g rr
    | succ n => exact .cons r (ih rr n)
theorem RFs.dropLast (h : RFs K H Z ts vs) : RFs K H Z ts.dropLast vs.dropLast := by
  rw [List.dropLast_eq_take, List.dropLast_eq_take, ← h.length]
  exact h.take _
theorem RFs.reverse (h : RFs K H Z ts vs) : RFs K H Z ts.reverse vs.reverse := by
  induction ts generalizing vs with
  | nil => cases h; exact .nil
  | cons x ts ih => cases h with | cons r rr => simpa using (ih rr).append (.cons r .nil)
theorem RFs.eraseIdx (h : RFs K H Z ts vs) (n : Nat) : RFs K H Z (ts.eraseIdx n) (vs.eraseIdx n) := by
  rw [List.eraseIdx_eq_take_drop_succ, List.eraseIdx_eq_take_drop_succ]
  exact (h.take n).append (h.drop (n + 1))
theorem RFs.flat (h : RFs K H Z ts vs) (n : Nat) : RFs K H Z (List.replicate n ts).flatten (List.replicate n vs).flatten := by
  induction n with
  | zero => exact .nil
  | succ n ih => simpa [List.replicate_succ] using h.append ih
theorem RFs.ev2 : ∀ {ts : List T} {vs : List V}, RFs K H Z ts vs → RFs K H Z (ev2 ts) (ev2 vs)
  | _, _, .nil => .nil
  | _, _, .cons r .nil => .cons r .nil
  | _, _, .cons r (.cons _ q) => .cons r (RFs.ev2 q)
mutual
/-- what has no list in it stands at any Z -/
theorem RF.any : ∀ {t : T} {v : V}, t.pure = true → RF K H Z t v → RF K H Z' t v
  | _, _, _, .non => .non
  | _, _, _, .bl b => .bl b
  | _, _, _, .int i => .int i
  | _, _, _, .str x => .str x
  | _, _, p, .tup h r => .tup h (RFs.any (by simpa [T.pure] using p) r)
  | _, _, p, .lst h z r => by simp [T.pure] at p
  | _, _, p, .kls h r => by simp [T.pure] at p
  | _, _, p, .dK _ _ _ _ _ => by simp [T.pure] at p
  | _, _, p, .dT _ _ _ _ _ => by simp [T.pure] at p
theorem RFs.any : ∀ {ts : List T} {vs : List V}, pures ts = true → RFs K H Z ts vs → RFs K H Z' ts vs
  | _, _, _, .nil => .nil
  | _, _, p, .cons r s => by
    simp [pures] at p
    exact .cons (RF.any p.1 r) (RFs.any p.2 s)
end

/-! Posts -/
theorem Post.trans (P : Post K l σ Z H l1 σ1 Z1 H1) (Q : Post K l1 σ1 Z1 H1 l2 σ2 Z2 H2) : Post K l σ Z H l2 σ2 Z2 H2 where
  al := Q.al
  ex := P.ex.trans Q.ex P.wn
  wn := fun b w => by
    rcases Q.wn b w with w | w
    · exact P.wn b w
    · exact .inr (P.ex.back w)
  lk := fun i t h => by
    obtain ⟨h1, e1⟩ := P.lk i t h
    obtain ⟨h2, e2⟩ := Q.lk i t h1
    exact ⟨h2, e2.trans e1⟩
  rw := fun i t h => by
    obtain ⟨⟨t', h1⟩, e1⟩ := P.rw i t h
    obtain ⟨h2, e2⟩ := Q.rw i t' h1
    exact ⟨h2, e2.trans e1⟩
  fo := fun b w => by
    rcases Q.fo b w with w | w
    · exact P.fo b w
    · exact .inr (P.ex.back w)
theorem Post.refl (A : AL K H Z l σ) : Post K l σ Z H l σ Z H :=
  ⟨A, Ex.refl (fun b w => (W_sub A b w).1.ne) A.zd, fun _ w => .inl w, fun _ _ h => ⟨h, rfl⟩, fun _ t h => ⟨⟨t, h⟩, rfl⟩, fun _ w => .inl w⟩
theorem VR.ex {r : Vl} (e : Ex W Z1 Z2 H1 H2) (hw : ∀ b, W b → Mu H1 b ∧ ¬ Z1 b) (hn : ∀ b, W b → H b ≠ none) (h : VR K H Z1 H1 r v) : VR K H Z2 H2 r v := by
  cases r with
  | fr t => exact RF.ex e hw h
  | ow t =>
    obtain ⟨a, rfl, o, z, n⟩ := h
    have nw : ¬ W a := fun w => hn a w n
    refine ⟨a, rfl, o.ex e hw nw, fun z2 => ?_, n⟩
    rcases e.nw a z2 with q | q | q
    · exact z q
    · exact o.ne q
    · exact nw q
theorem VR.old {r : Vl} (e : Ex W Z Z1 H H1) (h : VR K H1 Z2 H2 r v) : VR K H Z2 H2 r v := by
  cases r with
  | fr t => exact h
  | ow t =>
    obtain ⟨a, rfl, o, z, n⟩ := h
    exact ⟨a, rfl, o, z, e.back n⟩
end
end Ir

set_option Elab.async false
set_option linter.all false
namespace Ir
open PySem L2

/-- the lists of one's own -/
def Own (l : Loc) (σ : St) (b : Addr) : Prop := ∃ (i : Nat) (s : Sl) (t : T), l[i]? = some s ∧ s.own = some t ∧ σ[i]? = some (some (.ref b))
/-- behind an expression: no other name may change its list -/
structure PostE (K : PySem.W.Frag) (l : Loc) (σ : St) (Z : Addr → Prop) (H : Hp) (l' : Loc) (Z' : Addr → Prop) (H' : Hp) : Prop where
  po : Post K l σ Z H l' σ Z' H'
  es : ∀ b, W l' σ b → W l σ b
  os : ∀ b, Own l' σ b → Own l σ b
/-! ### readings -/
/-- an expression's -/
def rE (K : PySem.W.Frag) (m : M Vl) : TE := fun σ H Q => ∃ l Z r l', AL K H Z l σ ∧ m l = some (r, l') ∧ ∀ v H' Z', PostE K l σ Z H l' Z' H' → VR K H Z' H' r v → Q v H'
def rT (K : PySem.W.Frag) (m : M Bool) : TT := fun σ H Q => ∃ l Z r l', AL K H Z l σ ∧ m l = some (r, l') ∧ ∀ H' Z', PostE K l σ Z H l' Z' H' → Q r H'
/-- an operand's value -/
def OR (K : PySem.W.Frag) (H : Hp) (Z' : Addr → Prop) (H' : Hp) (σ : St) : Op → V → Prop
  | .vl v, x => VR K H Z' H' v x
  | .pl k, x => σ[k]? = some (some x)
def rO (K : PySem.W.Frag) (m : M Op) : TE := fun σ H Q => ∃ l Z r l', AL K H Z l σ ∧ m l = some (r, l') ∧ ∀ v H' Z', PostE K l σ Z H l' Z' H' → OR K H Z' H' σ r v → Q v H'
/-- the new lists among operands -/
def roots : List Op → List V → List Addr
  | .vl (.ow _) :: os, .ref a :: vs => a :: roots os vs
  | _ :: os, _ :: vs => roots os vs
  | _, _ => []
inductive ORs (K : PySem.W.Frag) (H : Hp) (Z' : Addr → Prop) (H' : Hp) (σ : St) : List Op → List V → Prop
  | nil : ORs K H Z' H' σ [] []
  | cons {o : Op} {v : V} {os : List Op} {vs : List V} : OR K H Z' H' σ o v → ORs K H Z' H' σ os vs → ORs K H Z' H' σ (o :: os) (v :: vs)
def rOs (K : PySem.W.Frag) (m : M (List Op)) : TA := fun σ H Q => ∃ l Z r l', AL K H Z l σ ∧ m l = some (r, l') ∧ ∀ vs H' Z', PostE K l σ Z H l' Z' H' → ORs K H Z' H' σ r vs → (roots r vs).Nodup → Q vs H'
/-- what may be read of a value -/
def PK (K : PySem.W.Frag) (H : Hp) (Z : Addr → Prop) (t : T) (v : V) : Prop := RF K H Z t v ∨ ∃ a, v = .ref a ∧ OA K H Z t a
inductive PKs (K : PySem.W.Frag) (H : Hp) (Z : Addr → Prop) : List T → List V → Prop
  | nil : PKs K H Z [] []
  | cons {t : T} {v : V} {ts : List T} {vs : List V} : PK K H Z t v → PKs K H Z ts vs → PKs K H Z (t :: ts) (v :: vs)
/-- only new things come -/
abbrev Ex0 := Ex fun _ => False
/-- a primitive's reading by values -/
def rP (K : PySem.W.Frag) (p : Pr) : List V → Hp → VK → Prop := fun vs H Q => ∃ Z ts res, (∀ b, Z b → H b ≠ none) ∧ PKs K H Z ts vs ∧ prS p ts = some res ∧ ∀ v H' Z', Ex0 Z Z' H H' → VR K H Z' H' res v → Q v H'
def rP1 (K : PySem.W.Frag) (p : Pr) : V → Hp → VK → Prop := fun x H Q => rP K p [x] H Q
def rP2 (K : PySem.W.Frag) (p : Pr) : R2 := fun x y H Q => rP K p [x, y] H Q

section
variable {K : PySem.W.Frag} {H H' H1 H2 : Hp} {Z Z' Z1 Z2 : Addr → Prop} {l l1 l2 l' : Loc} {σ σ1 σ2 σ' : St} {t : T} {ts : List T} {v x y : V} {vs : List V} {a b : Addr} {o : Op} {os : List Op}

theorem _root_.L2.PE.irw {X : L2.Cx} {e : Expr} {t t' : TE} (h : PE X e t) (g : ∀ σ H Q, t' σ H Q → t σ H Q) : PE X e t' := ⟨fun pins s σ H Q I q => h.run pins s σ H Q I (g σ H Q q)⟩
theorem _root_.L2.PT.irw {X : L2.Cx} {e : Expr} {t t' : TT} (h : PT X e t) (g : ∀ σ H Q, t' σ H Q → t σ H Q) : PT X e t' := ⟨fun pins s σ H Q I q => h.run pins s σ H Q I (g σ H Q q)⟩
theorem _root_.L2.PW.irw {X : L2.Cx} {e : Expr} {t t' : TT} (h : PW X e t) (g : ∀ σ H Q, t' σ H Q → t σ H Q) : PW X e t' := ⟨fun wh pins s σ H Q I q => h.run wh pins s σ H Q I (g σ H Q q)⟩
theorem _root_.L2.PA.irw {X : L2.Cx} {e : List Expr} {t t' : TA} (h : PA X e t) (g : ∀ σ H Q, t' σ H Q → t σ H Q) : PA X e t' := ⟨fun pos pins s σ H Q I q => h.run pos pins s σ H Q I (g σ H Q q)⟩
theorem _root_.L2.PS.irw {X : L2.Cx} {e : Stmt} {t t' : TS} (h : PS X e t) (g : ∀ D σ H, t' D σ H → t D σ H) : PS X e t' := ⟨fun pins s σ H D I q => h.run pins s σ H D I (g D σ H q)⟩
theorem _root_.L2.PSs.irw {X : L2.Cx} {e : List Stmt} {t t' : TS} (h : PSs X e t) (g : ∀ D σ H, t' D σ H → t D σ H) : PSs X e t' := ⟨fun pins s σ H D I q => h.run pins s σ H D I (g D σ H q)⟩

theorem Sl.tree_own {s : Sl} {t : T} (h : slT (some s) = some t) : s = .fr t ∨ s.own = some t := by
  cases s <;> simp [slT] at h <;> subst h <;> first | exact .inl rfl | exact .inr rfl
/-- a name that holds something -/
theorem AL.val (A : AL K H Z l σ) {k : Nat} (h : slT l[k]? = some t) : ∃ v, σ[k]? = some (some v) ∧ PK K H Z t v := by
  cases e : l[k]? with
  | none => rw [e] at h; simp [slT] at h
  | some s =>
    rw [e] at h
    rcases Sl.tree_own h with rfl | q
    · obtain ⟨v, h1, h2⟩ := A.fr k t e
      exact ⟨v, h1, .inl h2⟩
    · obtain ⟨a, h1, h2, _⟩ := A.ow k s t e q
      exact ⟨_, h1, .inr ⟨a, rfl, h2⟩⟩
theorem ret_some {α : Type} {a b : α} {l l' : Loc} : ret a l = some (b, l') ↔ a = b ∧ l = l' := by
  unfold ret
  constructor
  · intro h; cases h; exact ⟨rfl, rfl⟩
  · rintro ⟨rfl, rfl⟩; rfl
theorem bind_some {α β : Type} {m : M α} {f : α → M β} {r : β} {l l' : Loc} : bind m f l = some (r, l') ↔ ∃ a l1, m l = some (a, l1) ∧ f a l1 = some (r, l') := by
  unfold bind
  constructor
  · intro h
    split at h
    · exact ⟨_, _, by assumption, h⟩
    · cases h
  · rintro ⟨a, l1, h1, h2⟩
    rw [h1]
    exact h2
theorem lift_some {α : Type} {o : Option α} {a : α} {l l' : Loc} : lift o l = some (a, l') ↔ o = some a ∧ l = l' := by
  unfold lift
  cases o with
  | none => simp
  | some b => simp

theorem Own.at (A : AL K H Z l σ) : ∀ b, Own l σ b → H b ≠ none ∧ ¬ Z b := fun b ⟨i, s, t, h1, h2, h3⟩ => by
  obtain ⟨a, e, o, n⟩ := A.ow i s t h1 h2
  rw [e] at h3
  injection h3 with h3
  injection h3 with h3
  injection h3 with h3
  subst h3
  exact ⟨o.ne, n⟩
theorem W.own {b : Addr} (h : W l σ b) : Own l σ b := by
  obtain ⟨i, s, h1, h2, h3⟩ := h
  obtain ⟨t, ht⟩ := Sl.own_of_mut h2
  exact ⟨i, s, t, h1, ht, h3⟩
/-! operands behind further steps -/
theorem OR.ex (h : OR K H Z1 H1 σ o v) (P : Post K l σ Z1 H1 l' σ Z2 H2) (A : AL K H1 Z1 l σ) (hw : ∀ b, W l σ b → H b ≠ none) : OR K H Z2 H2 σ o v := by
  cases o with
  | vl r => exact VR.ex P.ex (W_sub A) hw h
  | pl k => exact h
theorem ORs.ex (h : ORs K H Z1 H1 σ os vs) (P : Post K l σ Z1 H1 l' σ Z2 H2) (A : AL K H1 Z1 l σ) (hw : ∀ b, W l σ b → H b ≠ none) : ORs K H Z2 H2 σ os vs := by
  induction h with
  | nil => exact .nil
  | cons r _ ih => exact .cons (r.ex P A hw) ih
theorem OR.old {W : Addr → Prop} (e : Ex W Z Z1 H H1) (h : OR K H1 Z2 H2 σ o v) : OR K H Z2 H2 σ o v := by
  cases o with
  | vl r => exact VR.old e h
  | pl k => exact h
theorem ORs.old {W : Addr → Prop} (e : Ex W Z Z1 H H1) (h : ORs K H1 Z2 H2 σ os vs) : ORs K H Z2 H2 σ os vs := by
  induction h with
  | nil => exact .nil
  | cons r _ ih => exact .cons (r.old e) ih
/-- the lists that may be changed behind an expression are elder than it -/
theorem PostE.elder (P : PostE K l σ Z H l1 Z1 H1) (A : AL K H Z l σ) : ∀ b, W l1 σ b → H b ≠ none := fun b w => (W_sub A b (P.es b w)).1.ne
theorem PostE.trans (P : PostE K l σ Z H l1 Z1 H1) (Q : PostE K l1 σ Z1 H1 l2 Z2 H2) : PostE K l σ Z H l2 Z2 H2 := ⟨P.po.trans Q.po, fun b w => P.es b (Q.es b w), fun b w => P.os b (Q.os b w)⟩
theorem PostE.refl (A : AL K H Z l σ) : PostE K l σ Z H l Z H := ⟨Post.refl A, fun _ w => w, fun _ w => w⟩
theorem OR.peek (h : OR K H Z' H' σ o v) (A : AL K H' Z' l σ) (e : o.tree l = some t) : PK K H' Z' t v := by
  cases o with
  | vl r =>
    cases r with
    | fr u =>
      have e : u = t := Option.some.inj e
      subst e
      exact .inl h
    | ow u =>
      have e : u = t := Option.some.inj e
      subst e
      obtain ⟨a, rfl, o, _⟩ := h
      exact .inr ⟨a, rfl, o⟩
  | pl k =>
    obtain ⟨w, h1, h2⟩ := A.val e
    have h : σ[k]? = some (some v) := h
    rw [h] at h1
    cases h1
    exact h2
theorem ORs.peek (h : ORs K H Z' H' σ os vs) (A : AL K H' Z' l σ) : ∀ {ts : List T}, trees l os = some ts → PKs K H' Z' ts vs := by
  induction h with
  | nil => intro ts e; simp [trees] at e; subst e; exact .nil
  | cons r _ ih =>
    intro ts e
    unfold trees at e
    split at e
    · split at e
      · cases e
        exact .cons (r.peek A (by assumption)) (ih (by assumption))
      · cases e
    · cases e
end
end Ir

set_option Elab.async false
set_option linter.all false
namespace Ir
open PySem L2

section
variable {X : L2.Cx} {K : PySem.W.Frag} {H H' H1 H2 : Hp} {Z Z' Z1 Z2 : Addr → Prop} {l l1 l2 l' : Loc} {σ σ1 σ2 σ' : St} {t : T} {ts : List T} {v x y : V} {vs : List V} {a b : Addr} {o : Op} {os : List Op}

mutual
theorem RF.up (e : ∀ b, Z b → Z' b) : ∀ {t : T} {v : V}, RF K H Z t v → RF K H Z' t v
  | _, _, .non => .non
  | _, _, .bl b => .bl b
  | _, _, .int i => .int i
  | _, _, .str x => .str x
  | _, _, .tup h r => .tup h (RFs.up e r)
  | _, _, .lst h z r => .lst h (e _ z) (RFs.up e r)
  | _, _, .kls h r => .kls h (RFs.up e r)
  | _, _, .dK h z q1 q2 r => .dK h (e _ z) q1 q2 (RFs.up e r)
  | _, _, .dT h z q1 q2 r => .dT h (e _ z) q1 q2 (RFs.up e r)
theorem RFs.up (e : ∀ b, Z b → Z' b) : ∀ {ts : List T} {vs : List V}, RFs K H Z ts vs → RFs K H Z' ts vs
  | _, _, .nil => .nil
  | _, _, .cons r s => .cons (RF.up e r) (RFs.up e s)
end
theorem OA.up (e : ∀ b, Z b → Z' b) (h : OA K H Z t a) : OA K H Z' t a := by
  cases h with
  | lst h r => exact .lst h (r.up e)
  | dK h q1 q2 r => exact .dK h q1 q2 (r.up e)
  | dT h q1 q2 r => exact .dT h q1 q2 (r.up e)
/-- a list of one's own is laid down for good -/
theorem OA.rf (h : OA K H Z t a) (z : Z a) : RF K H Z t (.ref a) := by
  cases h with
  | lst h r => exact .lst (.inl h) z r
  | dK h q1 q2 r => exact .dK (.inl h) z q1 q2 r
  | dT h q1 q2 r => exact .dT (.inl h) z q1 q2 r
theorem PK.up (e : ∀ b, Z b → Z' b) (h : PK K H Z t v) : PK K H Z' t v := by
  rcases h with h | ⟨a, rfl, h⟩
  · exact .inl (h.up e)
  · exact .inr ⟨a, rfl, h.up e⟩

theorem own_inj {a b : Addr} {i : Nat} (h : σ[i]? = some (some (V.ref a))) (g : σ[i]? = some (some (V.ref b))) : a = b := by
  rw [h] at g
  injection g with g
  injection g with g
  injection g
theorem get_set {i k : Nat} {s s' : Sl} (h : (l.set k s)[i]? = some s') : (i = k ∧ k < l.length ∧ s' = s) ∨ (i ≠ k ∧ l[i]? = some s') := by
  by_cases hi : i = k
  · subst hi
    by_cases hl : i < l.length
    · rw [List.getElem?_set_self hl] at h
      cases h
      exact .inl ⟨rfl, hl, rfl⟩
    · rw [List.getElem?_eq_none (by simpa using hl)] at h
      cases h
  · rw [List.getElem?_set_ne (Ne.symm hi)] at h
    exact .inr ⟨hi, h⟩

/-- new things alone -/
theorem AL.new (A : AL K H Z l σ) (e : Ex0 Z Z' H H') : AL K H' Z' l σ := by
  have hw : ∀ b, (fun _ : Addr => False) b → Mu H b ∧ ¬ Z b := fun _ w => w.elim
  refine ⟨e.zd, A.len, fun i t h => ?_, fun i s t h1 h2 => ?_, A.dj⟩
  · obtain ⟨w, h1, h2⟩ := A.fr i t h
    exact ⟨w, h1, h2.ex e hw⟩
  · obtain ⟨a, h3, h4, h5⟩ := A.ow i s t h1 h2
    refine ⟨a, h3, h4.ex e hw (fun w => w.elim), fun z => ?_⟩
    rcases e.nw a z with z | z | z
    · exact h5 z
    · exact h4.ne z
    · exact z
theorem PostE.new (A : AL K H Z l σ) (e : Ex0 Z Z' H H') : PostE K l σ Z H l Z' H' :=
  ⟨⟨A.new e, e.mono (fun _ w => w.elim) fun b w => (W_sub A b w).1.ne, fun _ w => .inl w, fun _ _ h => ⟨h, rfl⟩, fun _ t h => ⟨⟨t, h⟩, rfl⟩, fun _ w => .inl w⟩, fun _ w => w, fun _ w => w⟩
theorem Ex0.refl (z : ∀ b, Z b → H b ≠ none) : Ex0 Z Z H H := ⟨fun _ _ h _ => h, fun _ h => h, fun _ h => .inl h, fun _ w => w.elim, z⟩
theorem Ex0.trans (e : Ex0 Z Z1 H H1) (f : Ex0 Z1 Z2 H1 H2) : Ex0 Z Z2 H H2 := Ex.trans e f fun _ w => w.elim
/-- a new object -/
theorem upd_some {p b : Addr} {u : HO} (h : b = p ∨ H b ≠ none) : upd H p u b ≠ none := by
  by_cases e : b = p
  · subst e; rw [upd_same]; simp
  · rw [upd_ne e]; exact h.resolve_left e
theorem Ex0.obj {p : Addr} {u : HO} (z : ∀ b, Z b → H b ≠ none) (n : H p = none) : Ex0 Z Z H (upd H p u) := ⟨fun b o h _ => by rw [upd_ne (ne_of_none h n)]; exact h, fun _ h => h, fun _ h => .inl h, fun _ w => w.elim, fun b q => upd_some (.inr (z b q))⟩
theorem RF.new (h : RF K H Z t v) (e : Ex0 Z Z' H H') : RF K H' Z' t v := h.ex e fun _ w => w.elim
theorem RFs.new (h : RFs K H Z ts vs) (e : Ex0 Z Z' H H') : RFs K H' Z' ts vs := h.ex e fun _ w => w.elim

/-! ### a name's value given away -/
theorem take_post {k : Nat} (A : AL K H Z l σ) (e : take k l = some (t, l')) : ∃ v Z', σ[k]? = some (some v) ∧ PostE K l σ Z H l' Z' H ∧ RF K H Z' t v := by
  unfold Ir.take at e
  split at e
  · rename_i u hu
    cases e
    obtain ⟨v, h1, h2⟩ := A.fr k t hu
    exact ⟨v, Z, h1, PostE.refl A, h2⟩
  · rename_i u hu
    cases e
    obtain ⟨a, h1, h2, h3⟩ := A.ow k _ t hu rfl
    have hmut : W l σ a := ⟨k, _, hu, rfl, h1⟩
    have up : ∀ b, Z b → (Z b ∨ b = a) := fun b h => .inl h
    have zd : ∀ b, (Z b ∨ b = a) → H b ≠ none := fun b z => z.elim (A.zd b) fun e => by subst e; exact h2.ne
    refine ⟨_, fun b => Z b ∨ b = a, h1, ⟨⟨⟨zd, by simpa using A.len, fun i u h => ?_, fun i s u g1 g2 => ?_, fun i j s s' u u' c g1 g2 g3 g4 g5 g6 => ?_⟩, ⟨fun _ _ h _ => h, up, fun b z => ?_, fun b w => (W_sub A b w).1.ne, zd⟩, fun b w => ?_, fun i u h => ?_, fun i u h => ?_, fun b w => .inl ?_⟩, fun b w => ?_, fun b w => ?_⟩, (h2.up up).rf (.inr rfl)⟩
    · rcases get_set h with ⟨rfl, _, q⟩ | ⟨_, q⟩
      · cases q
        exact ⟨_, h1, (h2.up up).rf (.inr rfl)⟩
      · obtain ⟨w, e1, e2⟩ := A.fr i u q
        exact ⟨w, e1, e2.up up⟩
    · rcases get_set g1 with ⟨rfl, _, q⟩ | ⟨n, q⟩
      · subst q; cases g2
      · obtain ⟨c, e1, e2, e3⟩ := A.ow i s u q g2
        refine ⟨c, e1, e2.up up, fun z => ?_⟩
        rcases z with z | rfl
        · exact e3 z
        · exact n (A.dj i k s _ u t c q g2 hu rfl e1 h1)
    · rcases get_set g1 with ⟨rfl, _, q⟩ | ⟨n, q⟩
      · subst q; cases g2
      · rcases get_set g3 with ⟨rfl, _, q'⟩ | ⟨n', q'⟩
        · subst q'; cases g4
        · exact A.dj i j s s' u u' c q g2 q' g4 g5 g6
    · rcases z with z | rfl
      · exact .inl z
      · exact .inr (.inr hmut)
    · obtain ⟨i, s, g1, g2, g3⟩ := w
      rcases get_set g1 with ⟨rfl, _, q⟩ | ⟨n, q⟩
      · subst q; cases g2
      · exact .inl ⟨i, s, q, g2, g3⟩
    · by_cases hi : i = k
      · subst hi; rw [hu] at h; cases h
      · exact ⟨by rw [List.getElem?_set_ne (Ne.symm hi)]; exact h, rfl⟩
    · by_cases hi : i = k
      · subst hi; rw [hu] at h; cases h
      · exact ⟨⟨u, by rw [List.getElem?_set_ne (Ne.symm hi)]; exact h⟩, rfl⟩
    · obtain ⟨i, u, g1, g3⟩ := w
      rcases get_set g1 with ⟨rfl, _, q⟩ | ⟨n, q⟩
      · cases q
      · exact ⟨i, u, q, g3⟩
    · obtain ⟨i, s, g1, g2, g3⟩ := w
      rcases get_set g1 with ⟨rfl, _, q⟩ | ⟨n, q⟩
      · subst q; cases g2
      · exact ⟨i, s, q, g2, g3⟩
    · obtain ⟨i, s, u, g1, g2, g3⟩ := w
      rcases get_set g1 with ⟨rfl, _, q⟩ | ⟨n, q⟩
      · subst q; cases g2
      · exact ⟨i, s, u, q, g2, g3⟩
  · cases e

/-- a list of one's own gets other items -/
theorem put_post {k : Nat} {us : List T} {ws : List V} (A : AL K H Z l σ) (e : put k (.lst us) l = some ((), l')) (ha : σ[k]? = some (some (.ref a))) (r : RFs K H Z us ws) : PostE K l σ Z H l' Z (upd H a (.lst ws)) := by
  have key : ∀ (s s' : Sl) (t0 : T), l[k]? = some s → s.own = some t0 → s.mut = true → s'.own = some (.lst us) → s'.mut = true → (∀ u, s ≠ .lk u) → (∀ u, s = .rw u → ∃ u', s' = .rw u') → l' = l.set k s' → PostE K l σ Z H l' Z (upd H a (.lst ws)) := by
    intro s s' t0 hk ho hm ho' hm' hl hrw e
    subst e
    obtain ⟨c, h1, h2, h3⟩ := A.ow k s t0 hk ho
    obtain rfl := own_inj ha h1
    have hw : ∀ b, b = a → Mu H b ∧ ¬ Z b := fun b e => by subst e; exact ⟨h2.mu, h3⟩
    have ex : Ex (fun b => b = a) Z Z H (upd H a (.lst ws)) := ⟨fun b o h n => by rw [upd_ne n]; exact h, fun _ h => h, fun _ h => .inl h, fun b e => by subst e; rw [upd_same]; simp, fun b z => upd_some (.inr (A.zd b z))⟩
    have ns : (l.set k s')[k]? = some s' := by
      rw [List.getElem?_set_self (List.getElem?_eq_some_iff.mp hk).1]
    refine ⟨⟨⟨ex.zd, by simpa using A.len, fun i u h => ?_, fun i q u g1 g2 => ?_, fun i j q q' u u' c g1 g2 g3 g4 g5 g6 => ?_⟩, ex.mono (fun b e => by subst e; exact ⟨k, s, hk, hm, h1⟩) fun b w => (W_sub A b w).1.ne, fun b w => .inl ?_, fun i u h => ?_, fun i u h => ?_, fun b w => .inl ?_⟩, fun b w => ?_, fun b w => ?_⟩
    · rcases get_set h with ⟨rfl, _, q⟩ | ⟨_, q⟩
      · rw [← q] at ho'; cases ho'
      · obtain ⟨w, e1, e2⟩ := A.fr i u q
        exact ⟨w, e1, e2.ex ex hw⟩
    · rcases get_set g1 with ⟨rfl, _, z⟩ | ⟨n, z⟩
      · subst z
        rw [ho'] at g2
        cases g2
        exact ⟨a, ha, .lst upd_same (r.ex ex hw), h3⟩
      · obtain ⟨c, e1, e2, e3⟩ := A.ow i q u z g2
        refine ⟨c, e1, e2.ex ex hw fun e => ?_, e3⟩
        subst e
        exact n (A.dj i k q s u t0 c z g2 hk ho e1 ha)
    · rcases get_set g1 with ⟨rfl, _, z⟩ | ⟨n, z⟩
      · rcases get_set g3 with ⟨rfl, _, z'⟩ | ⟨n', z'⟩
        · rfl
        · exact A.dj i j s q' t0 u' c hk ho z' g4 g5 g6
      · rcases get_set g3 with ⟨rfl, _, z'⟩ | ⟨n', z'⟩
        · exact A.dj i j q s u t0 c z g2 hk ho g5 g6
        · exact A.dj i j q q' u u' c z g2 z' g4 g5 g6
    · obtain ⟨i, q, g1, g2, g3⟩ := w
      rcases get_set g1 with ⟨rfl, _, z⟩ | ⟨n, z⟩
      · exact ⟨i, s, hk, hm, g3⟩
      · exact ⟨i, q, z, g2, g3⟩
    · by_cases hi : i = k
      · subst hi; rw [hk] at h; cases h; exact absurd rfl (hl u)
      · exact ⟨by rw [List.getElem?_set_ne (Ne.symm hi)]; exact h, rfl⟩
    · by_cases hi : i = k
      · subst hi
        rw [hk] at h
        cases h
        obtain ⟨u', e⟩ := hrw u rfl
        exact ⟨⟨u', by rw [ns, e]⟩, rfl⟩
      · exact ⟨⟨u, by rw [List.getElem?_set_ne (Ne.symm hi)]; exact h⟩, rfl⟩
    · obtain ⟨i, u, g1, g3⟩ := w
      rcases get_set g1 with ⟨rfl, _, z⟩ | ⟨n, z⟩
      · subst z
        cases s with
        | ow u' => exact ⟨i, u', hk, g3⟩
        | rw u' => obtain ⟨u2, e⟩ := hrw u' rfl; cases e
        | _ => cases hm
      · exact ⟨i, u, z, g3⟩
    · obtain ⟨i, q, g1, g2, g3⟩ := w
      rcases get_set g1 with ⟨rfl, _, z⟩ | ⟨n, z⟩
      · exact ⟨i, s, hk, hm, g3⟩
      · exact ⟨i, q, z, g2, g3⟩
    · obtain ⟨i, q, u, g1, g2, g3⟩ := w
      rcases get_set g1 with ⟨rfl, _, z⟩ | ⟨n, z⟩
      · exact ⟨i, s, t0, hk, ho, g3⟩
      · exact ⟨i, q, u, z, g2, g3⟩
  unfold Ir.put at e
  split at e
  · rename_i u hu
    cases e
    exact key _ _ _ hu rfl rfl rfl rfl (fun u q => by cases q) (fun u q => by cases q) rfl
  · rename_i u hu
    cases e
    exact key _ _ _ hu rfl rfl rfl rfl (fun u q => by cases q) (fun u q => ⟨_, rfl⟩) rfl
  · cases e
/-- a thing of one's own is changed -/
theorem put_postG {k : Nat} {t : T} {u : HO} (A : AL K H Z l σ) (e : put k t l = some ((), l')) (ha : σ[k]? = some (some (.ref a))) (r : Ex (fun b => b = a) Z Z H (upd H a u) → (∀ b, b = a → Mu H b ∧ ¬ Z b) → OA K (upd H a u) Z t a) : PostE K l σ Z H l' Z (upd H a u) := by
  have key : ∀ (s s' : Sl) (t0 : T), l[k]? = some s → s.own = some t0 → s.mut = true → s'.own = some t → s'.mut = true → (∀ u, s ≠ .lk u) → (∀ u, s = .rw u → ∃ u', s' = .rw u') → l' = l.set k s' → PostE K l σ Z H l' Z (upd H a u) := by
    intro s s' t0 hk ho hm ho' hm' hl hrw e
    subst e
    obtain ⟨c, h1, h2, h3⟩ := A.ow k s t0 hk ho
    obtain rfl := own_inj ha h1
    have hw : ∀ b, b = a → Mu H b ∧ ¬ Z b := fun b e => by subst e; exact ⟨h2.mu, h3⟩
    have ex : Ex (fun b => b = a) Z Z H (upd H a u) := ⟨fun b o h n => by rw [upd_ne n]; exact h, fun _ h => h, fun _ h => .inl h, fun b e => by subst e; rw [upd_same]; simp, fun b z => upd_some (.inr (A.zd b z))⟩
    have ns : (l.set k s')[k]? = some s' := by
      rw [List.getElem?_set_self (List.getElem?_eq_some_iff.mp hk).1]
    refine ⟨⟨⟨ex.zd, by simpa using A.len, fun i u h => ?_, fun i q u g1 g2 => ?_, fun i j q q' u u' c g1 g2 g3 g4 g5 g6 => ?_⟩, ex.mono (fun b e => by subst e; exact ⟨k, s, hk, hm, h1⟩) fun b w => (W_sub A b w).1.ne, fun b w => .inl ?_, fun i u h => ?_, fun i u h => ?_, fun b w => .inl ?_⟩, fun b w => ?_, fun b w => ?_⟩
    · rcases get_set h with ⟨rfl, _, q⟩ | ⟨_, q⟩
      · rw [← q] at ho'; cases ho'
      · obtain ⟨w, e1, e2⟩ := A.fr i u q
        exact ⟨w, e1, e2.ex ex hw⟩
    · rcases get_set g1 with ⟨rfl, _, z⟩ | ⟨n, z⟩
      · subst z
        rw [ho'] at g2
        cases g2
        exact ⟨a, ha, r ex hw, h3⟩
      · obtain ⟨c, e1, e2, e3⟩ := A.ow i q u z g2
        refine ⟨c, e1, e2.ex ex hw fun e => ?_, e3⟩
        subst e
        exact n (A.dj i k q s u t0 c z g2 hk ho e1 ha)
    · rcases get_set g1 with ⟨rfl, _, z⟩ | ⟨n, z⟩
      · rcases get_set g3 with ⟨rfl, _, z'⟩ | ⟨n', z'⟩
        · rfl
        · exact A.dj i j s q' t0 u' c hk ho z' g4 g5 g6
      · rcases get_set g3 with ⟨rfl, _, z'⟩ | ⟨n', z'⟩
        · exact A.dj i j q s u t0 c z g2 hk ho g5 g6
        · exact A.dj i j q q' u u' c z g2 z' g4 g5 g6
    · obtain ⟨i, q, g1, g2, g3⟩ := w
      rcases get_set g1 with ⟨rfl, _, z⟩ | ⟨n, z⟩
      · exact ⟨i, s, hk, hm, g3⟩
      · exact ⟨i, q, z, g2, g3⟩
    · by_cases hi : i = k
      · subst hi; rw [hk] at h; cases h; exact absurd rfl (hl u)
      · exact ⟨by rw [List.getElem?_set_ne (Ne.symm hi)]; exact h, rfl⟩
    · by_cases hi : i = k
      · subst hi
        rw [hk] at h
        cases h
        obtain ⟨u', e⟩ := hrw u rfl
        exact ⟨⟨u', by rw [ns, e]⟩, rfl⟩
      · exact ⟨⟨u, by rw [List.getElem?_set_ne (Ne.symm hi)]; exact h⟩, rfl⟩
    · obtain ⟨i, u, g1, g3⟩ := w
      rcases get_set g1 with ⟨rfl, _, z⟩ | ⟨n, z⟩
      · subst z
        cases s with
        | ow u' => exact ⟨i, u', hk, g3⟩
        | rw u' => obtain ⟨u2, e⟩ := hrw u' rfl; cases e
        | _ => cases hm
      · exact ⟨i, u, z, g3⟩
    · obtain ⟨i, q, g1, g2, g3⟩ := w
      rcases get_set g1 with ⟨rfl, _, z⟩ | ⟨n, z⟩
      · exact ⟨i, s, hk, hm, g3⟩
      · exact ⟨i, q, z, g2, g3⟩
    · obtain ⟨i, q, u, g1, g2, g3⟩ := w
      rcases get_set g1 with ⟨rfl, _, z⟩ | ⟨n, z⟩
      · exact ⟨i, s, t0, hk, ho, g3⟩
      · exact ⟨i, q, u, z, g2, g3⟩
  unfold Ir.put at e
  split at e
  · rename_i u hu
    cases e
    exact key _ _ _ hu rfl rfl rfl rfl (fun u q => by cases q) (fun u q => by cases q) rfl
  · rename_i u hu
    cases e
    exact key _ _ _ hu rfl rfl rfl rfl (fun u q => by cases q) (fun u q => ⟨_, rfl⟩) rfl
  · cases e
theorem own_get {k : Nat} (e : own k l = some (t, l')) : l' = l ∧ ∃ s, l[k]? = some s ∧ s.own = some t ∧ s.mut = true := by
  unfold Ir.own at e
  split at e
  · rename_i u hu
    cases e
    exact ⟨rfl, _, hu, rfl, rfl⟩
  · rename_i u hu
    cases e
    exact ⟨rfl, _, hu, rfl, rfl⟩
  · cases e
end
end Ir

set_option Elab.async false
set_option linter.all false
namespace Ir
open PySem L2

section
variable {X : L2.Cx} {K : PySem.W.Frag} {H H' H1 H2 : Hp} {Z Z' Z1 Z2 : Addr → Prop} {l l1 l2 l' : Loc} {σ σ1 σ2 σ' : St} {t : T} {ts : List T} {v x y : V} {vs : List V} {a b : Addr} {o : Op} {os : List Op} {e e2 : Expr} {es : List Expr} {pos : Pos}

/-! ### names and operands -/
theorem pO_var {k : Nat} {nm : Str} (h : PE X e (tVar k)) {m : M Vl} : PE X e (rO X.K (opO (.var k) m)) := h.irw fun σ H Q ⟨l, Z, r, l', A, e, q⟩ => by
  unfold opO at e
  simp only at e
  split at e
  · cases e
    obtain ⟨v, h1, _⟩ := A.val (by assumption)
    exact ⟨v, h1, q v H Z (PostE.refl A) h1⟩
  · cases e
theorem pE_var {k : Nat} (h : PE X e (tVar k)) : PE X e (rE X.K (bind (take k) fun t => ret (.fr t))) := h.irw fun σ H Q ⟨l, Z, r, l', A, e, q⟩ => by
  obtain ⟨t, l1, e1, e2⟩ := bind_some.mp e
  obtain ⟨rfl, rfl⟩ := ret_some.mp e2
  obtain ⟨v, Z', h1, h2, h3⟩ := take_post A e1
  exact ⟨v, h1, q v H Z' h2 h3⟩
theorem opO_bind {c : E} {m : M Vl} (h : ∀ k, c ≠ .var k) : opO c m = bind m fun v => ret (.vl v) := by
  cases c <;> first | rfl | exact absurd rfl (h _)
theorem pO_val {c : E} {m : M Vl} (hc : ∀ k, c ≠ .var k) (h : PE X e (rE X.K m)) : PE X e (rO X.K (opO c m)) := h.irw fun σ H Q ⟨l, Z, r, l', A, e, q⟩ => by
  rw [opO_bind hc] at e
  obtain ⟨v, l1, e1, e2⟩ := bind_some.mp e
  obtain ⟨rfl, rfl⟩ := ret_some.mp e2
  exact ⟨l, Z, v, _, A, e1, fun w H' Z' P R => q w H' Z' P R⟩
/-- constants -/
theorem pE_con (h : PE X e (tC v)) (r : ∀ H Z, RF X.K H Z t v) : PE X e (rE X.K (ret (.fr t))) := h.irw fun σ H Q ⟨l, Z, r', l', A, e, q⟩ => by
  obtain ⟨rfl, rfl⟩ := ret_some.mp e
  exact q v H Z (PostE.refl A) (r H Z)

/-! ### lists of operands -/
theorem roots_new {W : Addr → Prop} (h : ORs K H1 Z2 H2 σ os vs) : ∀ a ∈ roots os vs, H1 a = none := by
  induction h with
  | nil => intro a h; cases h
  | cons r _ ih =>
    intro a h
    rename_i o v os vs _
    cases o with
    | pl k => exact ih a (by simpa [roots] using h)
    | vl u =>
      cases u with
      | fr t => exact ih a (by simpa [roots] using h)
      | ow t =>
        obtain ⟨c, rfl, o, z, n⟩ := r
        rcases List.mem_cons.mp (by simpa [roots] using h) with rfl | h
        · exact n
        · exact ih a h
theorem pOs_nil : PA X [] (rOs X.K (ret [])) := pa_nil.irw fun σ H Q ⟨l, Z, r, l', A, e, q⟩ => by
  obtain ⟨rfl, rfl⟩ := ret_some.mp e
  exact q [] H Z (PostE.refl A) .nil .nil
theorem pOs_cons {m : M Op} {n : M (List Op)} (ha : PE X e (rO X.K m)) (hb : PA X es (rOs X.K n)) (hs : starEach (e :: es) X.env = (false, eval e X.env) :: starEach es X.env) :
    PA X (e :: es) (rOs X.K (bind m fun o => bind n fun os => ret (o :: os))) := (pa_cons ha hb hs).irw fun σ H Q ⟨l, Z, r, l', A, e, q⟩ => by
  obtain ⟨o, l1, e1, e2⟩ := bind_some.mp e
  obtain ⟨os, l2, e3, e4⟩ := bind_some.mp e2
  obtain ⟨rfl, rfl⟩ := ret_some.mp e4
  refine ⟨l, Z, o, l1, A, e1, fun v H1 Z1 P1 R1 => ⟨l1, Z1, os, l2, P1.po.al, e3, fun vs H2 Z2 P2 R2 nd => ?_⟩⟩
  have R1' : OR X.K H Z2 H2 σ o v := R1.ex P2.po P1.po.al (P1.elder A)
  refine q _ H2 Z2 (P1.trans P2) (.cons R1' (R2.old P1.po.ex)) ?_
  cases o with
  | pl k => simpa [roots] using nd
  | vl u =>
    cases u with
    | fr t => simpa [roots] using nd
    | ow t =>
      obtain ⟨c, rfl, oa, z, nn⟩ := R1
      show (c :: roots os vs).Nodup
      refine List.nodup_cons.mpr ⟨fun hm => ?_, nd⟩
      exact oa.ne (roots_new (W := fun _ => False) R2 c hm)

/-! ### primitives -/
theorem rP_use {p : Pr} {res : Vl} {Q : VK} (A : AL K H' Z' l' σ) (P : PostE K l σ Z H l' Z' H') (R : ORs K H Z' H' σ os vs) (e1 : trees l' os = some ts) (e2 : prS p ts = some res)
    (q : ∀ v H2 Z2, PostE K l σ Z H l' Z2 H2 → VR K H Z2 H2 res v → Q v H2) : rP K p vs H' Q :=
  ⟨Z', ts, res, A.zd, R.peek A e1, e2, fun v H2 Z2 ex r => q v H2 Z2 (P.trans (PostE.new A ex)) (r.old P.po.ex)⟩
theorem rP_use2 {p : Pr} {res : Vl} {Q : VK} (A : AL K H' Z' l' σ) (P : PostE K l σ Z H l' Z' H') (R : ORs K H Z' H' σ os vs) (e1 : trees l' os = some ts) (e2 : prS p ts = some res)
    (q : ∀ v H2 Z2, PostE K l σ Z H l' Z2 H2 → PostE K l' σ Z' H' l' Z2 H2 → VR K H Z2 H2 res v → Q v H2) : rP K p vs H' Q :=
  ⟨Z', ts, res, A.zd, R.peek A e1, e2, fun v H2 Z2 ex r => q v H2 Z2 (P.trans (PostE.new A ex)) (PostE.new A ex) (r.old P.po.ex)⟩
/-- the primitive applied to operands -/
def prM (p : Pr) (m : M (List Op)) : M Vl := bind m fun os => fun l => match trees l os with
  | some ts => lift (prS p ts) l
  | none => none
theorem prM_some {p : Pr} {m : M (List Op)} {r : Vl} (h : prM p m l = some (r, l')) : ∃ os ts, m l = some (os, l') ∧ trees l' os = some ts ∧ prS p ts = some r := by
  obtain ⟨os, l1, e1, e2⟩ := bind_some.mp h
  split at e2
  · obtain ⟨h1, rfl⟩ := lift_some.mp e2
    exact ⟨os, _, e1, by assumption, h1⟩
  · cases e2
/-- by an argument list -/
theorem rP_args {p : Pr} {m : M (List Op)} {Q : VK} (h : rE K (prM p m) σ H Q) : rOs K m σ H (fun vs H1 => rP K p vs H1 Q) := by
  obtain ⟨l, Z, r, l', A, e, q⟩ := h
  obtain ⟨os, ts, e1, e2, e3⟩ := prM_some e
  exact ⟨l, Z, os, l', A, e1, fun vs H1 Z1 P R _ => rP_use P.po.al P R e2 e3 fun v H2 Z2 P2 r2 => q v H2 Z2 P2 r2⟩
/-- one operand -/
theorem rP_one {p : Pr} {m : M Op} {Q : VK} (h : rE K (prM p (bind m fun o => bind (ret []) fun os => ret (o :: os))) σ H Q) : rO K m σ H (fun x H1 => rP K p [x] H1 Q) := by
  obtain ⟨l, Z, r, l', A, e, q⟩ := h
  obtain ⟨os, ts, e1, e2, e3⟩ := prM_some e
  obtain ⟨o, l1, g1, g2⟩ := bind_some.mp e1
  obtain ⟨_, _, g3, g4⟩ := bind_some.mp g2
  obtain ⟨rfl, rfl⟩ := ret_some.mp g3
  obtain ⟨rfl, rfl⟩ := ret_some.mp g4
  exact ⟨l, Z, o, _, A, g1, fun v H1 Z1 P R => rP_use P.po.al P (.cons R .nil) e2 e3 fun v H2 Z2 P2 r2 => q v H2 Z2 P2 r2⟩
/-- two operands -/
theorem rP_two {p : Pr} {m n : M Op} {Q : VK} (h : rE K (prM p (bind m fun o => bind (bind n fun o => bind (ret []) fun os => ret (o :: os)) fun os => ret (o :: os))) σ H Q) :
    rO K m σ H (fun x H1 => rO K n σ H1 (fun y H2 => rP K p [x, y] H2 Q)) := by
  obtain ⟨l, Z, r, l', A, e, q⟩ := h
  obtain ⟨os, ts, e1, e2, e3⟩ := prM_some e
  obtain ⟨o, l1, g1, g2⟩ := bind_some.mp e1
  obtain ⟨_, _, g3, g4⟩ := bind_some.mp g2
  obtain ⟨o2, l2, g5, g6⟩ := bind_some.mp g3
  obtain ⟨_, _, g7, g8⟩ := bind_some.mp g6
  obtain ⟨rfl, rfl⟩ := ret_some.mp g7
  obtain ⟨rfl, rfl⟩ := ret_some.mp g8
  obtain ⟨rfl, rfl⟩ := ret_some.mp g4
  refine ⟨l, Z, o, l1, A, g1, fun v H1 Z1 P R => ⟨l1, Z1, o2, _, P.po.al, g5, fun w H2 Z2 P2 R2 => ?_⟩⟩
  have R' : OR K H Z2 H2 σ o v := R.ex P2.po P.po.al (P.elder A)
  exact rP_use P2.po.al (P.trans P2) (.cons R' (.cons (R2.old P.po.ex) .nil)) e2 e3 fun v H2 Z2 P2 r2 => q v H2 Z2 P2 r2
theorem pP_bin {p : Pr} {op : Operator} {m n : M Op} (ho : OpR X (binaryOp op) (rP2 X.K p)) (ha : PE X e (rO X.K m)) (hb : PE X e2 (rO X.K n)) :
    PE X (.BinOp e op e2 pos) (rE X.K (prM p (bind m fun o => bind (bind n fun o => bind (ret []) fun os => ret (o :: os)) fun os => ret (o :: os)))) := (pe_op ho ha hb).irw fun σ H Q h => rP_two h
theorem pP_cmp {p : Pr} {op : CmpOp} {m n : M Op} (ho : OpR X (compareOp op) (rP2 X.K p)) (ha : PE X e (rO X.K m)) (hb : PE X e2 (rO X.K n)) (hm : behindInMarks op e2 = false) :
    PE X (.Compare e [op] [e2] pos) (rE X.K (prM p (bind m fun o => bind (bind n fun o => bind (ret []) fun os => ret (o :: os)) fun os => ret (o :: os)))) := (pe_cmpR ho ha hb hm).irw fun σ H Q h => rP_two h
theorem pP_un {p : Pr} {op : UnaryOp} {m : M Op} (ho : UnR X (unaryOp op) (rP1 X.K p)) (ha : PE X e (rO X.K m)) :
    PE X (.UnaryOp op e pos) (rE X.K (prM p (bind m fun o => bind (ret []) fun os => ret (o :: os)))) := (pe_un ho ha).irw fun σ H Q h => rP_one h
theorem pP_ix {p : Pr} {m n : M Op} (ho : IxR X (rP2 X.K p)) (ha : PE X e (rO X.K m)) (hb : PE X e2 (rO X.K n)) (hs : PlainIx e2) :
    PE X (.Subscript e e2 pos) (rE X.K (prM p (bind m fun o => bind (bind n fun o => bind (ret []) fun os => ret (o :: os)) fun os => ret (o :: os)))) := (pe_ix ho ha hb hs).irw fun σ H Q h => rP_two h

/-! ### and, or, not, if else -/
theorem truth_some {r : Vl} {c : Bool} (h : truth r l = some (c, l')) : r = .fr (.bl c) ∧ l = l' := by
  unfold truth at h
  split at h
  · obtain ⟨rfl, rfl⟩ := ret_some.mp h
    exact ⟨rfl, rfl⟩
  · cases h
theorem rE_truth {m : M Vl} {R : Bool → Hp → Prop} (h : rT K (bind m truth) σ H R) : rE K m σ H (fun x H1 => ∃ c, x = .bl c ∧ R c H1) := by
  obtain ⟨l, Z, r, l', A, e, q⟩ := h
  obtain ⟨w, l1, e1, e2⟩ := bind_some.mp e
  obtain ⟨rfl, rfl⟩ := truth_some e2
  refine ⟨l, Z, _, _, A, e1, fun v H' Z' P R => ?_⟩
  cases R
  exact ⟨r, rfl, q H' Z' P⟩
/-- a test, then what hangs on it -/
theorem rE_if {m : M Bool} {f : Bool → M Vl} {Q : VK} (h : rE K (bind m f) σ H Q) : rT K m σ H (fun c H1 => rE K (f c) σ H1 Q) := by
  obtain ⟨l, Z, r, l', A, e, q⟩ := h
  obtain ⟨c, l1, e1, e2⟩ := bind_some.mp e
  refine ⟨l, Z, c, l1, A, e1, fun H1 Z1 P => ⟨l1, Z1, r, l', P.po.al, e2, fun v H2 Z2 P2 R => q v H2 Z2 (P.trans P2) (R.old P.po.ex)⟩⟩
theorem rE_ret {t : T} {Q : VK} (h : rE K (ret (.fr t)) σ H Q) (r : ∀ H Z, RF K H Z t v) : Q v H := by
  obtain ⟨l, Z, r', l', A, e, q⟩ := h
  obtain ⟨rfl, rfl⟩ := ret_some.mp e
  exact q v H Z (PostE.refl A) (r H Z)
theorem rT_ret {c : Bool} {Q : Bool → Hp → Prop} (h : rT K (ret c) σ H Q) : Q c H := by
  obtain ⟨l, Z, r', l', A, e, q⟩ := h
  obtain ⟨rfl, rfl⟩ := ret_some.mp e
  exact q H Z (PostE.refl A)
theorem rT_if {m : M Bool} {f : Bool → M Bool} {Q : Bool → Hp → Prop} (h : rT K (bind m f) σ H Q) : rT K m σ H (fun c H1 => rT K (f c) σ H1 Q) := by
  obtain ⟨l, Z, r, l', A, e, q⟩ := h
  obtain ⟨c, l1, e1, e2⟩ := bind_some.mp e
  refine ⟨l, Z, c, l1, A, e1, fun H1 Z1 P => ⟨l1, Z1, r, l', P.po.al, e2, fun H2 Z2 P2 => q H2 Z2 (P.trans P2)⟩⟩
theorem bind_assoc {α β γ : Type} (m : M α) (f : α → M β) (g : β → M γ) : bind (bind m f) g = bind m fun a => bind (f a) g := by
  funext l
  unfold bind
  cases m l <;> rfl
end
end Ir

set_option Elab.async false
set_option linter.all false
namespace Ir
open PySem L2

/-! ### what a def promises -/
inductive AR (K : PySem.W.Frag) (H : Hp) (Z : Addr → Prop) : List Bool → List T → List V → Prop
  | nil : AR K H Z [] [] []
  | ro {t : T} {v : V} {bs : List Bool} {ts : List T} {vs : List V} : RF K H Z t v → AR K H Z bs ts vs → AR K H Z (false :: bs) (t :: ts) (v :: vs)
  | rw {t : T} {a : Addr} {bs : List Bool} {ts : List T} {vs : List V} : OA K H Z t a → ¬ Z a → AR K H Z bs ts vs → AR K H Z (true :: bs) (t :: ts) (.ref a :: vs)
inductive FR (K : PySem.W.Frag) (H : Hp) (Z : Addr → Prop) : List Bool → List T → List V → Prop
  | nil : FR K H Z [] [] []
  | ro {v : V} {bs : List Bool} {ts : List T} {vs : List V} : FR K H Z bs ts vs → FR K H Z (false :: bs) ts (v :: vs)
  | rw {t : T} {a : Addr} {bs : List Bool} {ts : List T} {vs : List V} : OA K H Z t a → ¬ Z a → FR K H Z bs ts vs → FR K H Z (true :: bs) (t :: ts) (.ref a :: vs)
def lroots : List Bool → List V → List Addr
  | true :: bs, .ref a :: vs => a :: lroots bs vs
  | _ :: bs, _ :: vs => lroots bs vs
  | _, _ => []
def spF (K : PySem.W.Frag) (call : List T → Option (Vl × List T)) (rw : List Bool) : Sp := fun vs H Q _ => ∃ ts r fin Z, (∀ b, Z b → H b ≠ none) ∧ call ts = some (r, fin) ∧ AR K H Z rw ts vs ∧ (lroots rw vs).Nodup ∧
  ∀ v H' Z', Ex (fun b => b ∈ lroots rw vs) Z Z' H H' → FR K H' Z' rw fin vs → VR K H Z' H' r v → Q v H'

section
variable {X : L2.Cx} {K : PySem.W.Frag} {H H0 H' H1 H2 : Hp} {Z Z0 Z' Z1 Z2 S : Addr → Prop} {l l0 l1 l2 l' : Loc} {σ σ1 σ2 σ' : St} {t : T} {ts fin : List T} {v x y : V} {vs : List V} {a b : Addr} {o : Op} {os : List Op} {e e2 : Expr} {es : List Expr} {pos : Pos} {bs : List Bool}

theorem AR.length (h : AR K H Z bs ts vs) : vs.length = bs.length := by
  induction h with
  | nil => rfl
  | ro _ _ ih => simp [ih]
  | rw _ _ _ ih => simp [ih]
theorem AR.mu (h : AR K H Z bs ts vs) : ∀ b ∈ lroots bs vs, Mu H b ∧ ¬ Z b := by
  induction h with
  | nil => intro b h; cases h
  | ro _ _ ih => intro b h; exact ih b (by simpa [lroots] using h)
  | rw o n _ ih =>
    intro b h
    rcases List.mem_cons.mp (by simpa [lroots] using h) with rfl | h
    · exact ⟨o.mu, n⟩
    · exact ih b h
theorem nodupB_iff : ∀ {l : List Nat}, nodupB l = true → l.Nodup
  | [], _ => .nil
  | k :: ks, h => by
    unfold nodupB at h
    simp only [Bool.and_eq_true, Bool.not_eq_true'] at h
    refine List.nodup_cons.mpr ⟨fun m => ?_, nodupB_iff h.2⟩
    have := h.1
    simp at this
    exact this m

/-- the names that are shown and hold a list of one's own: no longer so -/
theorem freeze_post : ∀ {ks : List Nat} {l : Loc} {Z : Addr → Prop}, AL K H Z l σ → ∃ Z', PostE K l σ Z H (freeze ks l) Z' H
  | [], l, Z, A => ⟨Z, PostE.refl A⟩
  | k :: ks, l, Z, A => by
    unfold freeze
    split
    · rename_i t ht
      have e : take k l = some (t, l.set k (.fr t)) := by unfold Ir.take; rw [ht]
      obtain ⟨v, Z1, _, P, _⟩ := take_post A e
      obtain ⟨Z2, P2⟩ := freeze_post (ks := ks) P.po.al
      exact ⟨Z2, P.trans P2⟩
    · exact freeze_post A

/-- a new list is laid down for good -/
theorem PostE.zadd (P : PostE K l0 σ Z0 H0 l Z H) (A0 : AL K H0 Z0 l0 σ) (n : H0 a = none) (m : H a ≠ none) : PostE K l0 σ Z0 H0 l (fun b => Z b ∨ b = a) H := by
  have up : ∀ b, Z b → (Z b ∨ b = a) := fun b h => .inl h
  have A := P.po.al
  have zd : ∀ b, (Z b ∨ b = a) → H b ≠ none := fun b z => z.elim (A.zd b) fun e => by subst e; exact m
  refine ⟨⟨⟨zd, A.len, fun i t h => ?_, fun i s t h1 h2 => ?_, A.dj⟩, ⟨P.po.ex.fr, fun b z => .inl (P.po.ex.up b z), fun b z => ?_, P.po.ex.dm, zd⟩, P.po.wn, P.po.lk, P.po.rw, P.po.fo⟩, P.es, P.os⟩
  · obtain ⟨w, h1, h2⟩ := A.fr i t h
    exact ⟨w, h1, h2.up up⟩
  · obtain ⟨c, h3, h4, h5⟩ := A.ow i s t h1 h2
    refine ⟨c, h3, h4.up up, fun z => ?_⟩
    rcases z with z | rfl
    · exact h5 z
    · exact (Own.at A0 c (P.os c ⟨i, s, t, h1, h2, h3⟩)).1 n
  · rcases z with z | rfl
    · exact P.po.ex.nw b z
    · exact .inr (.inl n)
theorem VR.zadd {r : Vl} (h : VR K H0 Z H r v) (n : ∀ c, v = .ref c → c ≠ a) : VR K H0 (fun b => Z b ∨ b = a) H r v := by
  have up : ∀ b, Z b → (Z b ∨ b = a) := fun b h => .inl h
  cases r with
  | fr t => exact RF.up up h
  | ow t =>
    obtain ⟨c, rfl, o, z, m⟩ := h
    exact ⟨c, rfl, o.up up, fun q => q.elim z (n c rfl), m⟩
theorem RF.zadd (h : RF K H Z t v) : RF K H (fun b => Z b ∨ b = a) t v := h.up fun _ h => .inl h
theorem VR.give (h : VR K H0 Z H (.ow t) v) : ∃ a, v = .ref a ∧ H0 a = none ∧ H a ≠ none ∧ RF K H (fun b => Z b ∨ b = a) t v := by
  obtain ⟨a, rfl, o, z, n⟩ := h
  exact ⟨a, rfl, n, o.ne, (o.up fun _ h => .inl h).rf (.inr rfl)⟩
theorem ORs.zadd (h : ORs K H0 Z H σ os vs) (n : a ∉ roots os vs) : ORs K H0 (fun b => Z b ∨ b = a) H σ os vs := by
  induction h with
  | nil => exact .nil
  | cons r _ ih =>
    rename_i o v os vs _
    cases o with
    | pl k => exact .cons r (ih (by simpa [roots] using n))
    | vl u =>
      cases u with
      | fr t => exact .cons (RF.zadd r) (ih (by simpa [roots] using n))
      | ow t =>
        obtain ⟨c, rfl, o⟩ := r
        simp only [roots, List.mem_cons, not_or] at n
        exact .cons (VR.zadd (r := .ow t) ⟨c, rfl, o⟩ fun d e => by injection e with e; subst e; exact fun q => n.1 q.symm) (ih n.2)
/-- an operand is given away -/
theorem gives_post : ∀ {os : List Op} {vs : List V} {ts : List T} {l l' : Loc} {Z : Addr → Prop}, AL K H0 Z0 l0 σ → PostE K l0 σ Z0 H0 l Z H → ORs K H0 Z H σ os vs → (roots os vs).Nodup → gives os l = some (ts, l') →
    ∃ Z', PostE K l0 σ Z0 H0 l' Z' H ∧ RFs K H Z' ts vs ∧ ∀ b, Z b → Z' b
  | [], vs, ts, l, l', Z, A0, P, R, nd, e => by
    cases R
    obtain ⟨rfl, rfl⟩ := ret_some.mp e
    exact ⟨Z, P, .nil, fun _ h => h⟩
  | o :: os, vs, ts, l, l', Z, A0, P, R, nd, e => by
    cases R with
    | cons r rr =>
      obtain ⟨t, l1, e1, e2⟩ := bind_some.mp e
      obtain ⟨us, l2, e3, e4⟩ := bind_some.mp e2
      obtain ⟨rfl, rfl⟩ := ret_some.mp e4
      cases o with
      | pl k =>
        obtain ⟨w, Z1, h1, P1, r1⟩ := take_post P.po.al e1
        have r : σ[k]? = some (some _) := r
        rw [r] at h1
        cases h1
        have rr1 := rr.ex P1.po P.po.al (P.elder A0)
        obtain ⟨Z2, P2, r2, up⟩ := gives_post A0 (P.trans P1) rr1 (by simpa [roots] using nd) e3
        exact ⟨Z2, P2, .cons (r1.up up) r2, fun b z => up b (P1.po.ex.up b z)⟩
      | vl u =>
        obtain ⟨rfl, rfl⟩ := ret_some.mp e1
        cases u with
        | fr t =>
          obtain ⟨Z2, P2, r2, up⟩ := gives_post A0 P rr (by simpa [roots] using nd) e3
          exact ⟨Z2, P2, .cons (RF.up up r) r2, up⟩
        | ow t =>
          obtain ⟨a, rfl, n, nm, q⟩ := VR.give r
          simp only [roots, List.nodup_cons] at nd
          obtain ⟨Z2, P2, r2, up⟩ := gives_post A0 (P.zadd A0 n nm) (rr.zadd nd.1) nd.2 e3
          exact ⟨Z2, P2, .cons (q.up up) r2, fun b z => up b (.inl z)⟩

/-! ### the arguments of a call -/
/-- new lists that are shown are laid down -/
def fzT : List Bool → List Op → List Op
  | false :: bs, .vl (.ow t) :: os => .vl (.fr t) :: fzT bs os
  | _ :: bs, o :: os => o :: fzT bs os
  | _, os => os
theorem fzT_post : ∀ {bs : List Bool} {os : List Op} {vs : List V} {Z : Addr → Prop}, AL K H0 Z0 l0 σ → PostE K l0 σ Z0 H0 l Z H → ORs K H0 Z H σ os vs → (roots os vs).Nodup →
    ∃ Z', PostE K l0 σ Z0 H0 l Z' H ∧ ORs K H0 Z' H σ (fzT bs os) vs ∧ (roots (fzT bs os) vs).Nodup ∧ (∀ a ∈ roots (fzT bs os) vs, a ∈ roots os vs) ∧ (∀ b, Z b → Z' b) ∧ (∀ b, Z' b → Z b ∨ b ∈ roots os vs)
  | bs, [], vs, Z, A0, P, R, nd => by
    have e : fzT bs [] = [] := by
      cases bs with
      | nil => rfl
      | cons c _ => cases c <;> rfl
    rw [e]
    exact ⟨Z, P, R, nd, fun _ h => h, fun _ h => h, fun _ h => .inl h⟩
  | [], o :: os, vs, Z, A0, P, R, nd => ⟨Z, P, R, nd, fun _ h => h, fun _ h => h, fun _ h => .inl h⟩
  | c :: bs, o :: os, vs, Z, A0, P, R, nd => by
    cases R with
    | cons r rr =>
      have plain : ∀ {v : V} {vs : List V}, OR K H0 Z H σ o v → ORs K H0 Z H σ os vs → (∀ ws, roots (o :: os) (v :: vs) = roots os vs ∧ roots (o :: ws) (v :: vs) = roots ws vs) → (roots os vs).Nodup →
          ∃ Z', PostE K l0 σ Z0 H0 l Z' H ∧ ORs K H0 Z' H σ (o :: fzT bs os) (v :: vs) ∧ (roots (o :: fzT bs os) (v :: vs)).Nodup ∧ (∀ a ∈ roots (o :: fzT bs os) (v :: vs), a ∈ roots (o :: os) (v :: vs)) ∧ (∀ b, Z b → Z' b) ∧ (∀ b, Z' b → Z b ∨ b ∈ roots (o :: os) (v :: vs)) := by
        intro v vs r rr hr nd
        obtain ⟨Z2, P2, r2, nd2, sub, up, bk⟩ := fzT_post (bs := bs) A0 P rr nd
        rw [(hr (fzT bs os)).1, (hr (fzT bs os)).2]
        refine ⟨Z2, P2, .cons ?_ r2, nd2, sub, up, bk⟩
        cases o with
        | pl k => exact r
        | vl u =>
          cases u with
          | fr t => exact RF.up up r
          | ow t =>
            obtain ⟨a, rfl, q⟩ := r
            exfalso
            have := (hr []).2
            simp [roots] at this
      cases o with
      | pl k =>
        have e : fzT (c :: bs) (.pl k :: os) = .pl k :: fzT bs os := by cases c <;> rfl
        rw [e]
        exact plain r rr (fun ws => ⟨by simp [roots], by simp [roots]⟩) (by simpa [roots] using nd)
      | vl u =>
        cases u with
        | fr t =>
          have e : fzT (c :: bs) (.vl (.fr t) :: os) = .vl (.fr t) :: fzT bs os := by cases c <;> rfl
          rw [e]
          exact plain r rr (fun ws => ⟨by simp [roots], by simp [roots]⟩) (by simpa [roots] using nd)
        | ow t =>
          obtain ⟨a, rfl, o⟩ := r
          simp only [roots, List.nodup_cons] at nd
          cases c with
          | false =>
            obtain ⟨Z2, P2, r2, nd2, sub, up, bk⟩ := fzT_post (bs := bs) A0 (P.zadd A0 o.2.2 o.1.ne) (rr.zadd nd.1) nd.2
            refine ⟨Z2, P2, .cons ?_ r2, by simpa [roots, fzT] using nd2, fun b h => ?_, fun b z => up b (.inl z), fun b z => ?_⟩
            · exact ((o.1.up fun _ h => .inl h).rf (.inr rfl)).up up
            · simp only [roots, fzT] at h ⊢
              exact List.mem_cons_of_mem _ (sub b h)
            · rcases bk b z with (z | rfl) | z
              · exact .inl z
              · exact .inr (by simp [roots])
              · exact .inr (by simp [roots, z])
          | true =>
            obtain ⟨Z2, P2, r2, nd2, sub, up, bk⟩ := fzT_post (bs := bs) A0 P rr nd.2
            have ha : ¬ Z2 a := fun z => (bk a z).elim o.2.1 nd.1
            refine ⟨Z2, P2, .cons ⟨a, rfl, o.1.up up, ha, o.2.2⟩ r2, ?_, fun b h => ?_, up, fun b z => ?_⟩
            · simp only [roots, fzT, List.nodup_cons]
              exact ⟨fun h => nd.1 (sub a h), nd2⟩
            · simp only [roots, fzT, List.mem_cons] at h ⊢
              exact h.imp_right (sub b)
            · simp only [roots, List.mem_cons]
              exact (bk b z).imp_right .inr

theorem lent_fzT : ∀ {bs : List Bool} {os : List Op}, lent l bs (fzT bs os) = lent l bs os
  | [], os => by
    cases os <;> rfl
  | false :: bs, [] => rfl
  | true :: bs, [] => rfl
  | false :: bs, .pl k :: os => by
    show (match (Op.pl k).tree l, lent l bs (fzT bs os) with | some t, some ts => some (t :: ts) | _, _ => none) = _
    rw [lent_fzT]
    rfl
  | false :: bs, .vl (.fr t) :: os => by
    show (match (Op.vl (.fr t)).tree l, lent l bs (fzT bs os) with | some t, some ts => some (t :: ts) | _, _ => none) = _
    rw [lent_fzT]
    rfl
  | false :: bs, .vl (.ow t) :: os => by
    show (match (Op.vl (.fr t)).tree l, lent l bs (fzT bs os) with | some t, some ts => some (t :: ts) | _, _ => none) = _
    rw [lent_fzT]
    rfl
  | true :: bs, .pl k :: os => by
    show (match l[k]?, lent l bs (fzT bs os) with | some (.ow t), some ts => some (t :: ts) | some (.rw t), some ts => some (t :: ts) | _, _ => none) = _
    rw [lent_fzT]
    rfl
  | true :: bs, .vl (.fr t) :: os => rfl
  | true :: bs, .vl (.ow t) :: os => by
    show (lent l bs (fzT bs os)).map (t :: ·) = _
    rw [lent_fzT]
    rfl
theorem lents_fzT : ∀ {bs : List Bool} {os : List Op}, lents bs (fzT bs os) = lents bs os
  | [], os => by
    cases os <;> rfl
  | false :: bs, [] => rfl
  | true :: bs, [] => rfl
  | false :: bs, .pl k :: os => by simp [fzT, lents, lents_fzT]
  | false :: bs, .vl (.fr t) :: os => by simp [fzT, lents, lents_fzT]
  | false :: bs, .vl (.ow t) :: os => by simp [fzT, lents, lents_fzT]
  | true :: bs, .pl k :: os => by simp [fzT, lents, lents_fzT]
  | true :: bs, .vl (.fr t) :: os => by simp [fzT, lents, lents_fzT]
  | true :: bs, .vl (.ow t) :: os => by simp [fzT, lents, lents_fzT]
theorem shown_fzT : ∀ {bs : List Bool} {os : List Op}, shown bs (fzT bs os) = shown bs os
  | [], os => by
    cases os <;> rfl
  | false :: bs, [] => rfl
  | true :: bs, [] => rfl
  | false :: bs, .pl k :: os => by simp [fzT, shown, shown_fzT]
  | false :: bs, .vl (.fr t) :: os => by simp [fzT, shown, shown_fzT]
  | false :: bs, .vl (.ow t) :: os => by simp [fzT, shown, shown_fzT]
  | true :: bs, .pl k :: os => by simp [fzT, shown, shown_fzT]
  | true :: bs, .vl (.fr t) :: os => by simp [fzT, shown, shown_fzT]
  | true :: bs, .vl (.ow t) :: os => by simp [fzT, shown, shown_fzT]
theorem back_fzT : ∀ {bs : List Bool} {os : List Op} {ts : List T}, back bs (fzT bs os) ts = back bs os ts
  | [], os, _ => by
    cases os <;> rfl
  | false :: bs, [], _ => rfl
  | true :: bs, [], _ => rfl
  | false :: bs, .pl k :: os, _ => by simp [fzT, back, back_fzT]
  | false :: bs, .vl (.fr t) :: os, _ => by simp [fzT, back, back_fzT]
  | false :: bs, .vl (.ow t) :: os, _ => by simp [fzT, back, back_fzT]
  | true :: bs, .pl k :: os, [] => by simp [fzT, back]
  | true :: bs, .vl (.fr t) :: os, [] => by simp [fzT, back]
  | true :: bs, .vl (.ow t) :: os, [] => by simp [fzT, back]
  | true :: bs, .pl k :: os, _ :: _ => by simp [fzT, back, back_fzT]
  | true :: bs, .vl (.fr t) :: os, _ :: _ => by simp [fzT, back, back_fzT]
  | true :: bs, .vl (.ow t) :: os, _ :: _ => by simp [fzT, back, back_fzT]

/-- the lists of one's own that are shown -/
def SR (l : Loc) (σ : St) (bs : List Bool) (os : List Op) (b : Addr) : Prop := ∃ (k : Nat) (s : Sl) (t : T), k ∈ shown bs os ∧ l[k]? = some s ∧ s.own = some t ∧ σ[k]? = some (some (.ref b))
/-- the lists that are lent by name -/
def LR (l : Loc) (σ : St) (bs : List Bool) (os : List Op) (b : Addr) : Prop := ∃ (k : Nat) (s : Sl), k ∈ lents bs os ∧ l[k]? = some s ∧ s.mut = true ∧ σ[k]? = some (some (.ref b))
theorem lroots_mem (R : ORs K H0 Z H σ os vs) : ∀ {bs : List Bool} {ts : List T}, lent l bs os = some ts → ∀ b ∈ lroots bs vs, LR l σ bs os b ∨ b ∈ roots os vs := by
  induction R with
  | nil => intro bs ts e b h; cases bs <;> simp [lroots] at h
  | cons r _ ih =>
    rename_i o v os vs _
    intro bs ts e b h
    cases bs with
    | nil => simp [lroots] at h
    | cons c bs =>
      cases c with
      | false =>
        have h : b ∈ lroots bs vs := by simpa [lroots] using h
        unfold lent at e
        split at e
        · rename_i q
          rcases ih q b h with ⟨k, s, h1, h2⟩ | h1
          · exact .inl ⟨k, s, by cases o <;> simpa [lents] using h1, h2⟩
          · refine .inr ?_
            cases o with
            | pl k => simpa [roots] using h1
            | vl u =>
              cases u with
              | fr t => simpa [roots] using h1
              | ow t => obtain ⟨a, rfl, _⟩ := r; simp [roots, h1]
        · cases e
      | true =>
        cases o with
        | pl k =>
          have key : ∀ (s : Sl) us, l[k]? = some s → s.mut = true → lent l bs os = some us → LR l σ (true :: bs) (.pl k :: os) b ∨ b ∈ roots (.pl k :: os) (v :: vs) := by
            intro s us hs hm q
            have r : σ[k]? = some (some v) := r
            cases v with
            | ref a =>
              rcases List.mem_cons.mp (by simpa [lroots] using h) with rfl | h
              · exact .inl ⟨k, s, by simp [lents], hs, hm, r⟩
              · rcases ih q b h with ⟨k', s', h1, h2⟩ | h1
                · exact .inl ⟨k', s', by simp [lents, h1], h2⟩
                · exact .inr (by simpa [roots] using h1)
            | _ =>
              rcases ih q b (by simpa [lroots] using h) with ⟨k', s', h1, h2⟩ | h1
              · exact .inl ⟨k', s', by simp [lents, h1], h2⟩
              · exact .inr (by simpa [roots] using h1)
          unfold lent at e
          split at e
          · exact key _ _ (by assumption) rfl (by assumption)
          · exact key _ _ (by assumption) rfl (by assumption)
          · cases e
        | vl u =>
          cases u with
          | fr t => simp [lent] at e
          | ow t =>
            obtain ⟨a, rfl, _⟩ := r
            simp only [lent, Option.map_eq_some_iff] at e
            obtain ⟨us, q, _⟩ := e
            rcases List.mem_cons.mp (by simpa [lroots] using h) with rfl | h
            · exact .inr (by simp [roots])
            · rcases ih q b h with ⟨k', s', h1, h2⟩ | h1
              · exact .inl ⟨k', s', by simpa [lents] using h1, h2⟩
              · exact .inr (by simp [roots, h1])
theorem lroots_nodup (A0 : AL K H0 Z0 l0 σ) (P : PostE K l0 σ Z0 H0 l Z H) (R : ORs K H0 Z H σ os vs) : ∀ {bs : List Bool} {ts : List T}, lent l bs os = some ts → (lents bs os).Nodup → (roots os vs).Nodup → (lroots bs vs).Nodup := by
  have old : ∀ {bs os b}, LR l σ bs os b → H0 b ≠ none := fun ⟨k, s, _, h1, h2, h3⟩ => P.elder A0 _ ⟨k, s, h1, h2, h3⟩
  induction R with
  | nil => intro bs ts e h1 h2; cases bs <;> simp [lroots]
  | cons r rr ih =>
    rename_i o v os vs
    intro bs ts e nl nr
    cases bs with
    | nil => simp [lroots]
    | cons c bs =>
      have nr' : (roots os vs).Nodup := by
        cases o with
        | pl k => simpa [roots] using nr
        | vl u =>
          cases u with
          | fr t => simpa [roots] using nr
          | ow t => obtain ⟨a, rfl, _⟩ := r; simp only [roots, List.nodup_cons] at nr; exact nr.2
      cases c with
      | false =>
        unfold lent at e
        split at e
        · rename_i q
          simpa [lroots] using ih q (by cases o <;> simpa [lents] using nl) nr'
        · cases e
      | true =>
        cases o with
        | pl k =>
          have key : ∀ (s : Sl) us, l[k]? = some s → s.mut = true → lent l bs os = some us → (lroots (true :: bs) (v :: vs)).Nodup := by
            intro s us hs hm q
            have r : σ[k]? = some (some v) := r
            simp only [lents, List.nodup_cons] at nl
            have ii := ih q nl.2 nr'
            cases v with
            | ref a =>
              refine List.nodup_cons.mpr ⟨fun h => ?_, ii⟩
              rcases lroots_mem rr q a h with ⟨k', s', h1, h2, h3, h4⟩ | h1
              · obtain ⟨t1, o1⟩ := Sl.own_of_mut hm
                obtain ⟨t2, o2⟩ := Sl.own_of_mut h3
                have e := P.po.al.dj k k' s s' t1 t2 a hs o1 h2 o2 r h4
                subst e
                exact nl.1 h1
              · exact P.elder A0 a ⟨k, s, hs, hm, r⟩ (roots_new (W := fun _ => False) rr a h1)
            | _ => simpa [lroots] using ii
          unfold lent at e
          split at e
          · exact key _ _ (by assumption) rfl (by assumption)
          · exact key _ _ (by assumption) rfl (by assumption)
          · cases e
        | vl u =>
          cases u with
          | fr t => simp [lent] at e
          | ow t =>
            obtain ⟨a, rfl, _, _, n⟩ := r
            simp only [lent, Option.map_eq_some_iff] at e
            obtain ⟨us, q, _⟩ := e
            simp only [roots, List.nodup_cons] at nr
            refine List.nodup_cons.mpr ⟨fun h => ?_, ih q (by simpa [lents] using nl) nr.2⟩
            rcases lroots_mem rr q a h with h1 | h1
            · exact old h1 n
            · exact nr.1 h1
end
end Ir

set_option Elab.async false
set_option linter.all false
namespace Ir
open PySem L2

section
variable {X : L2.Cx} {K : PySem.W.Frag} {H H0 H' H1 H2 : Hp} {Z Z0 Z' Z1 Z2 Zc : Addr → Prop} {l l0 l1 l2 l' : Loc} {σ σ1 σ2 σ' : St} {t : T} {ts fin : List T} {v x y : V} {vs : List V} {a b : Addr} {o : Op} {os : List Op} {e e2 : Expr} {es : List Expr} {pos : Pos} {bs : List Bool}

def noT : List Bool → List Op → Bool
  | false :: bs, .vl (.ow t) :: os => false
  | _ :: bs, _ :: os => noT bs os
  | _, _ => true
theorem noT_fzT : ∀ {bs : List Bool} {os : List Op}, noT bs (fzT bs os) = true
  | [], os => by cases os <;> rfl
  | false :: bs, [] => rfl
  | true :: bs, [] => rfl
  | false :: bs, .pl k :: os => by simp [fzT, noT, noT_fzT]
  | false :: bs, .vl (.fr t) :: os => by simp [fzT, noT, noT_fzT]
  | false :: bs, .vl (.ow t) :: os => by simp [fzT, noT, noT_fzT]
  | true :: bs, .pl k :: os => by simp [fzT, noT, noT_fzT]
  | true :: bs, .vl (.fr t) :: os => by simp [fzT, noT, noT_fzT]
  | true :: bs, .vl (.ow t) :: os => by simp [fzT, noT, noT_fzT]

theorem AR.of (A : AL K H Z l σ) (hz : ∀ b, Z b → Zc b) (R : ORs K H0 Z H σ os vs) : ∀ {bs : List Bool} {ts : List T}, lent l bs os = some ts → noT bs os = true →
    (∀ b, SR l σ bs os b → Zc b) → (∀ b, LR l σ bs os b → ¬ Zc b) → (∀ a ∈ roots os vs, ¬ Zc a) → AR K H Zc bs ts vs := by
  induction R with
  | nil =>
    intro bs ts e nt hs hl hr
    cases bs with
    | nil => cases e; exact .nil
    | cons c bs => cases c <;> simp [lent] at e
  | cons r rr ih =>
    rename_i o v os vs
    intro bs ts e nt hs hl hr
    cases bs with
    | nil => simp [lent] at e
    | cons c bs =>
      have hr' : ∀ a ∈ roots os vs, ¬ Zc a := fun a h => hr a (by
        cases o with
        | pl k => simpa [roots] using h
        | vl u =>
          cases u with
          | fr t => simpa [roots] using h
          | ow t => obtain ⟨a, rfl, _⟩ := r; simp [roots, h])
      have hs' : ∀ b, SR l σ bs os b → Zc b := fun b ⟨k, s, t, h1, h2⟩ => hs b ⟨k, s, t, by cases c <;> cases o <;> simp [shown, h1], h2⟩
      have hl' : ∀ b, LR l σ bs os b → ¬ Zc b := fun b ⟨k, s, h1, h2⟩ => hl b ⟨k, s, by cases c <;> cases o <;> simp [lents, h1], h2⟩
      cases c with
      | false =>
        have nt' : noT bs os = true := by
          cases o with
          | pl k => simpa [noT] using nt
          | vl u => cases u <;> simp [noT] at nt; exact nt
        unfold lent at e
        split at e
        · rename_i t us ht q
          cases e
          refine .ro ?_ (ih q nt' hs' hl' hr')
          cases o with
          | pl k =>
            have ht : slT l[k]? = some t := ht
            have r : σ[k]? = some (some v) := r
            cases el : l[k]? with
            | none => rw [el] at ht; cases ht
            | some s =>
              rw [el] at ht
              rcases Sl.tree_own ht with rfl | q
              · obtain ⟨w, h1, h2⟩ := A.fr k t el
                rw [r] at h1
                cases h1
                exact h2.up hz
              · obtain ⟨a, h1, h2, _⟩ := A.ow k s t el q
                rw [r] at h1
                cases h1
                exact (h2.up hz).rf (hs a ⟨k, s, t, by simp [shown], el, q, r⟩)
          | vl u =>
            cases u with
            | fr u =>
              have e : u = t := Option.some.inj ht
              subst e
              exact RF.up hz r
            | ow u => simp [noT] at nt
        · cases e
      | true =>
        cases o with
        | pl k =>
          have nt' : noT bs os = true := by simpa [noT] using nt
          have r : σ[k]? = some (some v) := r
          have key : ∀ (s : Sl) (t : T) us, l[k]? = some s → s.mut = true → s.own = some t → lent l bs os = some us → ts = t :: us → AR K H Zc (true :: bs) ts (v :: vs) := by
            intro s t us hs0 hm ho q e
            subst e
            obtain ⟨a, h1, h2, h3⟩ := A.ow k s t hs0 ho
            rw [r] at h1
            cases h1
            exact .rw (h2.up hz) (hl a ⟨k, s, by simp [lents], hs0, hm, r⟩) (ih q nt' hs' hl' hr')
          unfold lent at e
          split at e
          · cases e; exact key _ _ _ (by assumption) rfl rfl (by assumption) rfl
          · cases e; exact key _ _ _ (by assumption) rfl rfl (by assumption) rfl
          · cases e
        | vl u =>
          cases u with
          | fr t => simp [lent] at e
          | ow t =>
            have nt' : noT bs os = true := by simpa [noT] using nt
            obtain ⟨a, rfl, o, _, n⟩ := r
            simp only [lent, Option.map_eq_some_iff] at e
            obtain ⟨us, q, e⟩ := e
            subst e
            exact .rw (o.up hz) (hr a (by simp [roots])) (ih q nt' hs' hl' hr')

/-- a name's slot behind a call -/
theorem put_get {k : Nat} {t : T} (e : put k t l = some ((), l')) : (∃ s s', l[k]? = some s ∧ s.mut = true ∧ s'.mut = true ∧ s'.own = some t ∧ (∀ u, s = .rw u → ∃ u', s' = .rw u') ∧ l' = l.set k s') := by
  unfold Ir.put at e
  split at e
  · rename_i u hu
    cases e
    exact ⟨.ow u, .ow t, hu, rfl, rfl, rfl, fun u q => (by cases q), rfl⟩
  · rename_i u hu
    cases e
    exact ⟨.rw u, .rw t, hu, rfl, rfl, rfl, fun u q => ⟨_, rfl⟩, rfl⟩
  · cases e
/-- what the names are behind the call -/
structure BK (K : PySem.W.Frag) (H' : Hp) (Z' : Addr → Prop) (l : Loc) (σ : St) (ks : List Nat) (l' : Loc) : Prop where
  len : l'.length = l.length
  out : ∀ i, i ∉ ks → l'[i]? = l[i]?
  inn : ∀ i ∈ ks, ∃ s s' t a, l[i]? = some s ∧ s.mut = true ∧ l'[i]? = some s' ∧ s'.mut = true ∧ s'.own = some t ∧ (∀ u, s = .rw u → ∃ u', s' = .rw u') ∧ σ[i]? = some (some (.ref a)) ∧ OA K H' Z' t a ∧ ¬ Z' a
theorem back_get : ∀ {bs : List Bool} {os : List Op} {fin : List T} {vs : List V} {l l' : Loc}, ORs K H0 Z H σ os vs → FR K H' Z' bs fin vs → (lents bs os).Nodup → back bs os fin l = some ((), l') → BK K H' Z' l σ (lents bs os) l'
  | [], [], fin, vs, l, l', R, F, nd, e => by
    cases F
    cases R
    obtain ⟨_, rfl⟩ := ret_some.mp e
    exact ⟨rfl, fun _ _ => rfl, fun i h => by simp [lents] at h⟩
  | [], o :: os, fin, vs, l, l', R, F, nd, e => by
    cases F
    cases R
  | c :: bs, [], fin, vs, l, l', R, F, nd, e => by
    cases R
    cases F
  | c :: bs, o :: os, fin, vs, l, l', R, F, nd, e => by
    cases R with
    | cons r rr =>
      cases F with
      | ro F =>
        have el : lents (false :: bs) (o :: os) = lents bs os := by cases o <;> simp [lents]
        rw [el] at nd ⊢
        exact back_get rr F nd (by cases o <;> simpa [back] using e)
      | rw o1 n1 F =>
        rename_i t a us
        cases o with
        | pl k =>
          have r : σ[k]? = some (some (.ref a)) := r
          simp only [lents, List.nodup_cons] at nd ⊢
          obtain ⟨_, l1, e1, e2⟩ := bind_some.mp e
          obtain ⟨s, s', h1, h2, h3, h4, h5, rfl⟩ := put_get e1
          have B := back_get rr F nd.2 e2
          have hk := (List.getElem?_eq_some_iff.mp h1).1
          refine ⟨by rw [B.len, List.length_set], fun i hi => ?_, fun i hi => ?_⟩
          · simp only [List.mem_cons, not_or] at hi
            rw [B.out i hi.2, List.getElem?_set_ne (Ne.symm hi.1)]
          · by_cases hik : i = k
            · subst hik
              refine ⟨s, s', t, a, h1, h2, ?_, h3, h4, h5, r, o1, n1⟩
              rw [B.out i nd.1, List.getElem?_set_self hk]
            · rcases List.mem_cons.mp hi with hi | hi
              · exact absurd hi hik
              · obtain ⟨p, p', t', a', g1, g⟩ := B.inn i hi
                rw [List.getElem?_set_ne (Ne.symm hik)] at g1
                exact ⟨p, p', t', a', g1, g⟩
        | vl u =>
          have el : lents (true :: bs) (.vl u :: os) = lents bs os := by simp [lents]
          rw [el] at nd ⊢
          exact back_get rr F nd (by simpa [back] using e)

/-- the state behind a call: S the lists that were shown -/
theorem call_post {S : Addr → Prop} (A0 : AL K H0 Z0 l0 σ) (P : PostE K l0 σ Z0 H0 l Z H) (R : ORs K H0 Z H σ os vs) (e1 : lent l bs os = some ts) (nl : (lents bs os).Nodup) (nr : (roots os vs).Nodup)
    (hS : ∀ b, S b → SR l σ bs os b) (sl : ∀ k ∈ shown bs os, k ∉ lents bs os) (ex : Ex (fun b => b ∈ lroots bs vs) (fun b => Z b ∨ S b) Z' H H') (hz2 : ∀ b, Z2 b ↔ (Z' b ∧ ¬ S b)) (F : FR K H' Z' bs fin vs) (ff : fin.all clearT = true ∨ ∀ b, ¬ S b)
    (e2 : back bs os fin l = some ((), l')) : PostE K l0 σ Z0 H0 l' Z2 H' := by
  have A := P.po.al
  have ownS : ∀ b, S b → Own l σ b := fun b s => by
    obtain ⟨k, s, t, _, h⟩ := hS b s
    exact ⟨k, s, t, h⟩
  have hb := fun b h => lroots_mem R (bs := bs) e1 b h
  have lr0 : ∀ b, LR l σ bs os b → W l σ b := fun b ⟨k, s, _, h⟩ => ⟨k, s, h⟩
  have hmu : ∀ b, b ∈ lroots bs vs → Mu H b ∧ ¬ Z b := fun b h => by
    rcases hb b h with q | q
    · exact W_sub A b (lr0 b q)
    · have : ∀ {os vs}, ORs K H0 Z H σ os vs → b ∈ roots os vs → Mu H b ∧ ¬ Z b := by
        intro os vs R q
        induction R with
        | nil => cases q
        | cons r _ ih =>
          rename_i o v os vs _
          cases o with
          | pl k => exact ih (by simpa [roots] using q)
          | vl u =>
            cases u with
            | fr t => exact ih (by simpa [roots] using q)
            | ow t =>
              obtain ⟨a, rfl, o, z, _⟩ := r
              rcases List.mem_cons.mp (by simpa [roots] using q) with rfl | q
              · exact ⟨o.mu, z⟩
              · exact ih q
      exact this R q
  have nz : ∀ b, Z b → ¬ S b := fun b z s => (Own.at A b (ownS b s)).2 z
  -- what is known goes over
  have exz : Ex (fun b => b ∈ lroots bs vs) Z Z2 H H' := ⟨ex.fr, fun b z => (hz2 b).mpr ⟨ex.up b (.inl z), nz b z⟩, fun b z => by
    obtain ⟨z1, z2⟩ := (hz2 b).mp z
    rcases ex.nw b z1 with (z | z) | z | z
    · exact .inl z
    · exact absurd z z2
    · exact .inr (.inl z)
    · exact .inr (.inr z), ex.dm, fun b z => ex.zd b ((hz2 b).mp z).1⟩
  have B := back_get R F nl e2
  have sig : ∀ (k : Nat) b, σ[k]? = some (some (.ref b)) → b ∈ lroots bs vs → ∀ s t, l[k]? = some s → s.own = some t → k ∈ lents bs os := by
    intro k b hk hb' s t hs ho
    rcases hb b hb' with ⟨k', s', g1, g2, g3, g4⟩ | q
    · obtain ⟨t', ho'⟩ := Sl.own_of_mut g3
      have := A.dj k k' s s' t t' b hs ho g2 ho' hk g4
      rw [this]; exact g1
    · exact absurd (roots_new (W := fun _ => False) R b q) (Own.at A0 b (P.os b ⟨k, s, t, hs, ho, hk⟩)).1
  have clr : ∀ {t : T} {a : Addr}, OA K H' Z' t a → t ∈ fin → OA K H' Z2 t a := fun {t a} o m => by
    rcases ff with ff | ff
    · have c := (List.all_eq_true.mp ff) t m
      cases o with
      | lst h r => exact .lst h (RFs.any (by simpa [clearT] using c) r)
      | dK h q1 q2 r => exact .dK h q1 q2 (RFs.any (by simp [clearT] at c; exact c.2) r)
      | dT h q1 q2 r => exact .dT h q1 q2 (RFs.any (by simp [clearT] at c; exact c.2) r)
    · exact o.up fun b z => (hz2 b).mpr ⟨z, ff b⟩
  have finm : ∀ {bs os fin vs} {l l' : Loc}, ORs K H0 Z H σ os vs → FR K H' Z' bs fin vs → (lents bs os).Nodup → back bs os fin l = some ((), l') → ∀ i ∈ lents bs os, ∀ s t, l'[i]? = some s → s.own = some t → t ∈ fin := by
    intro bs os fin vs l l' R F
    induction F generalizing os l l' with
    | nil => intro _ _ i hi; cases os <;> simp [lents] at hi
    | ro F ih =>
      intro nd e i hi
      cases R with
      | cons r rr =>
        rename_i o os
        have el : ∀ b2, lents (false :: b2) (o :: os) = lents b2 os := by intro b2; cases o <;> simp [lents]
        rw [el] at nd hi
        exact ih rr nd (by cases o <;> simpa [back] using e) i hi
    | rw o1 n1 F ih =>
      intro nd e i hi s t hs ho
      cases R with
      | cons r rr =>
        rename_i o os
        cases o with
        | pl k =>
          simp only [lents, List.nodup_cons] at nd hi
          obtain ⟨_, l1, e1, e2⟩ := bind_some.mp e
          obtain ⟨p, p', h1, h2, h3, h4, h5, rfl⟩ := put_get e1
          by_cases hik : i = k
          · subst hik
            have B := back_get rr F nd.2 e2
            rw [B.out i nd.1, List.getElem?_set_self (List.getElem?_eq_some_iff.mp h1).1] at hs
            cases hs
            rw [h4] at ho
            cases ho
            exact List.mem_cons_self
          · rcases List.mem_cons.mp hi with hi | hi
            · exact absurd hi hik
            · exact List.mem_cons_of_mem _ (ih rr nd.2 e2 i hi s t hs ho)
        | vl u =>
          have el : ∀ b2, lents (true :: b2) (.vl u :: os) = lents b2 os := by intro b2; simp [lents]
          rw [el] at nd hi
          exact List.mem_cons_of_mem _ (ih rr nd (by simpa [back] using e) i hi s t hs ho)
  have A' : AL K H' Z2 l' σ := by
    refine ⟨exz.zd, by rw [B.len]; exact A.len, fun i t h => ?_, fun i s t h1 h2 => ?_, fun i j s s' t t' a g1 g2 g3 g4 g5 g6 => ?_⟩
    · by_cases hi : i ∈ lents bs os
      · obtain ⟨p, p', t', a', g1, g2, g3, g4, g5, _⟩ := B.inn i hi
        rw [g3] at h
        cases h
        cases g5
      · rw [B.out i hi] at h
        obtain ⟨w, e3, e4⟩ := A.fr i t h
        exact ⟨w, e3, e4.ex exz hmu⟩
    · by_cases hi : i ∈ lents bs os
      · obtain ⟨p, p', t', a', g1, g2, g3, g4, g5, g6, g7, g8, g9⟩ := B.inn i hi
        rw [g3] at h1
        cases h1
        rw [g5] at h2
        cases h2
        exact ⟨a', g7, clr g8 (finm R F nl e2 i hi _ _ g3 g5), fun z => g9 ((hz2 a').mp z).1⟩
      · rw [B.out i hi] at h1
        obtain ⟨a', e3, e4, e5⟩ := A.ow i s t h1 h2
        have na : a' ∉ lroots bs vs := fun hm => hi (sig i a' e3 hm s t h1 h2)
        refine ⟨a', e3, e4.ex exz hmu na, fun z => ?_⟩
        rcases exz.nw a' z with z | z | z
        · exact e5 z
        · exact e4.ne z
        · exact na z
    · have old : ∀ (i : Nat) (s : Sl) (t : T), l'[i]? = some s → s.own = some t → ∃ s0 t0, l[i]? = some s0 ∧ s0.own = some t0 := fun i s t h1 h2 => by
        by_cases hi : i ∈ lents bs os
        · obtain ⟨p, p', t', a', g1, g2, _⟩ := B.inn i hi
          obtain ⟨t0, ht⟩ := Sl.own_of_mut g2
          exact ⟨p, t0, g1, ht⟩
        · rw [B.out i hi] at h1
          exact ⟨s, t, h1, h2⟩
      obtain ⟨p, q, p1, p2⟩ := old i s t g1 g2
      obtain ⟨p', q', p1', p2'⟩ := old j s' t' g3 g4
      exact A.dj i j p p' q q' a p1 p2 p1' p2' g5 g6
  have wsub : ∀ b, W l' σ b → W l σ b := fun b ⟨i, s, h1, h2, h3⟩ => by
    by_cases hi : i ∈ lents bs os
    · obtain ⟨p, p', t', a', g1, g2, _⟩ := B.inn i hi
      exact ⟨i, p, g1, g2, h3⟩
    · rw [B.out i hi] at h1
      exact ⟨i, s, h1, h2, h3⟩
  have osub : ∀ b, Own l' σ b → Own l σ b := fun b ⟨i, s, t, h1, h2, h3⟩ => by
    by_cases hi : i ∈ lents bs os
    · obtain ⟨p, p', t', a', g1, g2, _⟩ := B.inn i hi
      obtain ⟨t0, ht⟩ := Sl.own_of_mut g2
      exact ⟨i, p, t0, g1, ht, h3⟩
    · rw [B.out i hi] at h1
      exact ⟨i, s, t, h1, h2, h3⟩
  have fsub : ∀ b, OwR l' σ b → OwR l σ b := fun b ⟨i, t, h1, h3⟩ => by
    by_cases hi : i ∈ lents bs os
    · obtain ⟨p, p', t', a', g1, g2, g3, g4, g5, g6, _⟩ := B.inn i hi
      rw [h1] at g3
      cases g3
      cases p with
      | ow u => exact ⟨i, u, g1, h3⟩
      | rw u => obtain ⟨u2, e⟩ := g6 u rfl; cases e
      | _ => cases g2
    · rw [B.out i hi] at h1
      exact ⟨i, t, h1, h3⟩
  refine ⟨⟨A', ?_, fun b w => .inl (P.es b (wsub b w)), fun i t h => ?_, fun i t h => ?_, fun b w => P.po.fo b (fsub b w)⟩, fun b w => P.es b (wsub b w), fun b w => P.os b (osub b w)⟩
  · refine ⟨fun b o h n => ?_, fun b z => exz.up b (P.po.ex.up b z), fun b z => ?_, fun b w q => ?_, exz.zd⟩
    · refine exz.fr b o (P.po.ex.fr b o h n) fun hm => ?_
      rcases hb b hm with q | q
      · exact n (P.es b (lr0 b q))
      · rw [roots_new (W := fun _ => False) R b q] at h
        cases h
    · rcases exz.nw b z with z | z | z
      · exact P.po.ex.nw b z
      · exact .inr (.inl (P.po.ex.back z))
      · rcases hb b z with q | q
        · exact .inr (.inr (P.es b (lr0 b q)))
        · exact .inr (.inl (roots_new (W := fun _ => False) R b q))
    · exact P.po.ex.dm b w (exz.back q)
  · obtain ⟨h1, h2⟩ := P.po.lk i t h
    refine ⟨?_, h2⟩
    by_cases hi : i ∈ lents bs os
    · obtain ⟨p, p', t', a', g1, g2, _⟩ := B.inn i hi
      rw [h1] at g1
      cases g1
      cases g2
    · rw [B.out i hi]
      exact h1
  · obtain ⟨⟨u, h1⟩, h2⟩ := P.po.rw i t h
    refine ⟨?_, h2⟩
    by_cases hi : i ∈ lents bs os
    · obtain ⟨p, p', t', a', g1, g2, g3, g4, g5, g6, _⟩ := B.inn i hi
      rw [h1] at g1
      cases g1
      obtain ⟨u', e⟩ := g6 u rfl
      exact ⟨u', by rw [g3, e]⟩
    · exact ⟨u, by rw [B.out i hi]; exact h1⟩
end
end Ir

set_option Elab.async false
set_option linter.all false
namespace Ir
open PySem L2

section
variable {X : L2.Cx} {K : PySem.W.Frag} {H H0 H' H1 H2 : Hp} {Z Z0 Z' Z1 Z2 Zc : Addr → Prop} {l l0 l1 l2 l' : Loc} {σ σ1 σ2 σ' : St} {t : T} {ts fin : List T} {v x y : V} {vs : List V} {a b : Addr} {o : Op} {os : List Op} {e e2 : Expr} {es : List Expr} {pos : Pos} {bs : List Bool}

theorem owned_nil : ∀ {ks : List Nat}, owned l ks = [] → ∀ k ∈ ks, ∀ s t, l[k]? = some s → s.own = some t → False
  | [], _, k, h, _, _, _, _ => by cases h
  | c :: ks, e, k, h, s, t, hs, ho => by
    unfold owned at e
    rcases List.mem_cons.mp h with rfl | h
    · rw [hs] at e
      cases s <;> simp [Sl.own] at ho e
    · refine owned_nil (ks := ks) ?_ k h s t hs ho
      split at e <;> first | exact e | simp at e
theorem VR.clear {r : Vl} (c : r.clear = true) (h : VR K H0 Z1 H r v) (n : ∀ b, Z2 b → Z1 b) : VR K H0 Z2 H r v := by
  cases r with
  | fr t => exact RF.any c h
  | ow t =>
    obtain ⟨a, rfl, o, z, m⟩ := h
    refine ⟨a, rfl, ?_, fun q => z (n a q), m⟩
    cases o with
    | lst h r => exact .lst h (RFs.any (by simpa [Vl.clear] using c) r)
    | dK h q1 q2 r => exact .dK h q1 q2 (RFs.any (by simp [Vl.clear] at c; exact c.2) r)
    | dT h q1 q2 r => exact .dT h q1 q2 (RFs.any (by simp [Vl.clear] at c; exact c.2) r)
theorem VR.up {r : Vl} (h : VR K H0 Z1 H r v) (n : ∀ b, Z2 b ↔ Z1 b) : VR K H0 Z2 H r v := by
  have e : Z2 = Z1 := funext fun b => propext (n b)
  rw [e]
  exact h

theorem rE_call {cx : Cx} {f : Nat} {fz : Bool} {d : Fd} {m : M (List Op)} {Q : VK} {E : XK} (hd : cx.tab[f]? = some d) (h : rE K (bind m fun os => doCall cx f fz os) σ H Q) :
    rOs K m σ H (fun vs H1 => spF K (cx.call f) d.rw vs H1 Q E) := by
  obtain ⟨l, Z, r, l', A, e, q⟩ := h
  obtain ⟨os, l1, e1, e2⟩ := bind_some.mp e
  refine ⟨l, Z, os, l1, A, e1, fun vs H1 Z1 P R nd => ?_⟩
  unfold doCall at e2
  rw [hd] at e2
  simp only at e2
  split at e2
  · rename_i hc
    simp only [Bool.and_eq_true, Bool.not_eq_true'] at hc
    have nl := nodupB_iff hc.1
    have sl : ∀ k ∈ shown d.rw os, k ∉ lents d.rw os := fun k hk hl => by
      have := hc.2
      rw [List.any_eq_false] at this
      exact this k hk (by simpa using hl)
    -- the lists that stay from now on
    have st : ∃ l2 Z2, l2 = (if fz = true then freeze (shown d.rw os) l1 else l1) ∧ PostE K l1 σ Z1 H1 l2 Z2 H1 := by
      cases fz with
      | true => obtain ⟨Z2, P2⟩ := freeze_post (ks := shown d.rw os) P.po.al; exact ⟨_, Z2, rfl, P2⟩
      | false => exact ⟨_, Z1, rfl, PostE.refl P.po.al⟩
    obtain ⟨l2, Z2, hl2, P2⟩ := st
    rw [← hl2] at e2
    have R2 := R.ex P2.po P.po.al (P.elder A)
    obtain ⟨Z3, P3, R3, nd3, sub3, up3, bk3⟩ := fzT_post (bs := d.rw) A (P.trans P2) R2 nd
    split at e2
    · cases e2
    · rename_i ts hlent
      split at e2
      · cases e2
      · rename_i res fin hcall
        split at e2
        · rename_i hclear
          obtain ⟨_, l3, e3, e4⟩ := bind_some.mp e2
          obtain ⟨rfl, rfl⟩ := ret_some.mp e4
          rw [← lent_fzT] at hlent
          rw [← back_fzT] at e3
          rw [← lents_fzT (os := os)] at nl sl
          rw [← shown_fzT (os := os)] at sl hclear
          generalize hos : fzT d.rw os = os3 at *
          have hnt : noT d.rw os3 = true := by rw [← hos]; exact noT_fzT
          have ownS : ∀ b, SR l2 σ d.rw os3 b → Own l2 σ b := fun b ⟨k, s, t, _, h⟩ => ⟨k, s, t, h⟩
          have AA : AR K H1 (fun b => Z3 b ∨ SR l2 σ d.rw os3 b) d.rw ts vs := by
            refine AR.of P3.po.al (fun b z => .inl z) R3 hlent hnt (fun b s => .inr s) (fun b ⟨k, s, h1, h2, h3, h4⟩ z => ?_) (fun a ha z => ?_)
            · obtain ⟨t, ht⟩ := Sl.own_of_mut h3
              rcases z with z | ⟨k', s', t', g1, g2, g3, g4⟩
              · exact (Own.at P3.po.al b ⟨k, s, t, h2, ht, h4⟩).2 z
              · have := P3.po.al.dj k k' s s' t t' b h2 ht g2 g3 h4 g4
                subst this
                exact sl k g1 h1
            · have n0 := roots_new (W := fun _ => False) R3 a ha
              rcases z with z | z
              · rcases P3.po.ex.nw a z with z | z | z
                · -- an elder list of Z
                  have := P3.po.ex.up a z
                  have hz : ∀ {os vs}, ORs K H Z3 H1 σ os vs → a ∈ roots os vs → ¬ Z3 a := by
                    intro os vs R hq
                    induction R with
                    | nil => cases hq
                    | cons r _ ih =>
                      rename_i o v os vs _
                      cases o with
                      | pl k => exact ih (by simpa [roots] using hq)
                      | vl u =>
                        cases u with
                        | fr t => exact ih (by simpa [roots] using hq)
                        | ow t =>
                          obtain ⟨a', rfl, o, z, _⟩ := r
                          rcases List.mem_cons.mp (by simpa [roots] using hq) with rfl | hq
                          · exact z
                          · exact ih hq
                  exact hz R3 ha this
                · have hz : ∀ {os vs}, ORs K H Z3 H1 σ os vs → a ∈ roots os vs → ¬ Z3 a := by
                    intro os vs R hq
                    induction R with
                    | nil => cases hq
                    | cons r _ ih =>
                      rename_i o v os vs _
                      cases o with
                      | pl k => exact ih (by simpa [roots] using hq)
                      | vl u =>
                        cases u with
                        | fr t => exact ih (by simpa [roots] using hq)
                        | ow t =>
                          obtain ⟨a', rfl, o, z, _⟩ := r
                          rcases List.mem_cons.mp (by simpa [roots] using hq) with rfl | hq
                          · exact z
                          · exact ih hq
                  exact hz R3 ha (by assumption)
                · exact (W_sub A a z).1.ne n0
              · exact (Own.at A a (P3.os a (ownS a z))).1 n0
          refine ⟨ts, res, fin, fun b => Z3 b ∨ SR l2 σ d.rw os3 b, fun b z => z.elim (P3.po.al.zd b) fun z => (Own.at A b (P3.os b (ownS b z))).1 |> fun h => fun q => h (P3.po.ex.back q), hcall, AA, lroots_nodup A P3 R3 hlent nl nd3, fun v H' Z' ex F V => ?_⟩
          have hff : fin.all clearT = true ∨ ∀ b, ¬ SR l2 σ d.rw os3 b := by
            simp only [Bool.or_eq_true, Bool.and_eq_true, List.isEmpty_iff] at hclear
            rcases hclear with h | h
            · exact .inr fun b ⟨k, s, t, g1, g2, g3, _⟩ => owned_nil h k g1 s t g2 g3
            · exact .inl h.2
          have P4 := call_post A P3 R3 hlent nl nd3 (fun b s => s) sl ex (fun b => Iff.rfl) F hff e3
          refine q v H' _ P4 (VR.old P3.po.ex ?_)
          simp only [Bool.or_eq_true, Bool.and_eq_true, List.isEmpty_iff] at hclear
          rcases hclear with h | h
          · exact VR.up V fun b => ⟨fun z => z.1, fun z => ⟨z, fun ⟨k, s, t, g1, g2, g3, _⟩ => owned_nil h k g1 s t g2 g3⟩⟩
          · exact VR.clear h.1 V fun b z => z.1
        · cases e2
  · cases e2
end
end Ir

set_option Elab.async false
set_option linter.all false
namespace Ir
open PySem L2

section
variable {X : L2.Cx} {K : PySem.W.Frag} {H H0 H' H1 H2 : Hp} {Z Z0 Z' Z1 Z2 Zc : Addr → Prop} {l l0 l1 l2 l' : Loc} {σ σ1 σ2 σ' : St} {t : T} {ts fin : List T} {v x y : V} {vs : List V} {a b : Addr} {o : Op} {os : List Op} {e e2 : Expr} {es : List Expr} {pos : Pos} {bs : List Bool}

theorem ORs.length (h : ORs K H Z' H' σ os vs) : vs.length = os.length := by
  induction h with
  | nil => rfl
  | cons _ _ ih => simp [ih]
theorem size_le {n : Nat} (h : n ≤ sizeMax) : n ≤ sizeLine := h
/-- a tuple is made -/
theorem pE_tup {k : Nat} {m : M (List Op)} (hm : ∀ l os l', m l = some (os, l') → os.length ≤ sizeMax) (h : PA X es (rOs X.K m)) :
    PE X (.Tuple es k pos) (rE X.K (bind m fun os => bind (gives os) fun ts => ret (.fr (.tup ts)))) := (pe_tup h).irw fun σ H Q ⟨l, Z, r, l', A, e, q⟩ => by
  obtain ⟨os, l1, e1, e2⟩ := bind_some.mp e
  obtain ⟨ts, l2, e3, e4⟩ := bind_some.mp e2
  obtain ⟨rfl, rfl⟩ := ret_some.mp e4
  refine ⟨l, Z, os, l1, A, e1, fun vs H1 Z1 P R nd => ⟨by rw [R.length]; exact size_le (hm _ _ _ e1), fun p hp => ?_⟩⟩
  obtain ⟨Z2, P2, r2, _⟩ := gives_post A P R nd e3
  have ex : Ex0 Z2 Z2 H1 (upd H1 p (.tup vs)) := Ex0.obj P2.po.al.zd hp
  exact q _ _ Z2 (P2.trans (PostE.new P2.po.al ex)) (.tup (SqT.of upd_same) (r2.new ex))
/-- a list is made -/
theorem pE_lst {m : M (List Op)} (hm : ∀ l os l', m l = some (os, l') → os.length ≤ sizeMax) (h : PA X es (rOs X.K m)) :
    PE X (.List es pos) (rE X.K (bind m fun os => bind (gives os) fun ts => ret (.ow (.lst ts)))) := (pe_lst h).irw fun σ H Q ⟨l, Z, r, l', A, e, q⟩ => by
  obtain ⟨os, l1, e1, e2⟩ := bind_some.mp e
  obtain ⟨ts, l2, e3, e4⟩ := bind_some.mp e2
  obtain ⟨rfl, rfl⟩ := ret_some.mp e4
  refine ⟨l, Z, os, l1, A, e1, fun vs H1 Z1 P R nd => ⟨by rw [R.length]; exact size_le (hm _ _ _ e1), fun p hp => ?_⟩⟩
  obtain ⟨Z2, P2, r2, _⟩ := gives_post A P R nd e3
  have ex : Ex0 Z2 Z2 H1 (upd H1 p (.lst vs)) := Ex0.obj P2.po.al.zd hp
  refine q _ _ Z2 (P2.trans (PostE.new P2.po.al ex)) ⟨p, rfl, .lst upd_same (r2.new ex), fun z => ?_, P2.po.ex.back hp⟩
  exact P2.po.al.zd p z hp
end
end Ir

set_option Elab.async false
set_option linter.all false
namespace Ir
open PySem L2

section
variable {X : L2.Cx} {K : PySem.W.Frag} {H H0 H' H1 H2 : Hp} {Z Z0 Z' Z1 Z2 Zc : Addr → Prop} {l l0 l1 l2 l' : Loc} {σ σ1 σ2 σ' : St} {t : T} {ts fin : List T} {v x y : V} {vs : List V} {a b : Addr} {o : Op} {os : List Op} {e e1 e2 e3 : Expr} {es : List Expr} {pos : Pos} {bs : List Bool} {Q : VK} {m n : M Vl}

theorem rE_mono {Q' : VK} (h : rE K m σ H Q) (g : ∀ v H', Q v H' → Q' v H') : rE K m σ H Q' := by
  obtain ⟨l, Z, r, l', A, e, q⟩ := h
  exact ⟨l, Z, r, l', A, e, fun v H' Z' P R => g _ _ (q v H' Z' P R)⟩
theorem rT_mono {m : M Bool} {Q Q' : Bool → Hp → Prop} (h : rT K m σ H Q) (g : ∀ v H', Q v H' → Q' v H') : rT K m σ H Q' := by
  obtain ⟨l, Z, r, l', A, e, q⟩ := h
  exact ⟨l, Z, r, l', A, e, fun H' Z' P => g _ _ (q H' Z' P)⟩
theorem rE_test {f : Bool → M Vl} (h : rE K (bind m fun v => bind (truth v) f) σ H Q) : rE K m σ H (fun x H1 => ∃ c, x = .bl c ∧ rE K (f c) σ H1 Q) := by
  rw [← bind_assoc] at h
  exact rE_truth (rE_if h)
theorem pE_and (ha : PE X e (rE X.K m)) (hb : PE X (.BoolOp .And (e2 :: es) pos) (rE X.K n)) :
    PE X (.BoolOp .And (e :: e2 :: es) pos) (rE X.K (bind m fun v => bind (truth v) fun c => if c = true then n else ret (.fr (.bl false)))) := (pe_and ha hb).irw fun σ H Q h => by
  refine rE_mono (rE_test h) fun x H1 ⟨c, e, q⟩ => ⟨c, e, ?_⟩
  cases c with
  | true => exact q
  | false => exact rE_ret q fun _ _ => .bl false
theorem pE_or (ha : PE X e (rE X.K m)) (hb : PE X (.BoolOp .Or (e2 :: es) pos) (rE X.K n)) :
    PE X (.BoolOp .Or (e :: e2 :: es) pos) (rE X.K (bind m fun v => bind (truth v) fun c => if c = true then ret (.fr (.bl true)) else n)) := (pe_or ha hb).irw fun σ H Q h => by
  refine rE_mono (rE_test h) fun x H1 ⟨c, e, q⟩ => ⟨c, e, ?_⟩
  cases c with
  | false => exact q
  | true => exact rE_ret q fun _ _ => .bl true
theorem pE_one {op : BoolOp} (ha : PE X e (rE X.K m)) : PE X (.BoolOp op [e] pos) (rE X.K m) := pe_one ha
theorem pE_not (ha : PE X e (rE X.K m)) : PE X (.UnaryOp .Not e pos) (rE X.K (bind m fun v => bind (truth v) fun c => ret (.fr (.bl !c)))) := (pe_not ha).irw fun σ H Q h => by
  exact rE_mono (rE_test h) fun x H1 ⟨c, e, q⟩ => ⟨c, e, rE_ret q fun _ _ => .bl (!c)⟩
theorem pE_ite (hc : PT X e (rT X.K (bind m truth))) {n1 n2 : M Vl} (ha : PE X e1 (rE X.K n1)) (hb : PE X e2 (rE X.K n2)) :
    PE X (.IfExp e e1 e2 pos) (rE X.K (bind m fun v => bind (truth v) fun c => if c = true then n1 else n2)) := (pe_ifExp hc ha hb).irw fun σ H Q h => by
  rw [← bind_assoc] at h
  refine rT_mono (rE_if h) fun c H1 q => ?_
  cases c <;> exact q
/-- tests -/
theorem pT_val (h : PE X e (rE X.K m)) (he : ∀ whole, isTrue e X.env whole = (do let v ← whole; standAt e.pos; holding [v] (truthy v))) : PT X e (rT X.K (bind m truth)) := (pt_val h he).irw fun σ H Q h => rE_truth h
theorem rT_test {f : Bool → M Bool} {Q : Bool → Hp → Prop} (h : rT K (bind m fun v => bind (truth v) f) σ H Q) : rT K (bind m truth) σ H (fun c H1 => rT K (f c) σ H1 Q) := by
  rw [← bind_assoc] at h
  exact rT_if h
theorem pW_one {op : BoolOp} {m : M Bool} (ha : PT X e (rT X.K m)) : PW X (.BoolOp op [e] pos) (rT X.K m) := by
  cases op with
  | And => exact pw_and1 ha
  | Or => exact pw_or1 ha
theorem bind_if {α β : Type} {c : Bool} {m n : M α} {f : α → M β} : bind (if c = true then m else n) f = if c = true then bind m f else bind n f := by cases c <;> rfl
theorem bind_ret {α β : Type} {a : α} {f : α → M β} : bind (ret a) f = f a := rfl
theorem pW_and (ha : PT X e (rT X.K (bind m truth))) (hb : PW X (.BoolOp .And (e2 :: es) pos) (rT X.K (bind n truth))) :
    PW X (.BoolOp .And (e :: e2 :: es) pos) (rT X.K (bind (bind m fun v => bind (truth v) fun c => if c = true then n else ret (.fr (.bl false))) truth)) := (pw_and ha hb).irw fun σ H Q h => by
  rw [bind_assoc] at h
  simp only [bind_assoc, bind_if, bind_ret] at h
  refine rT_mono (rT_test h) fun c H1 q => ?_
  cases c with
  | true => exact q
  | false => exact rT_ret q
theorem pW_or (ha : PT X e (rT X.K (bind m truth))) (hb : PW X (.BoolOp .Or (e2 :: es) pos) (rT X.K (bind n truth))) :
    PW X (.BoolOp .Or (e :: e2 :: es) pos) (rT X.K (bind (bind m fun v => bind (truth v) fun c => if c = true then ret (.fr (.bl true)) else n) truth)) := (pw_or ha hb).irw fun σ H Q h => by
  rw [bind_assoc] at h
  simp only [bind_assoc, bind_if, bind_ret] at h
  refine rT_mono (rT_test h) fun c H1 q => ?_
  cases c with
  | false => exact q
  | true => exact rT_ret q
theorem pT_not (ha : PT X e (rT X.K (bind m truth))) : PT X (.UnaryOp .Not e pos) (rT X.K (bind (bind m fun v => bind (truth v) fun c => ret (.fr (.bl !c))) truth)) := (pt_not ha).irw fun σ H Q h => by
  rw [bind_assoc] at h
  simp only [bind_assoc, bind_ret] at h
  exact rT_mono (rT_test h) fun c H1 q => rT_ret q
theorem pT_cmp {p : Pr} {op : CmpOp} {m n : M Op} (ho : OpR X (compareOp op) (rP2 X.K p)) (ha : PE X e (rO X.K m)) (hb : PE X e2 (rO X.K n)) (hm : behindInMarks op e2 = false) :
    PT X (.Compare e [op] [e2] pos) (rT X.K (bind (prM p (bind m fun o => bind (bind n fun o => bind (ret []) fun os => ret (o :: os)) fun os => ret (o :: os))) truth)) := (pt_cmpR ho ha hb hm).irw fun σ H Q h => rP_two (rE_truth h)
/-- a < b < c -/
def chnM (p q : Pr) (ma mb mc : M Op) : M Vl := bind ma fun x => bind mb fun y => bind (fun l => match trees l [x, y] with
      | some ts => lift (prS p ts) l
      | none => none) fun v => bind (truth v) fun d =>
      if d = true then bind mc fun z => fun l => match trees l [y, z] with
        | some ts => lift (prS q ts) l
        | none => none
      else ret (.fr (.bl false))
theorem rE_chn {p q : Pr} {ma mb mc : M Op} {Q : VK} (h : rE K (chnM p q ma mb mc) σ H Q) : tChain (rP2 K p) (rP2 K q) (rO K ma) (rO K mb) (rO K mc) σ H Q := by
  obtain ⟨l, Z, r, l', A, e, qq⟩ := h
  obtain ⟨ox, l1, g1, e⟩ := bind_some.mp e
  obtain ⟨oy, l2, g2, e⟩ := bind_some.mp e
  obtain ⟨w, l3, g3, e⟩ := bind_some.mp e
  obtain ⟨d, l4, g4, e⟩ := bind_some.mp e
  obtain ⟨rfl, rfl⟩ := truth_some g4
  split at g3
  · rename_i ts ht
    obtain ⟨g7, rfl⟩ := lift_some.mp g3
    refine ⟨l, Z, ox, l1, A, g1, fun x H1 Z1 P1 R1 => ⟨l1, Z1, oy, l2, P1.po.al, g2, fun y H2 Z2 P2 R2 => ?_⟩⟩
    have R1' : OR K H Z2 H2 σ ox x := R1.ex P2.po P1.po.al (P1.elder A)
    have R2' : OR K H Z2 H2 σ oy y := R2.old P1.po.ex
    refine rP_use2 P2.po.al (P1.trans P2) (.cons R1' (.cons R2' .nil)) ht g7 fun z H3 Z3 P3 PP r3 => ?_
    cases r3
    refine ⟨d, rfl, ?_⟩
    cases d with
    | false =>
      obtain ⟨rfl, rfl⟩ := ret_some.mp e
      exact qq _ H3 Z3 P3 (.bl false)
    | true =>
      simp only [if_true] at e ⊢
      obtain ⟨oz, l5, g5, e⟩ := bind_some.mp e
      split at e
      · rename_i us hu
        obtain ⟨g6, rfl⟩ := lift_some.mp e
        refine ⟨l2, Z3, oz, l5, P3.po.al, g5, fun z H4 Z4 P4 R4 => ?_⟩
        have R3 : OR K H Z3 H3 σ oy y := R2'.ex PP.po P2.po.al ((P1.trans P2).elder A)
        have R3' : OR K H Z4 H4 σ oy y := R3.ex P4.po P3.po.al (P3.elder A)
        exact rP_use P4.po.al (P3.trans P4) (.cons R3' (.cons (R4.old P3.po.ex) .nil)) hu g6 fun v H5 Z5 P5 r5 => qq v H5 Z5 P5 r5
      · cases e
  · cases g3
end
end Ir

set_option Elab.async false
set_option linter.all false
namespace Ir
open PySem L2

section
variable {X : L2.Cx} {K : PySem.W.Frag} {H H0 H' H1 H2 : Hp} {Z Z0 Z' Z1 Z2 Zc : Addr → Prop} {l l0 l1 l2 l' : Loc} {σ σ1 σ2 σ' : St} {t : T} {ts fin : List T} {v x y : V} {vs : List V} {a b : Addr} {o : Op} {os : List Op} {e e1 e2 e3 : Expr} {es : List Expr} {pos apos cpos : Pos} {bs : List Bool} {Q : VK} {m n : M Vl} {k : Nat}

/-- a list of one's own, at a name -/
theorem own_list {xs : List T} (A : AL K H Z l σ) (e : own k l = some (.lst xs, l')) : l' = l ∧ ∃ a vs, σ[k]? = some (some (.ref a)) ∧ H a = some (.lst vs) ∧ RFs K H Z xs vs := by
  obtain ⟨rfl, s, h1, h2, _⟩ := own_get e
  obtain ⟨a, h3, h4, _⟩ := A.ow k s _ h1 h2
  cases h4 with
  | lst g r => exact ⟨rfl, a, _, h3, g, r⟩
def popM (k : Nat) : M Vl := bind (own k) fun t => match t with
    | .lst xs => match xs.getLast? with
      | some x => bind (put k (.lst xs.dropLast)) fun _ => ret (.fr x)
      | none => fun _ => none
    | _ => fun _ => none
theorem pE_pop (h : PE X e (tVar k)) (hb : attributeBase e "pop" X.env (eval e X.env) = eval e X.env) (hl : (apos.endLine == cpos.line) = true) :
    PE X (.Call (.Attribute e "pop" apos) [] [] cpos) (rE X.K (popM k)) := (pe_bm0 PySem.F.plainAttrs_list PySem.F.slot_list_pop PySem.F.type_list_pop mt_pop h hb hl).irw fun σ H Q ⟨l, Z, r, l', A, e0, q⟩ => by
  obtain ⟨t, l1, e1, e3⟩ := bind_some.mp e0
  cases t with
  | lst xs =>
    obtain ⟨hll, a, vs, h1, h2, r2⟩ := own_list A e1
    have e3 : (match xs.getLast? with
      | some x => bind (put k (.lst xs.dropLast)) fun _ => ret (Vl.fr x)
      | none => fun _ => none) l1 = some (r, l') := e3
    subst hll
    cases hx : xs.getLast? with
    | some x =>
      rw [hx] at e3
      obtain ⟨_, l2, e2, e4⟩ := bind_some.mp e3
      obtain ⟨rfl, rfl⟩ := ret_some.mp e4
      have hx' : xs[xs.length - 1]? = some x := by rw [List.getLast?_eq_getElem?] at hx; exact hx
      obtain ⟨v, hv, rv⟩ := r2.get hx'
      refine ⟨_, h1, .inl ⟨rfl, vs, SqL.of h2⟩, a, vs, v, rfl, rfl, h2, by rw [← r2.length]; exact hv, ?_⟩
      have P := put_post A e2 h1 r2.dropLast
      exact q v _ Z P (rv.ex (P.po.ex) (W_sub A))
    | none => rw [hx] at e3; cases e3
  | _ => cases e3
def popAtM (k : Nat) (m : M Vl) : M Vl := bind (own k) fun t0 => if isLst t0 then bind m fun v => match v with
    | .fr (.int i) => bind (own k) fun t => match t with
      | .lst xs => match (if small i then ixN xs.length i else none) with
        | some j => match xs[j]? with
          | some x => bind (put k (.lst (xs.eraseIdx j))) fun _ => ret (Vl.fr x)
          | none => fun _ => none
        | none => fun _ => none
      | _ => fun _ => none
    | _ => fun _ => none
    else fun _ => none
theorem ixN_seq {n : Nat} {i : Int} {j : Nat} (h : ixN n i = some j) : seqIndex? i n = some j := by
  unfold ixN at h
  unfold seqIndex?
  split at h
  · split at h
    · cases h
      rename_i h1 h2
      simp only [show ¬ i < 0 by omega, if_false]
      simp [h1, h2]
    · cases h
  · split at h
    · cases h
      rename_i h1 h2
      simp only [show i < 0 by omega, if_true]
      simp [h2]
      omega
    · cases h
theorem ixN_lt {n : Nat} {i : Int} {j : Nat} (h : ixN n i = some j) : j < n := by
  unfold ixN at h
  split at h
  · split at h
    · cases h; omega
    · cases h
  · split at h
    · cases h; omega
    · cases h
theorem small_iff {i : Int} (h : small i = true) : -(2 ^ 62) ≤ i ∧ i < 2 ^ 62 := by
  unfold small at h
  exact of_decide_eq_true h

theorem pE_popAt (h : PE X e (tVar k)) (hi : PE X e2 (rE X.K m)) (hb : attributeBase e "pop" X.env (eval e X.env) = eval e X.env) (hl : (apos.endLine == cpos.line) = true)
    (hs : starEach [e2] X.env = (false, eval e2 X.env) :: starEach [] X.env) (hf : ((backTo cpos (starEach [e2] X.env)).all (fun x => !x.1) && (backToKw cpos (keywordEach [] X.env)).all (fun x => x.1.isSome)
      && decide ([e2].length + ([] : List Keyword).length + (if ([] : List Keyword).isEmpty then 0 else 1) < 30)) = true) :
    PE X (.Call (.Attribute e "pop" apos) [e2] [] cpos) (rE X.K (popAtM k m)) := (pe_bm PySem.F.plainAttrs_list PySem.F.slot_list_pop PySem.F.type_list_pop mt_popAt h (pa_cons hi pa_nil hs) hb hf hl hs rfl).irw fun σ H Q ⟨l, Z, r, l', A, e0, q⟩ => by
  obtain ⟨t0, l0, e1, e2⟩ := bind_some.mp e0
  split at e2
  · rename_i hl0
    cases t0 with
    | lst xs0 =>
      obtain ⟨rfl, a, vs0, h1, h2, _⟩ := own_list A e1
      obtain ⟨w, l1, e3, e4⟩ := bind_some.mp e2
      split at e4
      · rename_i i
        obtain ⟨t, l2, e5, e6⟩ := bind_some.mp e4
        cases t with
        | lst xs =>
          have e6 : (match (if small i = true then ixN xs.length i else none) with
        | some j => match xs[j]? with
          | some x => bind (put k (.lst (xs.eraseIdx j))) fun _ => ret (Vl.fr x)
          | none => fun _ => none
        | none => fun _ => none) l2 = some (r, l') := e6
          cases hj : (if small i = true then ixN xs.length i else none) with
          | some j =>
            rw [hj] at e6
            split at hj
            · rename_i hsm
              have e6 : (match xs[j]? with
                | some x => bind (put k (.lst (xs.eraseIdx j))) fun _ => ret (Vl.fr x)
                | none => fun _ => none) l2 = some (r, l') := e6
              cases hx : xs[j]? with
              | some x =>
                rw [hx] at e6
                obtain ⟨_, l3, e7, e8⟩ := bind_some.mp e6
                obtain ⟨rfl, rfl⟩ := ret_some.mp e8
                refine ⟨_, h1, .inl ⟨rfl, vs0, SqL.of h2⟩, l0, Z, _, l1, A, e3, fun v H1 Z1 P R => ?_⟩
                cases R
                obtain ⟨rfl, a', vs, g1, g2, r2⟩ := own_list P.po.al e5
                obtain rfl := own_inj h1 g1
                obtain ⟨v, hv, rv⟩ := r2.get hx
                obtain ⟨s1, s2⟩ := small_iff hsm
                refine ⟨a, vs, i, j, v, rfl, rfl, g2, by omega, by omega, by rw [← r2.length]; exact ixN_seq hj, hv, ?_⟩
                have P2 := put_post P.po.al e7 g1 (r2.eraseIdx j)
                exact q v _ Z1 (P.trans P2) (rv.ex (P2.po.ex) (W_sub P.po.al))
              | none => rw [hx] at e6; cases e6
            · cases hj
          | none => rw [hj] at e6; cases e6
        | _ => cases e6
      · cases e4
    | _ => cases hl0
  · cases e2
end
end Ir

set_option Elab.async false
set_option linter.all false
namespace Ir
open PySem L2

/-- the values of a dict with tuple keys -/
def Itdt (d : Addr) (o : Obj) (kvs : List (List Key × V)) : L2.It :=
  ⟨fun i H => H d = some (.frz o (.dT kvs)) ∧ i < kvs.length, fun i H x H' => H' = H ∧ ∃ k, kvs[i]? = some (k, x), fun i H => H d = some (.frz o (.dT kvs)) ∧ kvs.length ≤ i⟩
/-- what is walked -/
inductive SrcAt (K : PySem.W.Frag) (H : Hp) (Z : Addr → Prop) : L2.It → List T → Option Addr → Prop
  | own {a : Addr} {vs : List V} {xs : List T} : H a = some (.lst vs) → RFs K H Z xs vs → SrcAt K H Z (Itl K a) xs (some a)
  | lst {a : Addr} {vs : List V} {xs : List T} : Rd H a (.lst vs) → Z a → RFs K H Z xs vs → SrcAt K H Z (Itl K a) xs none
  | kls {a : Addr} {vs : List V} {xs : List T} : Kn K a vs → RFs K H Z xs vs → SrcAt K H Z (Itl K a) xs none
  | tup {a : Addr} {vs : List V} {xs : List T} : SqT K H a vs → RFs K H Z xs vs → SrcAt K H Z (Itt K a) xs none
  | rng (lo : Int) (n : Nat) : SrcAt K H Z (Itr lo n) ((List.range n).map fun (i : Nat) => T.int (lo + (i : Int))) none
  | rngc (lo c : Int) (n : Nat) : SrcAt K H Z (Itc lo c n) ((List.range n).map fun (i : Nat) => T.int (lo + (i : Int) * c)) none
  | str (x : Str) : SrcAt K H Z (Its x) (x.cps.toList.map fun c => T.str [c]) none
  | dky {a : Addr} {o : Obj} {kvs : List (Key × V)} {xs : List T} : H a = some (.frz o (.dK kvs)) → kvs.map (fun p => kT p.1) = xs → SrcAt K H Z (Itk a o kvs) xs none
  | dkt {a : Addr} {o : Obj} {kvs : List (List Key × V)} {xs : List T} : H a = some (.frz o (.dT kvs)) → kvs.map (fun p => kTs p.1) = xs → SrcAt K H Z (Itkt a o kvs) xs none
  | dvy {a : Addr} {o : Obj} {kvs : List (Key × V)} {vs : List V} {xs : List T} : H a = some (.frz o (.dK kvs)) → kvs.map (fun p => p.2) = vs → RFs K H Z xs vs → SrcAt K H Z (Itd a o kvs) xs none
  | dvt {a : Addr} {o : Obj} {kvs : List (List Key × V)} {vs : List V} {xs : List T} : H a = some (.frz o (.dT kvs)) → kvs.map (fun p => p.2) = vs → RFs K H Z xs vs → SrcAt K H Z (Itdt a o kvs) xs none

section
variable {X : L2.Cx} {K : PySem.W.Frag} {H H0 H' H1 H2 : Hp} {Z Z0 Z' Z1 Z2 Zc W : Addr → Prop} {l l0 l1 l2 l' : Loc} {σ σ1 σ2 σ' : St} {t x : T} {ts xs fin : List T} {v y : V} {vs : List V} {a b : Addr} {o : Op} {os : List Op} {e e1 e2 e3 : Expr} {es : List Expr} {pos apos cpos : Pos} {bs : List Bool} {Q : VK} {m n : M Vl} {k : Nat} {J : L2.It} {r : Option Addr}

theorem frz_ex {o : Obj} {u : HO} (e : Ex W Z Z' H H') (hw : ∀ b, W b → Mu H b ∧ ¬ Z b) (h : H a = some (.frz o u)) : H' a = some (.frz o u) :=
  e.fr _ _ h fun w => by
    obtain ⟨⟨u', q, m⟩, _⟩ := hw a w
    rw [h] at q
    cases q
    exact m
/-- a key's value -/
theorem kT_rf (k : Key) : RF K H Z (kT k) (kV k) := by
  cases k with
  | inl i => exact .int i
  | inr x => exact .str x
theorem kTs_rfs : ∀ (k : List Key), RFs K H Z (k.map kT) (k.map kV)
  | [] => .nil
  | k :: ks => .cons (kT_rf k) (kTs_rfs ks)
theorem kTs_rf {k : List Key} (h : H a = some (.tup (k.map kV))) : RF K H Z (kTs k) (.ref a) := .tup (.inl (.inl h)) (kTs_rfs k)
theorem SrcAt.ex (h : SrcAt K H Z J xs r) (e : Ex W Z Z' H H') (hw : ∀ b, W b → Mu H b ∧ ¬ Z b) (n : ∀ a, r = some a → ¬ W a) : SrcAt K H' Z' J xs r := by
  cases h with
  | own h1 h2 => exact .own (e.fr _ _ h1 (n _ rfl)) (h2.ex e hw)
  | lst h1 z h2 => exact .lst (Rd.ex e hw (fun _ => z) h1) (e.up _ z) (h2.ex e hw)
  | kls h1 h2 => exact .kls h1 (h2.ex e hw)
  | tup h1 h2 => exact .tup (SqT.ex e hw h1) (h2.ex e hw)
  | rng lo m => exact .rng lo m
  | rngc lo c m => exact .rngc lo c m
  | str x => exact .str x
  | dky h1 h2 => exact .dky (frz_ex e hw h1) h2
  | dkt h1 h2 => exact .dkt (frz_ex e hw h1) h2
  | dvy h1 h2 r => exact .dvy (frz_ex e hw h1) h2 (r.ex e hw)
  | dvt h1 h2 r => exact .dvt (frz_ex e hw h1) h2 (r.ex e hw)
theorem SqL.rd (h : Rd H a (.lst vs)) : SqL K H a vs := .inl h
/-- the turn's item; where the loop ends -/
theorem SrcAt.go {i : Nat} (h : SrcAt K H Z J xs r) (hi : i < xs.length) : J.go i H := by
  cases h with
  | own h1 h2 => exact ⟨_, _, SqL.of h1, List.getElem?_eq_getElem (by rw [← h2.length]; exact hi)⟩
  | lst h1 z h2 => exact ⟨_, _, .inl h1, List.getElem?_eq_getElem (by rw [← h2.length]; exact hi)⟩
  | kls h1 h2 => exact ⟨_, _, h1.sq, List.getElem?_eq_getElem (by rw [← h2.length]; exact hi)⟩
  | tup h1 h2 => exact ⟨_, _, h1, List.getElem?_eq_getElem (by rw [← h2.length]; exact hi)⟩
  | rng lo n => exact (show i < n by simpa using hi)
  | rngc lo c n => exact (show i < n by simpa using hi)
  | str x => exact (show i < x.cps.size by simpa using hi)
  | dky h1 h2 => exact ⟨h1, by subst h2; simpa using hi⟩
  | dkt h1 h2 => exact ⟨h1, by subst h2; simpa using hi⟩
  | dvy h1 h2 r => exact ⟨h1, by subst h2; have := r.length; simp at this; omega⟩
  | dvt h1 h2 r => exact ⟨h1, by subst h2; have := r.length; simp at this; omega⟩
theorem SrcAt.yld {i : Nat} (h : SrcAt K H Z J xs r) (hx : xs[i]? = some x) (hy : J.yld i H v H') : H' = H ∧ RF K H Z x v := by
  cases h with
  | own h1 h2 =>
    obtain ⟨e, y⟩ := hy
    obtain ⟨w, g1, g2⟩ := h2.get hx
    have := y _ (SqL.of h1)
    rw [g1] at this
    cases this
    exact ⟨e, g2⟩
  | lst h1 z h2 =>
    obtain ⟨e, y⟩ := hy
    obtain ⟨w, g1, g2⟩ := h2.get hx
    have := y _ (.inl h1)
    rw [g1] at this
    cases this
    exact ⟨e, g2⟩
  | kls h1 h2 =>
    obtain ⟨e, y⟩ := hy
    obtain ⟨w, g1, g2⟩ := h2.get hx
    have := y _ h1.sq
    rw [g1] at this
    cases this
    exact ⟨e, g2⟩
  | tup h1 h2 =>
    obtain ⟨e, y⟩ := hy
    obtain ⟨w, g1, g2⟩ := h2.get hx
    have := y _ h1
    rw [g1] at this
    cases this
    exact ⟨e, g2⟩
  | rng lo n =>
    obtain ⟨e, y⟩ := hy
    subst y
    rw [List.getElem?_map] at hx
    cases q : (List.range n)[i]? with
    | none => rw [q] at hx; cases hx
    | some j =>
      rw [q] at hx
      obtain ⟨h1, h2⟩ := List.getElem?_eq_some_iff.mp q
      rw [List.getElem_range] at h2
      subst h2
      cases hx
      exact ⟨e, .int _⟩
  | rngc lo c n =>
    obtain ⟨e, y⟩ := hy
    subst y
    rw [List.getElem?_map] at hx
    cases q : (List.range n)[i]? with
    | none => rw [q] at hx; cases hx
    | some j =>
      rw [q] at hx
      obtain ⟨h1, h2⟩ := List.getElem?_eq_some_iff.mp q
      rw [List.getElem_range] at h2
      subst h2
      cases hx
      exact ⟨e, .int _⟩
  | str z =>
    obtain ⟨e, c, y, rfl⟩ := hy
    rw [List.getElem?_map, Array.getElem?_toList, y] at hx
    cases hx
    exact ⟨e, .str ⟨#[c]⟩⟩
  | dky h1 h2 =>
    obtain ⟨e, k, w, h3, rfl⟩ := hy
    subst h2
    rw [List.getElem?_map, h3] at hx
    cases hx
    exact ⟨e, kT_rf k⟩
  | dkt h1 h2 =>
    obtain ⟨e, k, w, q, h3, rfl, h4⟩ := hy
    subst h2
    rw [List.getElem?_map, h3] at hx
    cases hx
    exact ⟨e, kTs_rf h4⟩
  | dvy h1 h2 r =>
    obtain ⟨e, k, h3⟩ := hy
    subst h2
    obtain ⟨w, g1, g2⟩ := r.get hx
    rw [List.getElem?_map, h3] at g1
    cases g1
    exact ⟨e, g2⟩
  | dvt h1 h2 r =>
    obtain ⟨e, k, h3⟩ := hy
    subst h2
    obtain ⟨w, g1, g2⟩ := r.get hx
    rw [List.getElem?_map, h3] at g1
    cases g1
    exact ⟨e, g2⟩
theorem SrcAt.stop {i : Nat} (h : SrcAt K H Z J xs r) (hi : xs.length ≤ i) : J.stop i H := by
  cases h with
  | own h1 h2 => exact ⟨_, SqL.of h1, by rw [← h2.length]; exact hi⟩
  | lst h1 z h2 => exact ⟨_, .inl h1, by rw [← h2.length]; exact hi⟩
  | kls h1 h2 => exact ⟨_, h1.sq, by rw [← h2.length]; exact hi⟩
  | tup h1 h2 => exact ⟨_, h1, by rw [← h2.length]; exact hi⟩
  | rng lo n => exact (show n ≤ i by simpa using hi)
  | rngc lo c n => exact (show n ≤ i by simpa using hi)
  | str x => exact (show x.cps.size ≤ i by simpa using hi)
  | dky h1 h2 => exact ⟨h1, by subst h2; simpa using hi⟩
  | dkt h1 h2 => exact ⟨h1, by subst h2; simpa using hi⟩
  | dvy h1 h2 r => exact ⟨h1, by subst h2; have := r.length; simp at this; omega⟩
  | dvt h1 h2 r => exact ⟨h1, by subst h2; have := r.length; simp at this; omega⟩

/-- the source of a loop -/
def rI (K : PySem.W.Frag) (m : M (Op × List T)) : TI := fun σ H R => ∃ l Z oi l', AL K H Z l σ ∧ m l = some (oi, l') ∧
  ∀ J H' Z' r, PostE K l σ Z H l' Z' H' → SrcAt K H' Z' J oi.2 r → (∀ a, r = some a → ¬ Ir.W (lock oi.1 l') σ a ∧ (Own l' σ a ∨ H a = none)) → R J H'
theorem _root_.L2.PI.irw {tg iter : Expr} {w w' : TI} (h : PI X tg iter w) (g : ∀ σ H R, w' σ H R → w σ H R) : PI X tg iter w' := ⟨fun pins s σ H R I q => h.run pins s σ H R I (g σ H R q)⟩
/-- a list, a tuple or a text -/
theorem pi_any {tg e : Expr} {te : TE} (he : PE X e te) : PI X tg e (fun σ H R => te σ H fun x H1 =>
    (∃ a, x = .ref a ∧ (∃ xs, SqL X.K H1 a xs) ∧ R (Itl X.K a) H1) ∨ (∃ a, x = .ref a ∧ (∃ xs, SqT X.K H1 a xs) ∧ R (Itt X.K a) H1) ∨ ∃ z, x = .str z ∧ R (Its z) H1) := by
  refine ⟨fun pins s σ H R I h => thn (he.run pins s σ H _ I h) fun v s1 ⟨y, H1, I1, r1, q⟩ => ?_⟩
  rcases q with ⟨a, rfl, ⟨xs, hq⟩, q⟩ | ⟨a, rfl, ⟨xs, hq⟩, q⟩ | ⟨x, rfl, q⟩
  · cases r1
    obtain ⟨its, _, p, _⟩ := I1.list hq
    exact wpAny_pyIter_list p.isList (pi_one (tk := s1.toks) I1 _ (turn_list a _) ⟨_, Heap.get?_push_size _ rfl, rfl, rfl⟩ q)
  · cases r1
    obtain ⟨its, _, p, _⟩ := I1.tuple hq
    exact wpAny_pyIter_tuple (show s1.heap.IsTuple a its.toArray from p) (pi_one (tk := s1.toks) I1 _ (turn_tuple a _) ⟨_, Heap.get?_push_size _ rfl, rfl, rfl⟩ q)
  · obtain ⟨t, rfl⟩ := r1
    cases ha : x.cps.all (· < 128)
    · exact wpAny_pyIter_wide ha (pi_one (tk := s1.toks) I1 _ (turn_str _ x t "str_iterator" (.inr rfl)) ⟨_, Heap.get?_push_size _ rfl, rfl, rfl⟩ q)
    · exact wpAny_pyIter_ascii ha (pi_one (tk := s1.toks) I1 _ (turn_str _ x t "str_ascii_iterator" (.inl rfl)) ⟨_, Heap.get?_push_size _ rfl, rfl, rfl⟩ q)
end
end Ir

set_option Elab.async false
set_option linter.all false
namespace Ir
open PySem L2

section
variable {X : L2.Cx} {K : PySem.W.Frag} {H H0 H' H1 H2 : Hp} {Z Z0 Z' Z1 Z2 Zc : Addr → Prop} {l l0 l1 l2 l' : Loc} {σ σ1 σ2 σ' : St} {t x : T} {ts xs fin : List T} {v y : V} {vs : List V} {a b : Addr} {o : Op} {os : List Op} {e e1 e2 e3 tg : Expr} {es : List Expr} {pos apos cpos p : Pos} {bs : List Bool} {Q : VK} {m n : M Vl} {k : Nat} {J : L2.It} {r : Option Addr}

def itM (m : M Op) : M (Op × List T) := bind m fun o => fun l => match o.tree l with
    | some (.lst xs) => some ((o, xs), l)
    | some (.tup xs) => some ((o, xs), l)
    | some (.str xs) => some ((o, xs.map fun c => .str [c]), l)
    | _ => none
/-- an operand that is a list of one's own -/
def isOwn (l : Loc) : Op → Prop
  | .vl (.ow _) => True
  | .vl (.fr _) => False
  | .pl k => ∃ s t, l[k]? = some s ∧ s.own = some t
theorem OR.peek2 {H0 : Hp} (h : OR K H0 Z1 H1 σ o v) (A : AL K H1 Z1 l σ) (e : o.tree l = some t) : RF K H1 Z1 t v ∨ ∃ a, v = .ref a ∧ OA K H1 Z1 t a ∧ ¬ Z1 a ∧ isOwn l o := by
  cases o with
  | vl r =>
    cases r with
    | fr u =>
      have e : u = t := Option.some.inj e
      subst e
      exact .inl h
    | ow u =>
      have e : u = t := Option.some.inj e
      subst e
      obtain ⟨a, rfl, o, z, _⟩ := h
      exact .inr ⟨a, rfl, o, z, trivial⟩
  | pl k =>
    have h : σ[k]? = some (some v) := h
    have e : slT l[k]? = some t := e
    cases q : l[k]? with
    | none => rw [q] at e; simp [slT] at e
    | some s =>
      rw [q] at e
      rcases Sl.tree_own e with rfl | g
      · obtain ⟨w, h1, h2⟩ := A.fr k t q
        rw [h] at h1
        cases h1
        exact .inl h2
      · obtain ⟨a, h1, h2, h3⟩ := A.ow k s t q g
        rw [h] at h1
        cases h1
        exact .inr ⟨a, rfl, h2, h3, s, t, q, g⟩
/-- the list that is walked is locked -/
theorem lock_off (A : AL K H1 Z1 l σ) (R : OR K H Z1 H1 σ o (.ref a)) (ho : o.tree l = some t) (io : isOwn l o) (el : ∀ b, W l σ b → H b ≠ none) : ¬ W (lock o l) σ a := by
  cases o with
  | vl u =>
    intro w
    cases u with
    | fr u => exact io.elim
    | ow u =>
      obtain ⟨c, e, _, _, n⟩ := R
      cases e
      exact el a w n
  | pl k =>
    rintro ⟨i, s, h1, h2, h3⟩
    have R : σ[k]? = some (some (.ref a)) := R
    have ho : slT l[k]? = some t := ho
    cases hk : l[k]? with
    | none => rw [hk] at ho; cases ho
    | some sk =>
      rw [hk] at ho
      have own : ∃ t', sk.own = some t' := by
        obtain ⟨s2, t2, g1, g2⟩ := io
        rw [hk] at g1
        cases g1
        exact ⟨t2, g2⟩
      obtain ⟨t', ho'⟩ := own
      have old : l[i]? = some s ∨ ∃ u, s = .lk u := by
        unfold lock at h1
        simp only [hk] at h1
        split at h1
        · rcases get_set h1 with ⟨_, _, q⟩ | ⟨_, q⟩
          · exact .inr ⟨_, q⟩
          · exact .inl q
        · rcases get_set h1 with ⟨_, _, q⟩ | ⟨_, q⟩
          · exact .inr ⟨_, q⟩
          · exact .inl q
        · exact .inl h1
      rcases old with old | ⟨u, rfl⟩
      · obtain ⟨t2, ht2⟩ := Sl.own_of_mut h2
        have := A.dj i k s sk t2 t' a old ht2 hk ho' h3 R
        subst this
        rw [hk] at old
        cases old
        -- the very name: it is locked
        unfold lock at h1
        simp only [hk] at h1
        have hl := (List.getElem?_eq_some_iff.mp hk).1
        cases s with
        | ow u =>
          simp only at h1
          rw [List.getElem?_set_self hl] at h1
          cases h1
        | rw u =>
          simp only at h1
          rw [List.getElem?_set_self hl] at h1
          cases h1
        | _ => cases h2
      · cases h2
theorem pI_e {m : M Op} (h : PE X e (rO X.K m)) : PI X tg e (rI X.K (itM m)) := (pi_any h).irw fun σ H R ⟨l, Z, oi, l', A, e0, q⟩ => by
  obtain ⟨o, l1, e1, e2⟩ := bind_some.mp e0
  refine ⟨l, Z, o, l1, A, e1, fun v H1 Z1 P R1 => ?_⟩
  have el := P.elder A
  split at e2
  · rename_i xs ht
    cases e2
    rcases R1.peek2 P.po.al ht with q1 | ⟨a, rfl, q1, hz, io⟩
    · cases q1 with
      | lst h1 z r => exact .inl ⟨_, rfl, ⟨_, .inl h1⟩, q _ H1 Z1 none P (.lst h1 z r) (fun a e => by cases e)⟩
      | kls h1 r => exact .inl ⟨_, rfl, ⟨_, h1.sq⟩, q _ H1 Z1 none P (.kls h1 r) (fun a e => by cases e)⟩
    · cases q1 with
      | lst h1 r =>
        refine .inl ⟨_, rfl, ⟨_, SqL.of h1⟩, ?_⟩
        exact q _ H1 Z1 (some a) P (.own h1 r) (fun a' e => by
          cases e
          refine ⟨lock_off P.po.al R1 ht io el, ?_⟩
          cases o with
          | vl u =>
            cases u with
            | fr t => cases io
            | ow t =>
              obtain ⟨a', e', _, _, n⟩ := R1
              cases e'
              exact .inr n
          | pl k =>
            obtain ⟨s, t, i1, i2⟩ := io
            exact .inl ⟨k, s, t, i1, i2, R1⟩)
  · rename_i xs ht
    cases e2
    rcases R1.peek P.po.al ht with q1 | ⟨a, rfl, q1⟩
    · cases q1 with
      | tup h1 r => exact .inr (.inl ⟨_, rfl, ⟨_, h1⟩, q _ H1 Z1 none P (.tup h1 r) (fun a e => by cases e)⟩)
    · cases q1
  · rename_i xs ht
    cases e2
    rcases R1.peek P.po.al ht with q1 | ⟨a, rfl, q1⟩
    · cases q1 with
      | str z => exact .inr (.inr ⟨_, rfl, q _ H1 Z1 none P (.str z) (fun a e => by cases e)⟩)
    · cases q1
  · cases e2
theorem rangeL_map (a b : Int) : (rangeL a b).map T.int = (List.range (b - a).toNat).map fun (i : Nat) => T.int (a + (i : Int)) := by
  unfold rangeL
  rw [List.map_map]
  rfl
def rng1M (m : M Vl) : M (Op × List T) := bind m fun v => match v with
    | .fr (.int b) => if small b = true then ret (.vl (.fr .non), (rangeL 0 b).map .int) else fun _ => none
    | _ => fun _ => none
theorem pI_rng1 (hg : Gl X "range") (hm : X.mg "range" = none) (ha : PE X e (rE X.K m)) (hs : starEach [e] X.env = [(false, eval e X.env)]) : PI X tg (.Call (.Name "range" p) [e] [] pos) (rI X.K (rng1M m)) :=
  (pi_range1 hg hm (pa_cons ha pa_nil (by rw [hs]; rfl)) hs).irw fun σ H R ⟨l, Z, oi, l', A, e0, q⟩ => by
  obtain ⟨w, l1, e1, e2⟩ := bind_some.mp e0
  split at e2
  · rename_i b
    split at e2
    · rename_i hb
      obtain ⟨rfl, rfl⟩ := ret_some.mp e2
      refine ⟨l, Z, _, l1, A, e1, fun v H1 Z1 P R1 => ?_⟩
      cases R1
      obtain ⟨s1, s2⟩ := small_iff hb
      refine ⟨b, rfl, s1, s2, q _ H1 Z1 none P ?_ (fun a e => by cases e)⟩
      show SrcAt X.K H1 Z1 (Itr 0 b.toNat) ((rangeL 0 b).map T.int) none
      rw [rangeL_map, Int.sub_zero]
      exact .rng 0 b.toNat
    · cases e2
  · cases e2
def rng2M (m n : M Vl) : M (Op × List T) := bind m fun v => bind n fun w => match v, w with
    | .fr (.int a), .fr (.int b) => if (small a && small b) = true then ret (.vl (.fr .non), (rangeL a b).map .int) else fun _ => none
    | _, _ => fun _ => none
theorem pI_rng2 (hg : Gl X "range") (hm : X.mg "range" = none) (ha : PE X e (rE X.K m)) (hb : PE X e2 (rE X.K n)) (hs : starEach [e, e2] X.env = [(false, eval e X.env), (false, eval e2 X.env)]) (hs2 : starEach [e2] X.env = [(false, eval e2 X.env)]) :
    PI X tg (.Call (.Name "range" p) [e, e2] [] pos) (rI X.K (rng2M m n)) :=
  (pi_range2 hg hm (pa_cons ha (pa_cons hb pa_nil (by rw [hs2]; rfl)) (by rw [hs, hs2])) hs hs2).irw fun σ H R ⟨l, Z, oi, l', A, e0, q⟩ => by
  obtain ⟨w, l1, e1, e2⟩ := bind_some.mp e0
  obtain ⟨w2, l2, e3, e4⟩ := bind_some.mp e2
  split at e4
  · rename_i a b
    split at e4
    · rename_i hb
      obtain ⟨rfl, rfl⟩ := ret_some.mp e4
      refine ⟨l, Z, _, l1, A, e1, fun v H1 Z1 P R1 => ⟨l1, Z1, _, l2, P.po.al, e3, fun v2 H2 Z2 P2 R2 => ?_⟩⟩
      cases R1
      cases R2
      simp only [Bool.and_eq_true] at hb
      obtain ⟨s1, s2⟩ := small_iff hb.1
      obtain ⟨s3, s4⟩ := small_iff hb.2
      refine ⟨a, b, rfl, ⟨s1, s2, s3, s4⟩, q _ H2 Z2 none (P.trans P2) ?_ (fun a e => by cases e)⟩
      show SrcAt X.K H2 Z2 (Itr a (b - a).toNat) ((rangeL a b).map T.int) none
      rw [rangeL_map]
      exact .rng a (b - a).toNat
    · cases e4
  · cases e4
def rng3M (m n : M Vl) (c : Int) : M (Op × List T) := bind m fun v => bind n fun w => match v, w with
    | .fr (.int a), .fr (.int b) => if (small a && small b && (c == -1 || c == 2)) = true then ret (.vl (.fr .non), (rangeS a b c).map .int) else fun _ => none
    | _, _ => fun _ => none
theorem rgc_two {a b : Int} (h1 : -(2 ^ 62) ≤ a) (h2 : a < 2 ^ 62) (h3 : -(2 ^ 62) ≤ b) (h4 : b < 2 ^ 62) : RgC a b 2 ((b - a + 1) / 2).toNat := by
  have e : Builtin.Range.rangeSize a b 2 = (((b - a + 1) / 2).toNat : Int) := by
    unfold Builtin.Range.rangeSize
    simp only [show (2 : Int) > 0 by decide, if_true]
    split <;> omega
  refine ⟨by decide, by decide, ?_, e⟩
  unfold Builtin.Range.small
  rw [e]
  simp only [Builtin.Range.rangeFitsLong, Bool.and_eq_true, Bool.or_eq_true, decide_eq_true_eq, beq_iff_eq, show (2 : Int) > 0 by decide, if_true]
  omega
theorem pI_rng3 {c : Int} (hg : Gl X "range") (hm : X.mg "range" = none) (ha : PE X e (rE X.K m)) (hb : PE X e2 (rE X.K n)) (hc : PE X e3 (tC (.int c))) (hs : starEach [e, e2, e3] X.env = (false, eval e X.env) :: starEach [e2, e3] X.env) (hs2 : starEach [e2, e3] X.env = (false, eval e2 X.env) :: starEach [e3] X.env) (hs3 : starEach [e3] X.env = (false, eval e3 X.env) :: starEach [] X.env) (hpl : (backTo pos (starEach [e2, e3] X.env)).any (·.1) = false) :
    PI X tg (.Call (.Name "range" p) [e, e2, e3] [] pos) (rI X.K (rng3M m n c)) :=
  (pi_range3 hg hm (pa_cons ha (pa_cons hb (pa_cons hc pa_nil hs3) hs2) hs) hs hpl).irw fun σ H R ⟨l, Z, oi, l', A, e0, q⟩ => by
  obtain ⟨w, l1, e1, e2⟩ := bind_some.mp e0
  obtain ⟨w2, l2, e3, e4⟩ := bind_some.mp e2
  split at e4
  · rename_i a b
    split at e4
    · rename_i hb
      obtain ⟨rfl, rfl⟩ := ret_some.mp e4
      refine ⟨l, Z, _, l1, A, e1, fun v H1 Z1 P R1 => ⟨l1, Z1, _, l2, P.po.al, e3, fun v2 H2 Z2 P2 R2 => ?_⟩⟩
      cases R1
      cases R2
      simp only [Bool.and_eq_true, Bool.or_eq_true, beq_iff_eq] at hb
      obtain ⟨s1, s2⟩ := small_iff hb.1.1
      obtain ⟨s3, s4⟩ := small_iff hb.1.2
      rcases hb.2 with rfl | rfl
      · refine ⟨a, b, -1, (a - b).toNat, rfl, RgC.neg s1 s2 s3 s4, q _ H2 Z2 none (P.trans P2) ?_ (fun a e => by cases e)⟩
        show SrcAt X.K H2 Z2 (Itc a (-1) (a - b).toNat) ((rangeS a b (-1)).map T.int) none
        unfold rangeS
        rw [if_pos rfl, List.map_map]
        exact .rngc a (-1) (a - b).toNat
      · refine ⟨a, b, 2, ((b - a + 1) / 2).toNat, rfl, rgc_two s1 s2 s3 s4, q _ H2 Z2 none (P.trans P2) ?_ (fun a e => by cases e)⟩
        show SrcAt X.K H2 Z2 (Itc a 2 ((b - a + 1) / 2).toNat) ((rangeS a b 2).map T.int) none
        unfold rangeS
        rw [if_neg (by decide), List.map_map]
        exact .rngc a 2 ((b - a + 1) / 2).toNat
    · cases e4
  · cases e4
end
end Ir

set_option Elab.async false
set_option linter.all false
namespace Ir
open PySem L2

section
variable {X : L2.Cx} {K : PySem.W.Frag} {H H0 H' H1 H2 : Hp} {Z Z0 Z' Z1 Z2 Zc : Addr → Prop} {l l0 l1 l2 l' : Loc} {σ σ1 σ2 σ' : St} {t x : T} {ts xs fin : List T} {v y : V} {vs : List V} {a b : Addr} {o : Op} {os : List Op} {ks : List Nat} {k : Nat}

theorem wipeL_len : ∀ {ks : List Nat} {l : Loc}, (wipeL ks l).length = l.length
  | [], l => rfl
  | k :: ks, l => by
    show (wipeL ks (l.set k .no)).length = _
    rw [wipeL_len, List.length_set]
theorem wipeL_out : ∀ {ks : List Nat} {l : Loc} {i : Nat}, i ∉ ks → (wipeL ks l)[i]? = l[i]?
  | [], l, i, _ => rfl
  | k :: ks, l, i, h => by
    simp only [List.mem_cons, not_or] at h
    show (wipeL ks (l.set k .no))[i]? = _
    rw [wipeL_out h.2, List.getElem?_set_ne (Ne.symm h.1)]
theorem wipeL_in : ∀ {ks : List Nat} {l : Loc} {i : Nat} {s : Sl}, i ∈ ks → (wipeL ks l)[i]? = some s → s = .no
  | [], l, i, _, h, _ => by cases h
  | k :: ks, l, i, s, h, e => by
    have e : (wipeL ks (l.set k .no))[i]? = some s := e
    by_cases hi : i ∈ ks
    · exact wipeL_in hi e
    · rw [wipeL_out hi] at e
      rcases List.mem_cons.mp h with rfl | h
      · rcases get_set e with ⟨_, _, q⟩ | ⟨q, _⟩
        · exact q
        · exact absurd rfl q
      · exact absurd h hi
theorem back0_len : ∀ {ks : List Nat} {l : Loc}, (back0 l0 ks l).length = l.length
  | [], l => rfl
  | k :: ks, l => by
    show (back0 l0 ks (match l0[k]? with | some s => l.set k s | none => l)).length = _
    rw [back0_len]
    split
    · rw [List.length_set]
    · rfl
theorem back0_out : ∀ {ks : List Nat} {l : Loc} {i : Nat}, i ∉ ks → (back0 l0 ks l)[i]? = l[i]?
  | [], l, i, _ => rfl
  | k :: ks, l, i, h => by
    simp only [List.mem_cons, not_or] at h
    show (back0 l0 ks (match l0[k]? with | some s => l.set k s | none => l))[i]? = _
    rw [back0_out h.2]
    split
    · rw [List.getElem?_set_ne (Ne.symm h.1)]
    · rfl
theorem back0_in : ∀ {ks : List Nat} {l : Loc} {i : Nat}, l.length = l0.length → i ∈ ks → (back0 l0 ks l)[i]? = l0[i]?
  | [], l, i, _, h => by cases h
  | k :: ks, l, i, hl, h => by
    show (back0 l0 ks (match l0[k]? with | some s => l.set k s | none => l))[i]? = _
    have hl' : (match l0[k]? with | some s => l.set k s | none => l).length = l0.length := by
      split
      · rw [List.length_set]; exact hl
      · exact hl
    by_cases hi : i ∈ ks
    · exact back0_in hl' hi
    · rw [back0_out hi]
      rcases List.mem_cons.mp h with rfl | h
      · split
        · rename_i s hs
          rw [List.getElem?_set_self (by rw [hl]; exact (List.getElem?_eq_some_iff.mp hs).1), hs]
        · rename_i hs
          rw [hs]
          exact List.getElem?_eq_none (by rw [hl]; exact List.getElem?_eq_none_iff.mp hs)
      · exact absurd h hi
/-- the name that is locked -/
def Lkd (l0 : Loc) : Op → Nat → Prop
  | .pl k, i => i = k ∧ ∃ s, l0[k]? = some s ∧ s.mut = true
  | .vl _, _ => False
theorem lock_len : (lock o l).length = l.length := by
  cases o with
  | vl u => rfl
  | pl k =>
    simp only [lock]
    split <;> simp
theorem lock_out {i : Nat} (h : ¬ Lkd l o i) : (lock o l)[i]? = l[i]? := by
  cases o with
  | vl u => rfl
  | pl k =>
    simp only [lock]
    split
    · rename_i u hu
      rw [List.getElem?_set_ne]
      rintro rfl
      exact h ⟨rfl, _, hu, rfl⟩
    · rename_i u hu
      rw [List.getElem?_set_ne]
      rintro rfl
      exact h ⟨rfl, _, hu, rfl⟩
    · rfl
theorem lock_in {i : Nat} (h : Lkd l o i) : ∃ s t, l[i]? = some s ∧ s.mut = true ∧ s.own = some t ∧ (lock o l)[i]? = some (.lk t) := by
  cases o with
  | vl u => cases h
  | pl k =>
    obtain ⟨rfl, s, h1, h2⟩ := h
    have hl := (List.getElem?_eq_some_iff.mp h1).1
    cases s with
    | ow t => exact ⟨_, t, h1, rfl, rfl, by simp only [lock, h1]; exact List.getElem?_set_self hl⟩
    | rw t => exact ⟨_, t, h1, rfl, rfl, by simp only [lock, h1]; exact List.getElem?_set_self hl⟩
    | _ => cases h2
theorem unlock_len : (unlock l0 o l).length = l.length := by
  cases o with
  | vl u => rfl
  | pl k =>
    simp only [unlock]
    split <;> simp
theorem unlock_out {i : Nat} (h : ¬ Lkd l0 o i) : (unlock l0 o l)[i]? = l[i]? := by
  cases o with
  | vl u => rfl
  | pl k =>
    simp only [unlock]
    split
    · rename_i u hu
      rw [List.getElem?_set_ne]
      rintro rfl
      exact h ⟨rfl, _, hu, rfl⟩
    · rename_i u hu
      rw [List.getElem?_set_ne]
      rintro rfl
      exact h ⟨rfl, _, hu, rfl⟩
    · rfl
theorem unlock_in {i : Nat} (hl : l.length = l0.length) (h : Lkd l0 o i) : (unlock l0 o l)[i]? = l0[i]? := by
  cases o with
  | vl u => cases h
  | pl k =>
    obtain ⟨rfl, s, h1, h2⟩ := h
    have hi : i < l.length := by rw [hl]; exact (List.getElem?_eq_some_iff.mp h1).1
    cases s with
    | ow t => simp only [unlock, h1]; exact List.getElem?_set_self hi
    | rw t => simp only [unlock, h1]; exact List.getElem?_set_self hi
    | _ => cases h2

/-- ahead of a block -/
theorem AL.block (A : AL K H Z l σ) : AL K H Z (wipeL ks (lock o l)) (wipe σ ks) := by
  have get : ∀ (i : Nat) (s : Sl), (wipeL ks (lock o l))[i]? = some s → s ≠ .no → i ∉ ks ∧ (wipe σ ks)[i]? = σ[i]? ∧ ∃ s0, l[i]? = some s0 ∧ s0.own = s.own ∧ (s0 = s ∨ Lkd l o i) := fun i s h n => by
    have hi : i ∉ ks := fun hi => n (wipeL_in hi h)
    rw [wipeL_out hi] at h
    refine ⟨hi, wipe_out hi, ?_⟩
    by_cases hk : Lkd l o i
    · obtain ⟨s0, t, h1, h2, h3, h4⟩ := lock_in hk
      rw [h4] at h
      cases h
      exact ⟨s0, h1, h3, .inr hk⟩
    · rw [lock_out hk] at h
      exact ⟨s, h, rfl, .inl rfl⟩
  refine ⟨A.zd, by rw [wipeL_len, lock_len, wipe_length]; exact A.len, fun i t h => ?_, fun i s t h1 h2 => ?_, fun i j s s' t t' a g1 g2 g3 g4 g5 g6 => ?_⟩
  · obtain ⟨_, e, s0, h1, h2, h3⟩ := get i _ h (by intro q; cases q)
    rw [e]
    rcases h3 with rfl | h3
    · exact A.fr i t h1
    · obtain ⟨s, u, h4, h5, h6, h7⟩ := lock_in h3
      rw [h1] at h4
      cases h4
      rw [h6] at h2
      cases h2
  · obtain ⟨_, e, s0, h3, h4, _⟩ := get i s h1 (by rintro rfl; cases h2)
    rw [e]
    exact A.ow i s0 t h3 (h4.trans h2)
  · obtain ⟨_, e, s0, h3, h4, _⟩ := get i s g1 (by rintro rfl; cases g2)
    obtain ⟨_, e', s0', h3', h4', _⟩ := get j s' g3 (by rintro rfl; cases g4)
    rw [e] at g5
    rw [e'] at g6
    exact A.dj i j s0 s0' t t' a h3 (h4.trans g2) h3' (h4'.trans g4) g5 g6
/-- behind a block -/
theorem block_post (A : AL K H1 Z1 l0 σ) (P : PostE K (wipeL ks (lock o l0)) (wipe σ ks) Z1 H1 l Z H) : PostE K l0 σ Z1 H1 (unlock l0 o (back0 l0 ks l)) Z H := by
  have B := P.po.al
  have hlen : l.length = l0.length := by rw [B.len, wipe_length, A.len]
  have hblen : (back0 l0 ks l).length = l0.length := by rw [back0_len]; exact hlen
  -- where the names come from
  have get : ∀ (i : Nat), ((unlock l0 o (back0 l0 ks l))[i]? = l0[i]? ∧ (i ∈ ks ∨ Lkd l0 o i)) ∨ (i ∉ ks ∧ ¬ Lkd l0 o i ∧ (unlock l0 o (back0 l0 ks l))[i]? = l[i]?) := fun i => by
    by_cases hk : Lkd l0 o i
    · exact .inl ⟨unlock_in hblen hk, .inr hk⟩
    · rw [unlock_out hk]
      by_cases hi : i ∈ ks
      · exact .inl ⟨back0_in hlen hi, .inl hi⟩
      · exact .inr ⟨hi, hk, back0_out hi⟩
  -- the names that may change their lists within
  have wold : ∀ b, W (wipeL ks (lock o l0)) (wipe σ ks) b → ∃ j s, j ∉ ks ∧ ¬ Lkd l0 o j ∧ l0[j]? = some s ∧ s.mut = true ∧ σ[j]? = some (some (.ref b)) := fun b ⟨j, s, h1, h2, h3⟩ => by
    have hj : j ∉ ks := fun hj => by have := wipeL_in hj h1; subst this; cases h2
    rw [wipeL_out hj] at h1
    rw [wipe_out hj] at h3
    have hk : ¬ Lkd l0 o j := fun hk => by
      obtain ⟨s0, t, _, _, _, h4⟩ := lock_in hk
      rw [h4] at h1
      cases h1
      cases h2
    rw [lock_out hk] at h1
    exact ⟨j, s, hj, hk, h1, h2, h3⟩
  have oold : ∀ b, Own (wipeL ks (lock o l0)) (wipe σ ks) b → ∃ j s t, j ∉ ks ∧ l0[j]? = some s ∧ s.own = some t ∧ σ[j]? = some (some (.ref b)) := fun b ⟨j, s, t, h1, h2, h3⟩ => by
    have hj : j ∉ ks := fun hj => by have := wipeL_in hj h1; subst this; cases h2
    rw [wipeL_out hj] at h1
    rw [wipe_out hj] at h3
    by_cases hk : Lkd l0 o j
    · obtain ⟨s0, t0, g1, g2, g3, g4⟩ := lock_in hk
      exact ⟨j, s0, t0, hj, g1, g3, h3⟩
    · rw [lock_out hk] at h1
      exact ⟨j, s, t, hj, h1, h2, h3⟩
  have hw := W_sub (A.block (ks := ks) (o := o))
  have noW : ∀ (i : Nat) s t a, l0[i]? = some s → s.own = some t → σ[i]? = some (some (.ref a)) → (i ∈ ks ∨ Lkd l0 o i) → ¬ W (wipeL ks (lock o l0)) (wipe σ ks) a := fun i s t a h1 h2 h3 h4 w => by
    obtain ⟨j, s', g1, g2, g3, g4, g5⟩ := wold a w
    obtain ⟨t', ht'⟩ := Sl.own_of_mut g4
    have := A.dj i j s s' t t' a h1 h2 g3 ht' h3 g5
    subst this
    exact h4.elim g1 g2
  -- a list that was put aside
  have aside : ∀ (i : Nat) s t a, l0[i]? = some s → s.own = some t → σ[i]? = some (some (.ref a)) → OA K H1 Z1 t a → ¬ Z1 a → (i ∈ ks ∨ Lkd l0 o i) → OA K H Z t a ∧ ¬ Z a := fun i s t a h1 h2 h3 h4 h5 h6 => by
    have nw := noW i s t a h1 h2 h3 h6
    refine ⟨h4.ex P.po.ex hw nw, fun z => ?_⟩
    rcases P.po.ex.nw a z with z | z | z
    · exact h5 z
    · exact h4.ne z
    · exact nw z
  have sig : ∀ i, i ∉ ks → (wipe σ ks)[i]? = σ[i]? := fun i hi => wipe_out hi
  have A' : AL K H Z (unlock l0 o (back0 l0 ks l)) σ := by
    refine ⟨B.zd, by rw [unlock_len, hblen]; exact A.len, fun i t h => ?_, fun i s t h1 h2 => ?_, fun i j s s' t t' a g1 g2 g3 g4 g5 g6 => ?_⟩
    · rcases get i with ⟨e, _⟩ | ⟨hi, _, e⟩
      · rw [e] at h
        obtain ⟨w, e1, e2⟩ := A.fr i t h
        exact ⟨w, e1, e2.ex P.po.ex hw⟩
      · rw [e] at h
        obtain ⟨w, e1, e2⟩ := B.fr i t h
        rw [sig i hi] at e1
        exact ⟨w, e1, e2⟩
    · rcases get i with ⟨e, hi⟩ | ⟨hi, _, e⟩
      · rw [e] at h1
        obtain ⟨a, e1, e2, e3⟩ := A.ow i s t h1 h2
        obtain ⟨e4, e5⟩ := aside i s t a h1 h2 e1 e2 e3 hi
        exact ⟨a, e1, e4, e5⟩
      · rw [e] at h1
        obtain ⟨a, e1, e2⟩ := B.ow i s t h1 h2
        rw [sig i hi] at e1
        exact ⟨a, e1, e2⟩
    · -- an own name behind the block was one ahead of it
      have mix : ∀ (i j : Nat) s s' t t', l0[i]? = some s → s.own = some t → (i ∈ ks ∨ Lkd l0 o i) → l[j]? = some s' → s'.own = some t' → j ∉ ks → ¬ Lkd l0 o j → σ[i]? = some (some (.ref a)) → σ[j]? = some (some (.ref a)) → i = j := by
        intro i j s s' t t' h1 h2 h3 h4 h5 h6 h7 h8 h9
        have ob : Own l (wipe σ ks) a := ⟨j, s', t', h4, h5, by rw [sig j h6]; exact h9⟩
        obtain ⟨j', q, u, g1, g2, g3, g4⟩ := oold a (P.os a ob)
        have e := A.dj i j' s q t u a h1 h2 g2 g3 h8 g4
        subst e
        rcases h3 with h3 | h3
        · exact absurd h3 g1
        · -- the locked name: it is still there
          obtain ⟨s0, t0, p1, p2, p3, p4⟩ := lock_in h3
          have p4' : (wipeL ks (lock o l0))[i]? = some (.lk t0) := by rw [wipeL_out g1]; exact p4
          obtain ⟨p5, _⟩ := P.po.lk i t0 p4'
          exact B.dj i j _ s' t0 t' a p5 rfl h4 h5 (by rw [sig i g1]; exact h8) (by rw [sig j h6]; exact h9)
      rcases get i with ⟨e, hi⟩ | ⟨hi, hk, e⟩
      · rcases get j with ⟨e', hj⟩ | ⟨hj, hk', e'⟩
        · rw [e] at g1; rw [e'] at g3
          exact A.dj i j s s' t t' a g1 g2 g3 g4 g5 g6
        · rw [e] at g1; rw [e'] at g3
          exact mix i j s s' t t' g1 g2 hi g3 g4 hj hk' g5 g6
      · rcases get j with ⟨e', hj⟩ | ⟨hj, hk', e'⟩
        · rw [e] at g1; rw [e'] at g3
          exact (mix j i s' s t' t g3 g4 hj g1 g2 hi hk g6 g5).symm
        · rw [e] at g1; rw [e'] at g3
          exact B.dj i j s s' t t' a g1 g2 g3 g4 (by rw [sig i hi]; exact g5) (by rw [sig j hj]; exact g6)
  have wsub : ∀ b, W (wipeL ks (lock o l0)) (wipe σ ks) b → W l0 σ b := fun b w => by
    obtain ⟨j, s, _, _, h1, h2, h3⟩ := wold b w
    exact ⟨j, s, h1, h2, h3⟩
  have wn : ∀ b, W (unlock l0 o (back0 l0 ks l)) σ b → W l0 σ b := fun b ⟨i, s, h1, h2, h3⟩ => by
    rcases get i with ⟨e, hi⟩ | ⟨hi, _, e⟩
    · rw [e] at h1
      exact ⟨i, s, h1, h2, h3⟩
    · rw [e] at h1
      exact wsub b (P.es b ⟨i, s, h1, h2, by rw [sig i hi]; exact h3⟩)
  have on : ∀ b, Own (unlock l0 o (back0 l0 ks l)) σ b → Own l0 σ b := fun b ⟨i, s, t, h1, h2, h3⟩ => by
    rcases get i with ⟨e, hi⟩ | ⟨hi, _, e⟩
    · rw [e] at h1
      exact ⟨i, s, t, h1, h2, h3⟩
    · rw [e] at h1
      obtain ⟨j, s', t', _, g⟩ := oold b (P.os b ⟨i, s, t, h1, h2, by rw [sig i hi]; exact h3⟩)
      exact ⟨j, s', t', g⟩
  have fo : ∀ b, OwR (unlock l0 o (back0 l0 ks l)) σ b → OwR l0 σ b ∨ H1 b = none := fun b ⟨i, t, h1, h3⟩ => by
    rcases get i with ⟨e, hi⟩ | ⟨hi, hk, e⟩
    · rw [e] at h1
      exact .inl ⟨i, t, h1, h3⟩
    · rw [e] at h1
      rcases P.po.fo b ⟨i, t, h1, by rw [sig i hi]; exact h3⟩ with ⟨j, u, g1, g3⟩ | g
      · have hj : j ∉ ks := fun hj => by have := wipeL_in hj g1; cases this
        rw [wipeL_out hj] at g1
        rw [wipe_out hj] at g3
        have hk : ¬ Lkd l0 o j := fun hk => by
          obtain ⟨s0, t, _, _, _, h4⟩ := lock_in hk
          rw [h4] at g1
          cases g1
        rw [lock_out hk] at g1
        exact .inl ⟨j, u, g1, g3⟩
      · exact .inr g
  refine ⟨⟨A', P.po.ex.mono wsub fun b w => (W_sub A b w).1.ne, fun b w => .inl (wn b w), fun i t h => ⟨?_, rfl⟩, fun i t h => ⟨?_, rfl⟩, fo⟩, wn, on⟩
  · rcases get i with ⟨e, _⟩ | ⟨hi, hk, e⟩
    · rw [e]; exact h
    · rw [e]
      exact (P.po.lk i t (by rw [wipeL_out hi, lock_out hk]; exact h)).1
  · rcases get i with ⟨e, _⟩ | ⟨hi, hk, e⟩
    · exact ⟨t, by rw [e]; exact h⟩
    · rw [e]
      exact (P.po.rw i t (by rw [wipeL_out hi, lock_out hk]; exact h)).1
end
end Ir

set_option Elab.async false
set_option linter.all false
namespace Ir
open PySem L2

section
variable {X : L2.Cx} {K : PySem.W.Frag} {H H0 H' H1 H2 : Hp} {Z Z0 Z' Z1 Z2 Zc : Addr → Prop} {l l0 l1 l2 l' : Loc} {σ σ0 σ1 σ2 σ' : St} {t x : T} {ts xs fin : List T} {v y : V} {vs : List V} {a b : Addr} {o : Op} {os : List Op} {ks : List Nat} {k : Nat}

theorem stV_get {s : Sl} (e : stV k s l = some ((), l')) : l' = l.set k s ∧ ∃ s0, l[k]? = some s0 ∧ (∀ t, s0 ≠ .rw t) ∧ ∀ t, s0 ≠ .lk t := by
  unfold stV at e
  split at e
  · rename_i h
    cases e
    exact ⟨rfl, _, h, fun t q => (by cases q), fun t q => (by cases q)⟩
  · rename_i h
    cases e
    exact ⟨rfl, _, h, fun t q => (by cases q), fun t q => (by cases q)⟩
  · rename_i h
    cases e
    exact ⟨rfl, _, h, fun t q => (by cases q), fun t q => (by cases q)⟩
  · cases e
theorem sg_get {i : Nat} {w : Option V} (h : (σ.set k w)[i]? = (σ.set k w)[i]?) : True := trivial
/-- a name gets a value: r its own root, if it has one -/
theorem st_al {s : Sl} (A : AL K H Z l σ) (e0 : stV k s l = some ((), l')) (hf : ∀ t, s = .fr t → RF K H Z t v) (ho : ∀ t, s.own = some t → ∃ a, v = .ref a ∧ OA K H Z t a ∧ ¬ Z a ∧ ¬ Own l σ a) : AL K H Z l' (σ.set k (some v)) := by
  obtain ⟨rfl, s0, hk, _, _⟩ := stV_get e0
  have hkl := (List.getElem?_eq_some_iff.mp hk).1
  have hks : k < σ.length := by rw [← A.len]; exact hkl
  refine ⟨A.zd, by simpa using A.len, fun i t h => ?_, fun i q t h1 h2 => ?_, fun i j q q' t t' c g1 g2 g3 g4 g5 g6 => ?_⟩
  · rcases get_set h with ⟨rfl, _, e⟩ | ⟨n, e⟩
    · exact ⟨v, List.getElem?_set_self hks, hf t e.symm⟩
    · rw [List.getElem?_set_ne (Ne.symm n)]
      exact A.fr i t e
  · rcases get_set h1 with ⟨rfl, _, e⟩ | ⟨n, e⟩
    · subst e
      obtain ⟨a, rfl, o, z, _⟩ := ho t h2
      exact ⟨a, List.getElem?_set_self hks, o, z⟩
    · rw [List.getElem?_set_ne (Ne.symm n)]
      exact A.ow i q t e h2
  · rcases get_set g1 with ⟨rfl, _, e⟩ | ⟨n, e⟩
    · rcases get_set g3 with ⟨rfl, _, e'⟩ | ⟨n', e'⟩
      · rfl
      · subst e
        obtain ⟨a, rfl, _, _, no⟩ := ho t g2
        rw [List.getElem?_set_self hks] at g5
        cases g5
        rw [List.getElem?_set_ne (Ne.symm n')] at g6
        exact absurd ⟨j, q', t', e', g4, g6⟩ no
    · rcases get_set g3 with ⟨rfl, _, e'⟩ | ⟨n', e'⟩
      · subst e'
        obtain ⟨a, rfl, _, _, no⟩ := ho t' g4
        rw [List.getElem?_set_self hks] at g6
        cases g6
        rw [List.getElem?_set_ne (Ne.symm n)] at g5
        exact absurd ⟨i, q, t, e, g2, g5⟩ no
      · rw [List.getElem?_set_ne (Ne.symm n)] at g5
        rw [List.getElem?_set_ne (Ne.symm n')] at g6
        exact A.dj i j q q' t t' c e g2 e' g4 g5 g6
/-- x = value, from the statement's start on -/
theorem st_post {r : Vl} (A0 : AL K H0 Z0 l0 σ) (P : PostE K l0 σ Z0 H0 l Z H) (R : VR K H0 Z H r v) (e : stV k r.sl l = some ((), l')) : Post K l0 σ Z0 H0 l' (σ.set k (some v)) Z H := by
  obtain ⟨e1, s0, hk, nr, nl⟩ := stV_get e
  have A' : AL K H Z l' (σ.set k (some v)) := st_al P.po.al e (fun t q => by
      cases r with
      | fr u => cases q; exact R
      | ow u => cases q) (fun t q => by
      cases r with
      | fr u => cases q
      | ow u =>
        cases q
        obtain ⟨a, rfl, o, z, n⟩ := R
        exact ⟨a, rfl, o, z, fun w => (Own.at A0 a (P.os a w)).1 n⟩)
  subst e1
  have hks : k < σ.length := by rw [← P.po.al.len]; exact (List.getElem?_eq_some_iff.mp hk).1
  refine ⟨A', P.po.ex, fun b ⟨i, s, h1, h2, h3⟩ => ?_, fun i t h => ?_, fun i t h => ?_, fun b ⟨i, t, h1, h3⟩ => ?_⟩
  · rcases get_set h1 with ⟨rfl, _, q⟩ | ⟨n, q⟩
    · subst q
      rw [List.getElem?_set_self hks] at h3
      cases h3
      cases r with
      | fr u => cases h2
      | ow u =>
        obtain ⟨a, e, _, _, n⟩ := R
        cases e
        exact .inr n
    · rw [List.getElem?_set_ne (Ne.symm n)] at h3
      exact .inl (P.es b ⟨i, s, q, h2, h3⟩)
  · obtain ⟨h1, _⟩ := P.po.lk i t h
    have n : i ≠ k := fun q => by subst q; rw [hk] at h1; cases h1; exact nl t rfl
    rw [List.getElem?_set_ne (Ne.symm n), List.getElem?_set_ne (Ne.symm n)]
    exact ⟨h1, rfl⟩
  · obtain ⟨⟨t', h1⟩, _⟩ := P.po.rw i t h
    have n : i ≠ k := fun q => by subst q; rw [hk] at h1; cases h1; exact nr t' rfl
    rw [List.getElem?_set_ne (Ne.symm n), List.getElem?_set_ne (Ne.symm n)]
    exact ⟨⟨t', h1⟩, rfl⟩
  · rcases get_set h1 with ⟨rfl, _, q⟩ | ⟨n, q⟩
    · rw [List.getElem?_set_self hks] at h3
      cases h3
      cases r with
      | fr u => cases q
      | ow u =>
        obtain ⟨a, e, _, _, n⟩ := R
        cases e
        exact .inr n
    · rw [List.getElem?_set_ne (Ne.symm n)] at h3
      exact P.po.fo b ⟨i, t, q, h3⟩
/-- a value that stays -/
theorem stF_post (A : AL K H Z l σ) (r : RF K H Z t v) (e : stV k (.fr t) l = some ((), l')) : Post K l σ Z H l' (σ.set k (some v)) Z H ∧ (∀ b, W l' (σ.set k (some v)) b → W l σ b) ∧ (∀ b, Own l' (σ.set k (some v)) b → Own l σ b) := by
  have P := st_post (r := .fr t) A (PostE.refl A) r e
  obtain ⟨rfl, s0, hk, _⟩ := stV_get e
  have hks : k < σ.length := by rw [← A.len]; exact (List.getElem?_eq_some_iff.mp hk).1
  refine ⟨P, fun b ⟨i, s, h1, h2, h3⟩ => ?_, fun b ⟨i, s, t, h1, h2, h3⟩ => ?_⟩
  · rcases get_set h1 with ⟨rfl, _, q⟩ | ⟨n, q⟩
    · subst q; cases h2
    · rw [List.getElem?_set_ne (Ne.symm n)] at h3
      exact ⟨i, s, q, h2, h3⟩
  · rcases get_set h1 with ⟨rfl, _, q⟩ | ⟨n, q⟩
    · subst q; cases h2
    · rw [List.getElem?_set_ne (Ne.symm n)] at h3
      exact ⟨i, s, t, q, h2, h3⟩

/-! ### targets -/
def gNames : List Nat → TGs
  | [] => gNil
  | k :: ks => gCons (gName k) (gNames ks)
def gOf (K : PySem.W.Frag) : Tg → TG
  | .nm k => gName k
  | .tp ks => gTup K ks.length (gNames ks)
def Tg.slots : Tg → List Nat
  | .nm k => [k]
  | .tp ks => ks
/-- a state in which some names have got values -/
structure SetP (K : PySem.W.Frag) (ks : List Nat) (l : Loc) (σ : St) (Z : Addr → Prop) (H : Hp) (l' : Loc) (σ' : St) : Prop where
  po : Post K l σ Z H l' σ' Z H
  ws : ∀ b, W l' σ' b → W l σ b
  os : ∀ b, Own l' σ' b → Own l σ b
  len : σ'.length = σ.length
  lenl : l'.length = l.length
  out : ∀ i, i ∉ ks → σ'[i]? = σ[i]? ∧ l'[i]? = l[i]?
theorem stAll_post : ∀ {ks : List Nat} {ts : List T} {vs : List V} {l l' : Loc} {σ : St}, AL K H Z l σ → RFs K H Z ts vs → stAll ks ts l = some ((), l') →
    ∀ {Q : St → Hp → Prop}, (∀ σ', SetP K ks l σ Z H l' σ' → Q σ' H) → gNames ks vs σ H Q
  | [], [], vs, l, l', σ, A, R, e, Q, q => by
    cases R
    obtain ⟨_, rfl⟩ := ret_some.mp e
    exact ⟨rfl, q σ ⟨Post.refl A, fun _ h => h, fun _ h => h, rfl, rfl, fun _ _ => ⟨rfl, rfl⟩⟩⟩
  | k :: ks, t :: ts, vs, l, l', σ, A, R, e, Q, q => by
    cases R with
    | cons r rr =>
      obtain ⟨_, l1, e1, e2⟩ := bind_some.mp e
      obtain ⟨P, ws, os⟩ := stF_post A r e1
      obtain ⟨hl1, s0, hk, _⟩ := stV_get e1
      refine ⟨_, _, rfl, ?_⟩
      refine stAll_post P.al rr e2 fun σ' S => q σ' ⟨P.trans S.po, fun b w => ws b (S.ws b w), fun b w => os b (S.os b w), by rw [S.len, List.length_set], by rw [S.lenl, hl1, List.length_set], fun i hi => ?_⟩
      simp only [List.mem_cons, not_or] at hi
      obtain ⟨h1, h2⟩ := S.out i hi.2
      rw [h1, h2, hl1, List.getElem?_set_ne (Ne.symm hi.1), List.getElem?_set_ne (Ne.symm hi.1)]
      exact ⟨rfl, rfl⟩
  | [], _ :: _, vs, l, l', σ, A, R, e, Q, q => by cases e
  | _ :: _, [], vs, l, l', σ, A, R, e, Q, q => by cases e
theorem store_post {tg : Tg} {Q : St → Hp → Prop} (A : AL K H Z l σ) (R : RF K H Z t v) (e : tg.store t l = some ((), l')) (q : ∀ σ', SetP K tg.slots l σ Z H l' σ' → Q σ' H) : gOf K tg v σ H Q := by
  cases tg with
  | nm k =>
    obtain ⟨P, ws, os⟩ := stF_post A R e
    obtain ⟨rfl, s0, hk, _⟩ := stV_get e
    refine q _ ⟨P, ws, os, by simp, by simp, fun i hi => ?_⟩
    simp only [Tg.slots, List.mem_singleton] at hi
    exact ⟨List.getElem?_set_ne (Ne.symm hi), List.getElem?_set_ne (Ne.symm hi)⟩
  | tp ks =>
    cases t with
    | tup ts =>
      have e : (if ks.length = ts.length then stAll ks ts else fun _ => none) l = some ((), l') := e
      split at e
      · rename_i hl
        cases R with
        | tup h r => exact ⟨_, _, rfl, h, by rw [hl, r.length], stAll_post A r e q⟩
      · cases e
    | _ => cases e
end
end Ir

set_option Elab.async false
set_option linter.all false
namespace Ir
open PySem L2

section
variable {X : L2.Cx} {K : PySem.W.Frag} {H H0 H' H1 H2 H3 : Hp} {Z Z0 Z' Z1 Z2 Z3 Zc : Addr → Prop} {l l0 l1 l2 l3 l' : Loc} {σ σ0 σ1 σ2 σ' : St} {t x : T} {ts xs fin : List T} {v y : V} {vs : List V} {a b D : Addr} {o : Op} {os : List Op} {ks : List Nat} {k : Nat}

/-- names of a block forgotten again -/
theorem unset_post (A : AL K H Z l σ) (S : SetP K ks l σ Z H l1 σ1) (P : PostE K l1 σ1 Z H l2 Z2 H2) (hn : ∀ i ∈ ks, ∀ s, l[i]? = some s → s = .no) : PostE K l σ Z H (wipeL ks l2) Z2 H2 := by
  have B := P.po.al
  have sig : ∀ i, i ∉ ks → σ1[i]? = σ[i]? := fun i hi => (S.out i hi).1
  have get : ∀ (i : Nat) s, (wipeL ks l2)[i]? = some s → s ≠ .no → i ∉ ks ∧ l2[i]? = some s := fun i s h n => by
    have hi : i ∉ ks := fun hi => n (wipeL_in hi h)
    rw [wipeL_out hi] at h
    exact ⟨hi, h⟩
  have wn : ∀ b, W (wipeL ks l2) σ b → W l2 σ1 b := fun b ⟨i, s, h1, h2, h3⟩ => by
    obtain ⟨hi, e⟩ := get i s h1 (by rintro rfl; cases h2)
    exact ⟨i, s, e, h2, by rw [sig i hi]; exact h3⟩
  have on : ∀ b, Own (wipeL ks l2) σ b → Own l2 σ1 b := fun b ⟨i, s, t, h1, h2, h3⟩ => by
    obtain ⟨hi, e⟩ := get i s h1 (by rintro rfl; cases h2)
    exact ⟨i, s, t, e, h2, by rw [sig i hi]; exact h3⟩
  refine ⟨⟨⟨B.zd, by rw [wipeL_len, B.len, S.len], fun i t h => ?_, fun i s t h1 h2 => ?_, fun i j s s' t t' a g1 g2 g3 g4 g5 g6 => ?_⟩, P.po.ex.mono S.ws fun b w => (W_sub A b w).1.ne, fun b w => .inl (S.ws b (P.es b (wn b w))), fun i t h => ⟨?_, rfl⟩, fun i t h => ⟨?_, rfl⟩, fun b ⟨i, t, h1, h3⟩ => ?_⟩, fun b w => S.ws b (P.es b (wn b w)), fun b w => S.os b (P.os b (on b w))⟩
  · obtain ⟨hi, e⟩ := get i _ h (by intro q; cases q)
    rw [← sig i hi]
    exact B.fr i t e
  · obtain ⟨hi, e⟩ := get i s h1 (by rintro rfl; cases h2)
    rw [← sig i hi]
    exact B.ow i s t e h2
  · obtain ⟨hi, e⟩ := get i s g1 (by rintro rfl; cases g2)
    obtain ⟨hj, e'⟩ := get j s' g3 (by rintro rfl; cases g4)
    exact B.dj i j s s' t t' a e g2 e' g4 (by rw [sig i hi]; exact g5) (by rw [sig j hj]; exact g6)
  · have hi : i ∉ ks := fun hi => by have := hn i hi _ h; cases this
    rw [wipeL_out hi]
    exact (P.po.lk i t (by rw [(S.out i hi).2]; exact h)).1
  · have hi : i ∉ ks := fun hi => by have := hn i hi _ h; cases this
    rw [wipeL_out hi]
    exact (P.po.rw i t (by rw [(S.out i hi).2]; exact h)).1
  · obtain ⟨hi, e⟩ := get i _ h1 (by intro q; cases q)
    rcases P.po.fo b ⟨i, t, e, by rw [sig i hi]; exact h3⟩ with w | w
    · exact S.po.fo b w
    · exact .inr w
/-- a list that no name holds grows -/
theorem app_post {ws : List V} (A0 : AL K H0 Z0 l0 σ) (P : PostE K l0 σ Z0 H0 l Z H) (hD : H D = some (.lst vs)) (nD : H0 D = none) (nz : ¬ Z D) : PostE K l0 σ Z0 H0 l Z (upd H D (.lst ws)) := by
  have A := P.po.al
  have nO : ¬ Own l σ D := fun w => (Own.at A0 D (P.os D w)).1 nD
  have hw : ∀ b, b = D → Mu H b ∧ ¬ Z b := fun b e => by subst e; exact ⟨⟨_, hD, trivial⟩, nz⟩
  have ex : Ex (fun b => b = D) Z Z H (upd H D (.lst ws)) := ⟨fun b o h n => by rw [upd_ne n]; exact h, fun _ h => h, fun _ h => .inl h, fun b e => by subst e; rw [upd_same]; simp, fun b z => upd_some (.inr (A.zd b z))⟩
  refine ⟨⟨⟨ex.zd, A.len, fun i t h => ?_, fun i s t h1 h2 => ?_, A.dj⟩, P.po.ex.trans ex fun b e => by subst e; exact .inr nD, P.po.wn, P.po.lk, P.po.rw, P.po.fo⟩, P.es, P.os⟩
  · obtain ⟨w, e1, e2⟩ := A.fr i t h
    exact ⟨w, e1, e2.ex ex hw⟩
  · obtain ⟨a, e1, e2, e3⟩ := A.ow i s t h1 h2
    exact ⟨a, e1, e2.ex ex hw fun e => nO (by subst e; exact ⟨i, s, t, h1, h2, e1⟩), e3⟩
theorem app_rfs {ws : List V} (hD : H D = some (.lst vs)) (nz : ¬ Z D) (zd : ∀ b, Z b → H b ≠ none) (r : RFs K H Z ts ws) : RFs K (upd H D (.lst ws)) Z ts ws := by
  have hw : ∀ b, b = D → Mu H b ∧ ¬ Z b := fun b e => by subst e; exact ⟨⟨_, hD, trivial⟩, nz⟩
  have ex : Ex (fun b => b = D) Z Z H (upd H D (.lst ws)) := ⟨fun b o h n => by rw [upd_ne n]; exact h, fun _ h => h, fun _ h => .inl h, fun b e => by subst e; rw [upd_same]; simp, fun b z => upd_some (.inr (zd b z))⟩
  exact r.ex ex hw
theorem wipe_in : ∀ {ks : List Nat} {σ : St} {i : Nat}, i ∈ ks → i < σ.length → (wipe σ ks)[i]? = some none
  | [], _, _, h, _ => by cases h
  | k :: ks, σ, i, h, hl => by
    show ((wipe σ ks).set k none)[i]? = _
    by_cases hi : i = k
    · subst hi
      rw [List.getElem?_set_self (by rw [wipe_length]; exact hl)]
    · rw [List.getElem?_set_ne (Ne.symm hi)]
      exact wipe_in ((List.mem_cons.mp h).resolve_left hi) hl
theorem wipe_eq (hl : σ1.length = σ.length) (h : ∀ i, i ∉ ks → σ1[i]? = σ[i]?) : wipe σ1 ks = wipe σ ks := by
  refine List.ext_getElem? fun i => ?_
  by_cases hi : i ∈ ks
  · by_cases hlt : i < σ.length
    · rw [wipe_in hi hlt, wipe_in hi (by rw [hl]; exact hlt)]
    · rw [List.getElem?_eq_none (by rw [wipe_length]; omega), List.getElem?_eq_none (by rw [wipe_length]; omega)]
  · rw [wipe_out hi, wipe_out hi, h i hi]
theorem SetP.mono {js : List Nat} (S : SetP K js l σ Z H l1 σ1) (h : ∀ i ∈ js, i ∈ ks) : SetP K ks l σ Z H l1 σ1 := ⟨S.po, S.ws, S.os, S.len, S.lenl, fun i hi => S.out i fun q => hi (h i q)⟩
/-- behind a name's value an expression -/
theorem SetP.postE (A : AL K H Z l σ) (S : SetP K ks l σ Z H l1 σ1) : AL K H Z l1 σ1 := S.po.al

/-! ### a comprehension -/
def turnM (ks : List Nat) (st : T → M Unit) (mc : M Bool) (me : M Vl) (x : T) : M (List T) := bind (st x) fun _ => bind mc fun c =>
  if c = true then bind me fun v => fun l => some ([v.t], wipeL ks l) else fun l => some ([], wipeL ks l)
def cmpM (ks : List Nat) (tg : Tg) (mi : M (Op × List T)) (mc : M Bool) (me : M Vl) : M Vl := bind mi fun oi => fun l0 =>
    match bind (compL (turnM ks tg.store mc me) oi.2) (fun ys => if ys.length ≤ sizeMax then ret ys else fun _ => none) (wipeL ks (lock oi.1 l0)) with
    | some (ys, l) => some (.ow (.lst ys), unlock l0 oi.1 (back0 l0 ks l))
    | none => none
/-- where a comprehension stands: done is made -/
structure CI (K : PySem.W.Frag) (ks : List Nat) (lw : Loc) (σw : St) (Z1 : Addr → Prop) (H1 : Hp) (D : Addr) (done : List T) (l : Loc) (Z : Addr → Prop) (H : Hp) : Prop where
  po : PostE K lw σw Z1 H1 l Z H
  d : ∃ acc, H D = some (.lst acc) ∧ RFs K H Z done acc
  nz : ¬ Z D
  no : ∀ i ∈ ks, ∀ s, l[i]? = some s → s = .no
theorem wipeL_no : ∀ i ∈ ks, ∀ s, (wipeL ks l)[i]? = some s → s = .no := fun _ hi _ h => wipeL_in hi h
/-- the value of a turn goes into the list -/
theorem turn_app {σw : St} {lw : Loc} {done : List T} {r : Vl} (Aw : AL K H1 Z1 lw σw) (nD : H1 D = none) (C : CI K ks lw σw Z1 H1 D done l Z H) (S : SetP K ks l σw Z H l1 σ1) (P : PostE K l1 σ1 Z H l2 Z2 H2) (Q : PostE K l2 σ1 Z2 H2 l3 Z3 H3)
    (R : VR K H2 Z3 H3 r y) : ∃ acc, H3 D = some (.lst acc) ∧ acc.length = done.length ∧ ∃ Z', CI K ks lw σw Z1 H1 D (done ++ [r.t]) (wipeL ks l3) Z' (upd H3 D (.lst (acc ++ [y]))) := by
  obtain ⟨acc, hd, hr⟩ := C.d
  have A := C.po.po.al
  have PQ := P.trans Q
  have nW : ¬ W l1 σ1 D := fun w => (W_sub Aw D (C.po.es D (S.ws D w))).1.ne nD
  have hd3 : H3 D = some (.lst acc) := PQ.po.ex.fr D _ hd nW
  have hw1 : ∀ b, W l1 σ1 b → Mu H b ∧ ¬ Z b := fun b w => W_sub A b (S.ws b w)
  have hr3 : RFs K H3 Z3 done acc := hr.ex PQ.po.ex hw1
  have nz3 : ¬ Z3 D := fun z => by
    rcases PQ.po.ex.nw D z with z | z | z
    · exact C.nz z
    · rw [hd] at z; cases z
    · exact nW z
  have al : acc.length = done.length := hr.length.symm
  -- the value stays
  have give : ∃ Z', PostE K l1 σ1 Z H l3 Z' H3 ∧ RF K H3 Z' r.t y ∧ (∀ b, Z3 b → Z' b) ∧ ¬ Z' D := by
    cases r with
    | fr t => exact ⟨Z3, PQ, R, fun _ h => h, nz3⟩
    | ow t =>
      obtain ⟨a, rfl, n, nm, q⟩ := VR.give R
      have n0 : H a = none := P.po.ex.back n
      refine ⟨_, PQ.zadd S.po.al n0 nm, q, fun b h => .inl h, fun z => z.elim nz3 fun e => ?_⟩
      subst e
      rw [hd] at n0
      cases n0
  obtain ⟨Z', P', rv, up, nzD⟩ := give
  refine ⟨acc, hd3, al, Z', ?_⟩
  have P2 := C.po.trans (unset_post A S P' C.no)
  have zd : ∀ b, Z' b → H3 b ≠ none := P2.po.al.zd
  refine ⟨app_post Aw P2 hd3 nD nzD, ⟨_, upd_same, app_rfs hd3 nzD zd ((hr3.up up).append (.cons rv .nil))⟩, nzD, wipeL_no⟩
theorem turn_skip {σw : St} {lw : Loc} {done : List T} (Aw : AL K H1 Z1 lw σw) (nD : H1 D = none) (C : CI K ks lw σw Z1 H1 D done l Z H) (S : SetP K ks l σw Z H l1 σ1) (P : PostE K l1 σ1 Z H l2 Z2 H2) :
    CI K ks lw σw Z1 H1 D done (wipeL ks l2) Z2 H2 := by
  obtain ⟨acc, hd, hr⟩ := C.d
  have A := C.po.po.al
  have nW : ¬ W l1 σ1 D := fun w => (W_sub Aw D (C.po.es D (S.ws D w))).1.ne nD
  have hw1 : ∀ b, W l1 σ1 b → Mu H b ∧ ¬ Z b := fun b w => W_sub A b (S.ws b w)
  refine ⟨C.po.trans (unset_post A S P C.no), ⟨acc, P.po.ex.fr D _ hd nW, hr.ex P.po.ex hw1⟩, fun z => ?_, wipeL_no⟩
  rcases P.po.ex.nw D z with z | z | z
  · exact C.nz z
  · rw [hd] at z; cases z
  · exact nW z
theorem lc_read {tg : Tg} {mi : M (Op × List T)} {mc : M Bool} {me : M Vl} {Q : VK} (hts : ∀ i ∈ tg.slots, i ∈ ks) (h : rE K (cmpM ks tg mi mc me) σ H Q) : tLc (rI K mi) (gOf K tg) (rT K mc) (rE K me) ks σ H Q := by
  obtain ⟨l, Z, r, l', A, e, q⟩ := h
  obtain ⟨oi, l1, e1, e2⟩ := bind_some.mp e
  refine ⟨l, Z, oi, l1, A, e1, fun J H1 Z1 ro P S nWs D hD => ?_⟩
  split at e2
  case h_2 => cases e2
  rename_i ys l2 e3
  cases e2
  obtain ⟨ys', l2', e4, e5⟩ := bind_some.mp e3
  split at e5
  case isFalse => cases e5
  rename_i hys
  obtain ⟨rfl, rfl⟩ := ret_some.mp e5
  have A1 := P.po.al
  have Aw : AL K H1 Z1 (wipeL ks (lock oi.1 l1)) (wipe σ ks) := A1.block
  have srcW : ∀ a, ro = some a → ¬ W (wipeL ks (lock oi.1 l1)) (wipe σ ks) a := fun a ha ⟨i, s, h1, h2, h3⟩ => by
    have hi : i ∉ ks := fun hi => by have := wipeL_in hi h1; subst this; cases h2
    rw [wipeL_out hi] at h1
    rw [wipe_out hi] at h3
    exact (nWs a ha).1 ⟨i, s, h1, h2, h3⟩
  refine ⟨fun i m H => m = oi.2.length - i ∧ i ≤ oi.2.length ∧ ∃ l Z done rest, CI K ks (wipeL ks (lock oi.1 l1)) (wipe σ ks) Z1 H1 D done l Z H ∧ compL (turnM ks tg.store mc me) (oi.2.drop i) l = some (rest, l2') ∧ done ++ rest = ys', ⟨oi.2.length, rfl, Nat.zero_le _, _, Z1, [], ys', ⟨PostE.new Aw (Ex0.obj Aw.zd hD), ⟨[], upd_same, .nil⟩, fun z => Aw.zd D z hD, wipeL_no⟩, e4, rfl⟩, ?_⟩
  rintro i m H ⟨rfl, hi, l, Z, done, rest, C, ec, ed⟩
  have S' : SrcAt K H Z J oi.2 ro := S.ex C.po.po.ex (W_sub Aw) srcW
  by_cases hlt : i < oi.2.length
  · refine .inr ⟨S'.go hlt, fun H' => ∃ l Z done rest, CI K ks (wipeL ks (lock oi.1 l1)) (wipe σ ks) Z1 H1 D done l Z H' ∧ compL (turnM ks tg.store mc me) (oi.2.drop (i + 1)) l = some (rest, l2') ∧ done ++ rest = ys', fun H' h => ⟨oi.2.length - (i + 1), by omega, rfl, hlt, h⟩, fun v H' hy => ?_⟩
    have hx : oi.2[i]? = some oi.2[i] := List.getElem?_eq_getElem hlt
    obtain ⟨rfl, rx⟩ := S'.yld hx hy
    rw [List.drop_eq_getElem_cons hlt] at ec
    obtain ⟨as, la, g1, g2⟩ := bind_some.mp ec
    obtain ⟨bs, lb, g3, g4⟩ := bind_some.mp g2
    obtain ⟨rfl, rfl⟩ := ret_some.mp g4
    obtain ⟨_, l3, g5, g6⟩ := bind_some.mp g1
    obtain ⟨c, l4, g7, g8⟩ := bind_some.mp g6
    refine store_post C.po.po.al rx g5 fun σ2 SP => ?_
    have SP' := SP.mono hts
    refine ⟨?_, l3, Z, c, l4, SP.po.al, g7, fun H3 Z3 P3 => ?_⟩
    · rw [wipe_eq SP'.len fun i hi => (SP'.out i hi).1]
      exact wipe_eq (wipe_length _ _) fun i hi => wipe_out hi
    · cases c with
      | true =>
        simp only [if_true] at g8 ⊢
        obtain ⟨w, l5, g9, g10⟩ := bind_some.mp g8
        cases g10
        refine ⟨l4, Z3, w, l5, P3.po.al, g9, fun y H4 Z4 P4 V => ?_⟩
        obtain ⟨acc, h1, h2, Z', C'⟩ := turn_app Aw hD C SP' P3 P4 V
        refine ⟨acc, h1, ?_, _, Z', _, bs, C', g3, by rw [← ed, List.append_assoc]⟩
        have : ys'.length = done.length + (1 + bs.length) := by rw [← ed]; simp; omega
        rw [h2]
        have h3 : ys'.length ≤ sizeLine := hys
        omega
      | false =>
        simp only [Bool.false_eq_true, if_false] at g8 ⊢
        cases g8
        exact ⟨_, Z3, done, bs, turn_skip Aw hD C SP' P3, g3, by simpa using ed⟩
  · have e : i = oi.2.length := by omega
    subst e
    rw [List.drop_length] at ec
    obtain ⟨rfl, rfl⟩ := ret_some.mp ec
    rw [List.append_nil] at ed
    subst ed
    obtain ⟨acc, h1, h2⟩ := C.d
    exact .inl ⟨S'.stop (Nat.le_refl _), q _ _ Z (P.trans (block_post A1 C.po)) ⟨D, rfl, .lst h1 h2, C.nz, P.po.ex.back hD⟩⟩
end
end Ir

set_option Elab.async false
set_option linter.all false
namespace Ir
open PySem L2

section
variable {X : L2.Cx} {K : PySem.W.Frag} {H H0 H' H1 H2 H3 H4 : Hp} {Z Z0 Z' Z1 Z2 Z3 Z4 Zc : Addr → Prop} {l l0 l1 l2 l3 l4 l' lw : Loc} {σ σ0 σ1 σ2 σ3 σ' σw σi : St} {t x : T} {ts xs fin done : List T} {v y : V} {vs : List V} {a b D : Addr} {o : Op} {os : List Op} {ks js : List Nat} {k : Nat}

/-- a state behind some steps, other names may have got values -/
structure PX (K : PySem.W.Frag) (l : Loc) (σ : St) (Z : Addr → Prop) (H : Hp) (l' : Loc) (σ' : St) (Z' : Addr → Prop) (H' : Hp) : Prop where
  po : Post K l σ Z H l' σ' Z' H'
  ws : ∀ b, W l' σ' b → W l σ b
  os : ∀ b, Own l' σ' b → Own l σ b
theorem PX.trans (P : PX K l σ Z H l1 σ1 Z1 H1) (Q : PX K l1 σ1 Z1 H1 l2 σ2 Z2 H2) : PX K l σ Z H l2 σ2 Z2 H2 :=
  ⟨P.po.trans Q.po, fun b w => P.ws b (Q.ws b w), fun b w => P.os b (Q.os b w)⟩
theorem PostE.px (P : PostE K l σ Z H l1 Z1 H1) : PX K l σ Z H l1 σ Z1 H1 := ⟨P.po, P.es, P.os⟩
theorem SetP.px (P : SetP K ks l σ Z H l1 σ1) : PX K l σ Z H l1 σ1 Z H := ⟨P.po, P.ws, P.os⟩
/-- names forgotten again -/
theorem PX.unset (A : AL K H Z l σ) (P : PX K l σ Z H l2 σ2 Z2 H2) (len : σ2.length = σ.length) (out : ∀ i, i ∉ ks → σ2[i]? = σ[i]?) (hn : ∀ i ∈ ks, ∀ s, l[i]? = some s → s = .no) : PostE K l σ Z H (wipeL ks l2) Z2 H2 := by
  have B := P.po.al
  have get : ∀ (i : Nat) s, (wipeL ks l2)[i]? = some s → s ≠ .no → i ∉ ks ∧ l2[i]? = some s := fun i s h n => by
    have hi : i ∉ ks := fun hi => n (wipeL_in hi h)
    rw [wipeL_out hi] at h
    exact ⟨hi, h⟩
  have wn : ∀ b, W (wipeL ks l2) σ b → W l2 σ2 b := fun b ⟨i, s, h1, h2, h3⟩ => by
    obtain ⟨hi, e⟩ := get i s h1 (by rintro rfl; cases h2)
    exact ⟨i, s, e, h2, by rw [out i hi]; exact h3⟩
  have on : ∀ b, Own (wipeL ks l2) σ b → Own l2 σ2 b := fun b ⟨i, s, t, h1, h2, h3⟩ => by
    obtain ⟨hi, e⟩ := get i s h1 (by rintro rfl; cases h2)
    exact ⟨i, s, t, e, h2, by rw [out i hi]; exact h3⟩
  refine ⟨⟨⟨B.zd, by rw [wipeL_len, B.len, len], fun i t h => ?_, fun i s t h1 h2 => ?_, fun i j s s' t t' a g1 g2 g3 g4 g5 g6 => ?_⟩, P.po.ex, fun b w => P.po.wn b (wn b w), fun i t h => ⟨?_, rfl⟩, fun i t h => ⟨?_, rfl⟩, fun b ⟨i, t, h1, h3⟩ => ?_⟩, fun b w => P.ws b (wn b w), fun b w => P.os b (on b w)⟩
  · obtain ⟨hi, e⟩ := get i _ h (by intro q; cases q)
    rw [← out i hi]
    exact B.fr i t e
  · obtain ⟨hi, e⟩ := get i s h1 (by rintro rfl; cases h2)
    rw [← out i hi]
    exact B.ow i s t e h2
  · obtain ⟨hi, e⟩ := get i s g1 (by rintro rfl; cases g2)
    obtain ⟨hj, e'⟩ := get j s' g3 (by rintro rfl; cases g4)
    exact B.dj i j s s' t t' a e g2 e' g4 (by rw [out i hi]; exact g5) (by rw [out j hj]; exact g6)
  · have hi : i ∉ ks := fun hi => by have := hn i hi _ h; cases this
    rw [wipeL_out hi]
    exact (P.po.lk i t h).1
  · have hi : i ∉ ks := fun hi => by have := hn i hi _ h; cases this
    rw [wipeL_out hi]
    exact (P.po.rw i t h).1
  · obtain ⟨hi, e⟩ := get i _ h1 (by intro q; cases q)
    exact P.po.fo b ⟨i, t, e, by rw [out i hi]; exact h3⟩
/-- the same, the names' values forgotten, too -/
theorem PX.wiped (P : PX K l σ Z H l2 σ2 Z2 H2) (len : σ2.length = σ.length) (out : ∀ i, i ∉ ks → σ2[i]? = σ[i]?) (hn : ∀ i ∈ ks, ∀ s, l[i]? = some s → s = .no) (hj : ∀ i ∈ js, i ∈ ks) : PX K l σ Z H (wipeL js l2) (wipe σ2 js) Z2 H2 := by
  have B := P.po.al
  have get : ∀ (i : Nat) s, (wipeL js l2)[i]? = some s → s ≠ .no → i ∉ js ∧ l2[i]? = some s := fun i s h n => by
    have hi : i ∉ js := fun hi => n (wipeL_in hi h)
    rw [wipeL_out hi] at h
    exact ⟨hi, h⟩
  have wn : ∀ b, W (wipeL js l2) (wipe σ2 js) b → W l2 σ2 b := fun b ⟨i, s, h1, h2, h3⟩ => by
    obtain ⟨hi, e⟩ := get i s h1 (by rintro rfl; cases h2)
    exact ⟨i, s, e, h2, by rw [wipe_out hi] at h3; exact h3⟩
  have on : ∀ b, Own (wipeL js l2) (wipe σ2 js) b → Own l2 σ2 b := fun b ⟨i, s, t, h1, h2, h3⟩ => by
    obtain ⟨hi, e⟩ := get i s h1 (by rintro rfl; cases h2)
    exact ⟨i, s, t, e, h2, by rw [wipe_out hi] at h3; exact h3⟩
  refine ⟨⟨⟨B.zd, by rw [wipeL_len, B.len, wipe_length], fun i t h => ?_, fun i s t h1 h2 => ?_, fun i j s s' t t' a g1 g2 g3 g4 g5 g6 => ?_⟩, P.po.ex, fun b w => P.po.wn b (wn b w), fun i t h => ?_, fun i t h => ?_, fun b ⟨i, t, h1, h3⟩ => ?_⟩, fun b w => P.ws b (wn b w), fun b w => P.os b (on b w)⟩
  · obtain ⟨hi, e⟩ := get i _ h (by intro q; cases q)
    rw [wipe_out hi]
    exact B.fr i t e
  · obtain ⟨hi, e⟩ := get i s h1 (by rintro rfl; cases h2)
    rw [wipe_out hi]
    exact B.ow i s t e h2
  · obtain ⟨hi, e⟩ := get i s g1 (by rintro rfl; cases g2)
    obtain ⟨hj, e'⟩ := get j s' g3 (by rintro rfl; cases g4)
    rw [wipe_out hi] at g5
    rw [wipe_out hj] at g6
    exact B.dj i j s s' t t' a e g2 e' g4 g5 g6
  · have hi : i ∉ js := fun hi => by have := hn i (hj i hi) _ h; cases this
    rw [wipeL_out hi, wipe_out hi]
    exact P.po.lk i t h
  · have hi : i ∉ js := fun hi => by have := hn i (hj i hi) _ h; cases this
    rw [wipeL_out hi, wipe_out hi]
    exact P.po.rw i t h
  · obtain ⟨hi, e⟩ := get i _ h1 (by intro q; cases q)
    rw [wipe_out hi] at h3
    exact P.po.fo b ⟨i, t, e, h3⟩
/-- a list that no name holds grows -/
theorem PX.grow {ws : List V} (A0 : AL K H0 Z0 l0 σ0) (P : PX K l0 σ0 Z0 H0 l σ Z H) (hD : H D = some (.lst vs)) (nD : H0 D = none) (nz : ¬ Z D) : PX K l0 σ0 Z0 H0 l σ Z (upd H D (.lst ws)) := by
  have A := P.po.al
  have nO : ¬ Own l σ D := fun w => (Own.at A0 D (P.os D w)).1 nD
  have hw : ∀ b, b = D → Mu H b ∧ ¬ Z b := fun b e => by subst e; exact ⟨⟨_, hD, trivial⟩, nz⟩
  have ex : Ex (fun b => b = D) Z Z H (upd H D (.lst ws)) := ⟨fun b o h n => by rw [upd_ne n]; exact h, fun _ h => h, fun _ h => .inl h, fun b e => by subst e; rw [upd_same]; simp, fun b z => upd_some (.inr (A.zd b z))⟩
  refine ⟨⟨⟨ex.zd, A.len, fun i t h => ?_, fun i s t h1 h2 => ?_, A.dj⟩, P.po.ex.trans ex fun b e => by subst e; exact .inr nD, P.po.wn, P.po.lk, P.po.rw, P.po.fo⟩, P.ws, P.os⟩
  · obtain ⟨w, e1, e2⟩ := A.fr i t h
    exact ⟨w, e1, e2.ex ex hw⟩
  · obtain ⟨a, e1, e2, e3⟩ := A.ow i s t h1 h2
    exact ⟨a, e1, e2.ex ex hw fun e => nO (by subst e; exact ⟨i, s, t, h1, h2, e1⟩), e3⟩
/-- where an inner clause stands -/
structure CJ (K : PySem.W.Frag) (ks : List Nat) (lw : Loc) (σw : St) (Z1 : Addr → Prop) (H1 : Hp) (D : Addr) (σi : St) (done : List T) (l : Loc) (Z : Addr → Prop) (H : Hp) : Prop where
  px : PX K lw σw Z1 H1 l σi Z H
  d : ∃ acc, H D = some (.lst acc) ∧ RFs K H Z done acc
  nz : ¬ Z D
  no : ∀ i ∈ ks, ∀ s, l[i]? = some s → s = .no
theorem inner_app {r : Vl} (Aw : AL K H1 Z1 lw σw) (nD : H1 D = none) (C : CJ K js lw σw Z1 H1 D σi done l Z H) (S : SetP K js l σi Z H l1 σ1) (P : PostE K l1 σ1 Z H l2 Z2 H2) (Q : PostE K l2 σ1 Z2 H2 l3 Z3 H3)
    (R : VR K H2 Z3 H3 r y) : ∃ acc, H3 D = some (.lst acc) ∧ acc.length = done.length ∧ ∃ Z', CJ K js lw σw Z1 H1 D σi (done ++ [r.t]) (wipeL js l3) Z' (upd H3 D (.lst (acc ++ [y]))) ∧ (∀ b, W (wipeL js l3) σi b → W l σi b) ∧ Ex (fun b => W l σi b ∨ b = D) Z Z' H (upd H3 D (.lst (acc ++ [y]))) := by
  obtain ⟨acc, hd, hr⟩ := C.d
  have A := C.px.po.al
  have PQ := P.trans Q
  have nW : ¬ W l1 σ1 D := fun w => (W_sub Aw D (C.px.ws D (S.ws D w))).1.ne nD
  have hd3 : H3 D = some (.lst acc) := PQ.po.ex.fr D _ hd nW
  have hw1 : ∀ b, W l1 σ1 b → Mu H b ∧ ¬ Z b := fun b w => W_sub A b (S.ws b w)
  have hr3 : RFs K H3 Z3 done acc := hr.ex PQ.po.ex hw1
  have nz3 : ¬ Z3 D := fun z => by
    rcases PQ.po.ex.nw D z with z | z | z
    · exact C.nz z
    · rw [hd] at z; cases z
    · exact nW z
  have al : acc.length = done.length := hr.length.symm
  have give : ∃ Z', PostE K l1 σ1 Z H l3 Z' H3 ∧ RF K H3 Z' r.t y ∧ (∀ b, Z3 b → Z' b) ∧ ¬ Z' D := by
    cases r with
    | fr t => exact ⟨Z3, PQ, R, fun _ h => h, nz3⟩
    | ow t =>
      obtain ⟨a, rfl, n, nm, q⟩ := VR.give R
      have n0 : H a = none := P.po.ex.back n
      refine ⟨_, PQ.zadd S.po.al n0 nm, q, fun b h => .inl h, fun z => z.elim nz3 fun e => ?_⟩
      subst e
      rw [hd] at n0
      cases n0
  obtain ⟨Z', P', rv, up, nzD⟩ := give
  refine ⟨acc, hd3, al, Z', ?_⟩
  have P1 := unset_post A S P' C.no
  have P2 := C.px.trans P1.px
  have zd : ∀ b, Z' b → H3 b ≠ none := P2.po.al.zd
  have ex1 : Ex (fun b => W l σi b ∨ b = D) Z Z' H H3 := P1.po.ex.mono (fun b w => .inl w) fun b w => by
    rcases w with w | rfl
    · exact (W_sub A b w).1.ne
    · rw [hd]; simp
  have ex2 : Ex (fun b => b = D) Z' Z' H3 (upd H3 D (.lst (acc ++ [y]))) := ⟨fun b o h n => by rw [upd_ne n]; exact h, fun _ h => h, fun _ h => .inl h, fun b e => by subst e; rw [upd_same]; simp, fun b z => upd_some (.inr (zd b z))⟩
  exact ⟨⟨PX.grow Aw P2 hd3 nD nzD, ⟨_, upd_same, app_rfs hd3 nzD zd ((hr3.up up).append (.cons rv .nil))⟩, nzD, wipeL_no⟩, P1.es, ex1.trans ex2 fun b e => .inl (.inr e)⟩
theorem inner_skip (Aw : AL K H1 Z1 lw σw) (nD : H1 D = none) (C : CJ K js lw σw Z1 H1 D σi done l Z H) (S : SetP K js l σi Z H l1 σ1) (P : PostE K l1 σ1 Z H l2 Z2 H2) :
    CJ K js lw σw Z1 H1 D σi done (wipeL js l2) Z2 H2 ∧ (∀ b, W (wipeL js l2) σi b → W l σi b) ∧ Ex (fun b => W l σi b ∨ b = D) Z Z2 H H2 := by
  obtain ⟨acc, hd, hr⟩ := C.d
  have A := C.px.po.al
  have P1 := unset_post A S P C.no
  have nW : ¬ W l1 σ1 D := fun w => (W_sub Aw D (C.px.ws D (S.ws D w))).1.ne nD
  have hw1 : ∀ b, W l1 σ1 b → Mu H b ∧ ¬ Z b := fun b w => W_sub A b (S.ws b w)
  refine ⟨⟨C.px.trans P1.px, ⟨acc, P.po.ex.fr D _ hd nW, hr.ex P.po.ex hw1⟩, fun z => ?_, wipeL_no⟩, P1.es, P1.po.ex.mono (fun b w => .inl w) fun b w => ?_⟩
  · rcases P.po.ex.nw D z with z | z | z
    · exact C.nz z
    · rw [hd] at z; cases z
    · exact nW z
  · rcases w with w | rfl
    · exact (W_sub A b w).1.ne
    · rw [hd]; simp
def turn2M (ks js : List Nat) (st st1 : T → M Unit) (mc : M Bool) (mi1 : M (Op × List T)) (mc1 : M Bool) (me : M Vl) (x : T) : M (List T) := bind (st x) fun _ => bind mc fun c =>
  if c = true then bind mi1 fun oi1 => fun l1 => if fixed l1 oi1.1 then
    match compL (turnM js st1 mc1 me) oi1.2 (wipeL js l1) with
    | some (ys, l) => some (ys, wipeL ks l)
    | none => none
    else none
  else fun l => some ([], wipeL ks l)
def cmp2M (ks js : List Nat) (tg tg1 : Tg) (mi : M (Op × List T)) (mc : M Bool) (mi1 : M (Op × List T)) (mc1 : M Bool) (me : M Vl) : M Vl := bind mi fun oi => fun l0 =>
    match bind (compL (turn2M ks js tg.store tg1.store mc mi1 mc1 me) oi.2) (fun ys => if ys.length ≤ sizeMax then ret ys else fun _ => none) (wipeL ks (lock oi.1 l0)) with
    | some (ys, l) => some (.ow (.lst ys), unlock l0 oi.1 (back0 l0 ks l))
    | none => none
theorem lc2_read {tg tg1 : Tg} {mi mi1 : M (Op × List T)} {mc mc1 : M Bool} {me : M Vl} {Q : VK} (hts : ∀ i ∈ tg.slots, i ∈ ks) (hts1 : ∀ i ∈ tg1.slots, i ∈ js) (hjk : ∀ i ∈ js, i ∈ ks) (h : rE K (cmp2M ks js tg tg1 mi mc mi1 mc1 me) σ H Q) :
    tLc2 (rI K mi) (gOf K tg) (rT K mc) (rI K mi1) (gOf K tg1) (rT K mc1) (rE K me) ks js σ H Q := by
  obtain ⟨l, Z, r, l', A, e, q⟩ := h
  obtain ⟨oi, l1, e1, e2⟩ := bind_some.mp e
  refine ⟨l, Z, oi, l1, A, e1, fun J H1 Z1 ro P S nWs D hD => ?_⟩
  split at e2
  case h_2 => cases e2
  rename_i ys l2 e3
  cases e2
  obtain ⟨ys', l2', e4, e5⟩ := bind_some.mp e3
  split at e5
  case isFalse => cases e5
  rename_i hys
  obtain ⟨rfl, rfl⟩ := ret_some.mp e5
  have A1 := P.po.al
  have Aw : AL K H1 Z1 (wipeL ks (lock oi.1 l1)) (wipe σ ks) := A1.block
  have srcW : ∀ a, ro = some a → ¬ W (wipeL ks (lock oi.1 l1)) (wipe σ ks) a := fun a ha ⟨i, s, h1, h2, h3⟩ => by
    have hi : i ∉ ks := fun hi => by have := wipeL_in hi h1; subst this; cases h2
    rw [wipeL_out hi] at h1
    rw [wipe_out hi] at h3
    exact (nWs a ha).1 ⟨i, s, h1, h2, h3⟩
  generalize hlw : wipeL ks (lock oi.1 l1) = lw at *
  have lwno : ∀ i ∈ ks, ∀ s, lw[i]? = some s → s = .no := by rw [← hlw]; exact wipeL_no
  refine ⟨fun i m H => m = oi.2.length - i ∧ i ≤ oi.2.length ∧ ∃ l Z done rest, CI K ks lw (wipe σ ks) Z1 H1 D done l Z H ∧ compL (turn2M ks js tg.store tg1.store mc mi1 mc1 me) (oi.2.drop i) l = some (rest, l2') ∧ done ++ rest = ys', ⟨oi.2.length, rfl, Nat.zero_le _, _, Z1, [], ys', ⟨PostE.new Aw (Ex0.obj Aw.zd hD), ⟨[], upd_same, .nil⟩, fun z => Aw.zd D z hD, lwno⟩, e4, rfl⟩, ?_⟩
  rintro i m H ⟨rfl, hi, l, Z, done, rest, C, ec, ed⟩
  have S' : SrcAt K H Z J oi.2 ro := S.ex C.po.po.ex (W_sub Aw) srcW
  by_cases hlt : i < oi.2.length
  · refine .inr ⟨S'.go hlt, fun H' => ∃ l Z done rest, CI K ks lw (wipe σ ks) Z1 H1 D done l Z H' ∧ compL (turn2M ks js tg.store tg1.store mc mi1 mc1 me) (oi.2.drop (i + 1)) l = some (rest, l2') ∧ done ++ rest = ys', fun H' h => ⟨oi.2.length - (i + 1), by omega, rfl, hlt, h⟩, fun v H' hy => ?_⟩
    have hx : oi.2[i]? = some oi.2[i] := List.getElem?_eq_getElem hlt
    obtain ⟨rfl, rx⟩ := S'.yld hx hy
    rw [List.drop_eq_getElem_cons hlt] at ec
    obtain ⟨as, la, g1, g2⟩ := bind_some.mp ec
    obtain ⟨bs, lb, g3, g4⟩ := bind_some.mp g2
    obtain ⟨rfl, rfl⟩ := ret_some.mp g4
    obtain ⟨_, l3, g5, g6⟩ := bind_some.mp g1
    obtain ⟨c, l4, g7, g8⟩ := bind_some.mp g6
    refine store_post C.po.po.al rx g5 fun σ2 SP => ?_
    have SP' := SP.mono hts
    refine ⟨?_, l3, Z, c, l4, SP.po.al, g7, fun H3 Z3 P3 => ?_⟩
    · rw [wipe_eq SP'.len fun i hi => (SP'.out i hi).1]
      exact wipe_eq (wipe_length _ _) fun i hi => wipe_out hi
    · cases c with
      | true =>
        simp only [if_true] at g8 ⊢
        obtain ⟨oi1, l5, g9, g10⟩ := bind_some.mp g8
        split at g10
        case isFalse => cases g10
        rename_i hfix
        refine ⟨l4, Z3, oi1, l5, P3.po.al, g9, fun J1 H4 Z4 ro1 P4 S1 nW1 => ?_⟩
        split at g10
        case h_2 => cases g10
        rename_i zs l6 g11
        cases g10
        -- from the base to here
        have PB : PX K lw (wipe σ ks) Z1 H1 l5 σ2 Z4 H4 := (C.po.px.trans SP'.px).trans (P3.trans P4).px
        have lenB : σ2.length = (wipe σ ks).length := SP'.len
        have outB : ∀ i, i ∉ ks → σ2[i]? = (wipe σ ks)[i]? := fun i hi => (SP'.out i hi).1
        have PW : PX K lw (wipe σ ks) Z1 H1 (wipeL js l5) (wipe σ2 js) Z4 H4 := PB.wiped lenB outB lwno hjk
        have nWD : ¬ W l3 σ2 D := fun w => (W_sub Aw D (C.po.es D (SP.ws D w))).1.ne hD
        have PP := P3.trans P4
        obtain ⟨acc, hd, hr⟩ := C.d
        have hw1 : ∀ b, W l3 σ2 b → Mu H' b ∧ ¬ Z b := fun b w => W_sub C.po.po.al b (SP.ws b w)
        have hd4 : H4 D = some (.lst acc) := PP.po.ex.fr D _ hd nWD
        have nz4 : ¬ Z4 D := fun z => by
          rcases PP.po.ex.nw D z with z | z | z
          · exact C.nz z
          · rw [hd] at z; cases z
          · exact nWD z
        have CJ0 : CJ K js lw (wipe σ ks) Z1 H1 D (wipe σ2 js) done (wipeL js l5) Z4 H4 := ⟨PW, ⟨acc, hd4, hr.ex PP.po.ex hw1⟩, nz4, wipeL_no⟩
        have src1 : ∀ a, ro1 = some a → ¬ W (wipeL js l5) (wipe σ2 js) a := fun a ha ⟨i, s, h1, h2, h3⟩ => by
          have hi : i ∉ js := fun hi => by have := wipeL_in hi h1; subst this; cases h2
          rw [wipeL_out hi] at h1
          rw [wipe_out hi] at h3
          refine (nW1 a ha).1 ⟨i, s, ?_, h2, h3⟩
          have hk : ¬ Lkd l5 oi1.1 i := fun hk => by
            cases ho : oi1.1 with
            | vl u => rw [ho] at hk; cases hk
            | pl k =>
              rw [ho] at hk hfix
              obtain ⟨rfl, s', p1, p2⟩ := hk
              unfold fixed at hfix
              simp only [p1] at hfix
              cases s' <;> first | (cases p2; done) | (cases hfix; done)
          rw [lock_out hk]
          exact h1
        let WI : Addr → Prop := fun b => W (wipeL js l5) (wipe σ2 js) b
        have wid : ∀ b, (WI b ∨ b = D) → H4 b ≠ none := fun b w => by
          rcases w with w | rfl
          · exact (W_sub PW.po.al b w).1.ne
          · rw [hd4]; simp
        have wmu : ∀ b, (WI b ∨ b = D) → Mu H4 b ∧ ¬ Z4 b := fun b w => by
          rcases w with w | rfl
          · exact W_sub PW.po.al b w
          · exact ⟨⟨_, hd4, trivial⟩, nz4⟩
        have rootD : ∀ a, ro1 = some a → ¬ (WI a ∨ a = D) := fun a ha w => by
          rcases w with w | rfl
          · exact src1 a ha w
          · rcases (nW1 a ha).2 with o | n
            · exact (Own.at Aw a (PB.os a o)).1 hD
            · exact absurd (P3.po.ex.fr a _ hd nWD) (by rw [n]; simp)
        refine ⟨fun j k H => k = oi1.2.length - j ∧ j ≤ oi1.2.length ∧ ∃ l Z dn rest, CJ K js lw (wipe σ ks) Z1 H1 D (wipe σ2 js) dn l Z H ∧ compL (turnM js tg1.store mc1 me) (oi1.2.drop j) l = some (rest, l6) ∧ dn ++ rest = done ++ as ∧ (∀ b, W l (wipe σ2 js) b → WI b) ∧ Ex (fun b => WI b ∨ b = D) Z4 Z H4 H, ⟨oi1.2.length, rfl, Nat.zero_le _, _, Z4, done, as, CJ0, g11, rfl, fun b w => w, Ex.refl wid PW.po.al.zd⟩, ?_⟩
        rintro j k Hj ⟨rfl, hj, lj, Zj, dn, rs, Cj, fc, fd, wj, ej⟩
        have Sj : SrcAt K Hj Zj J1 oi1.2 ro1 := S1.ex ej wmu rootD
        by_cases hjt : j < oi1.2.length
        · refine .inr ⟨Sj.go hjt, fun H' => ∃ l Z dn rest, CJ K js lw (wipe σ ks) Z1 H1 D (wipe σ2 js) dn l Z H' ∧ compL (turnM js tg1.store mc1 me) (oi1.2.drop (j + 1)) l = some (rest, l6) ∧ dn ++ rest = done ++ as ∧ (∀ b, W l (wipe σ2 js) b → WI b) ∧ Ex (fun b => WI b ∨ b = D) Z4 Z H4 H', fun H' h => ⟨oi1.2.length - (j + 1), by omega, rfl, hjt, h⟩, fun v1 H5 hy1 => ?_⟩
          have hx1 : oi1.2[j]? = some oi1.2[j] := List.getElem?_eq_getElem hjt
          obtain ⟨rfl, rx1⟩ := Sj.yld hx1 hy1
          rw [List.drop_eq_getElem_cons hjt] at fc
          obtain ⟨as1, lc, k1, k2⟩ := bind_some.mp fc
          obtain ⟨bs1, ld, k3, k4⟩ := bind_some.mp k2
          obtain ⟨rfl, rfl⟩ := ret_some.mp k4
          obtain ⟨_, l7, k5, k6⟩ := bind_some.mp k1
          obtain ⟨c1, l8, k7, k8⟩ := bind_some.mp k6
          refine store_post Cj.px.po.al rx1 k5 fun σ3 SQ => ?_
          have SQ' := SQ.mono hts1
          refine ⟨?_, l7, Zj, c1, l8, SQ.po.al, k7, fun H6 Z6 P6 => ?_⟩
          · rw [wipe_eq SQ'.len fun i hi => (SQ'.out i hi).1]
            exact wipe_eq (wipe_length _ _) fun i hi => wipe_out hi
          · cases c1 with
            | true =>
              simp only [if_true] at k8 ⊢
              obtain ⟨w, l9, k9, k10⟩ := bind_some.mp k8
              cases k10
              refine ⟨l8, Z6, w, l9, P6.po.al, k9, fun y H7 Z7 P7 V => ?_⟩
              obtain ⟨acc2, h1, h2, Z', C', w', x'⟩ := inner_app Aw hD Cj SQ' P6 P7 V
              refine ⟨acc2, h1, ?_, _, Z', _, bs1, C', k3, by rw [List.append_assoc]; exact fd, fun b w => wj b (w' b w), ej.trans x' fun b w => .inl (w.imp (wj b) id)⟩
              have : ys'.length = dn.length + (1 + bs1.length) + bs.length := by rw [← ed, ← List.append_assoc, ← fd]; simp; omega
              rw [h2]
              have h3 : ys'.length ≤ sizeLine := hys
              omega
            | false =>
              simp only [Bool.false_eq_true, if_false] at k8 ⊢
              cases k8
              obtain ⟨C', w', x'⟩ := inner_skip Aw hD Cj SQ' P6
              exact ⟨_, Z6, dn, bs1, C', k3, by simpa using fd, fun b w => wj b (w' b w), ej.trans x' fun b w => .inl (w.imp (wj b) id)⟩
        · have e : j = oi1.2.length := by omega
          subst e
          rw [List.drop_length] at fc
          obtain ⟨rfl, rfl⟩ := ret_some.mp fc
          rw [List.append_nil] at fd
          subst fd
          refine .inl ⟨Sj.stop (Nat.le_refl _), _, Zj, done ++ as, bs, ?_, g3, by rw [List.append_assoc]; exact ed⟩
          have lenJ : (wipe σ2 js).length = (wipe σ ks).length := by rw [wipe_length]; exact lenB
          have outJ : ∀ i, i ∉ ks → (wipe σ2 js)[i]? = (wipe σ ks)[i]? := fun i hi => by
            rw [wipe_out fun h => hi (hjk i h)]
            exact outB i hi
          exact ⟨PX.unset Aw Cj.px lenJ outJ lwno, Cj.d, Cj.nz, wipeL_no⟩
      | false =>
        simp only [Bool.false_eq_true, if_false] at g8 ⊢
        cases g8
        exact ⟨_, Z3, done, bs, turn_skip Aw hD C SP' P3, g3, by simpa using ed⟩
  · have e : i = oi.2.length := by omega
    subst e
    rw [List.drop_length] at ec
    obtain ⟨rfl, rfl⟩ := ret_some.mp ec
    rw [List.append_nil] at ed
    subst ed
    obtain ⟨acc, h1, h2⟩ := C.d
    subst hlw
    exact .inl ⟨S'.stop (Nat.le_refl _), q _ _ Z (P.trans (block_post A1 C.po)) ⟨D, rfl, .lst h1 h2, C.nz, P.po.ex.back hD⟩⟩
end
end Ir

set_option Elab.async false
set_option linter.all false
namespace Ir
open PySem L2

section
variable {X : L2.Cx} {K : PySem.W.Frag} {H H0 H' H1 H2 H3 : Hp} {Z Z0 Z' Z1 Z2 Z3 Zc F : Addr → Prop} {l l0 l1 l2 l3 l' : Loc} {σ σ0 σ1 σ2 σ' : St} {t x : T} {ts xs fin : List T} {v y : V} {vs : List V} {a b : Addr} {o : Op} {os : List Op} {ks fg : List Nat} {k : Nat} {e e2 : Expr} {es : List Expr} {pos apos cpos : Pos} {st : Stmt} {sts : List Stmt} {m n : M Vl} {D : Ends}

/-! ### statements' readings -/
/-- what a def gives back: a new list is none of the caller's -/
def VF (K : PySem.W.Frag) (F : Addr → Prop) (Z' : Addr → Prop) (H' : Hp) : Vl → V → Prop
  | .fr t, v => RF K H' Z' t v
  | .ow t, v => ∃ a, v = .ref a ∧ OA K H' Z' t a ∧ ¬ Z' a ∧ F a
/-- what is wanted of a flow -/
def FQ (K : PySem.W.Frag) (F : Addr → Prop) (D : Ends) (Z' : Addr → Prop) (σ' : St) (H' : Hp) : Fl → Prop
  | .nx => D.nx σ' H'
  | .bk => D.bk σ' H'
  | .ct => D.ct σ' H'
  | .rt v => ∀ x, VF K F Z' H' v x → D.rt x H'
def rS (K : PySem.W.Frag) (F : Addr → Prop) (m : M Fl) : TS := fun D σ H => ∃ l Z f l', AL K H Z l σ ∧ (∀ b, OwR l σ b → F b) ∧ (∀ b, H b = none → F b) ∧ m l = some (f, l') ∧
  ∀ σ' H' Z', Post K l σ Z H l' σ' Z' H' → FQ K F D Z' σ' H' f
theorem VR.vf {r : Vl} (n : ∀ b, H b = none → F b) (h : VR K H Z' H' r v) : VF K F Z' H' r v := by
  cases r with
  | fr t => exact h
  | ow t =>
    obtain ⟨a, e, o, z, m⟩ := h
    exact ⟨a, e, o, z, n a m⟩
theorem Post.own {P : Post K l σ Z H l1 σ1 Z1 H1} (f : ∀ b, OwR l σ b → F b) (n : ∀ b, H b = none → F b) : (∀ b, OwR l1 σ1 b → F b) ∧ ∀ b, H1 b = none → F b :=
  ⟨fun b w => (P.fo b w).elim (f b) (n b), fun b w => n b (P.ex.back w)⟩
/-- one statement behind the other -/
theorem pS_seq {ma mb : M Fl} (ha : PS X st (rS X.K F ma)) (hb : PSs X sts (rS X.K F mb)) : PSs X (st :: sts) (rS X.K F (seqM ma mb)) := (pss_cons ha hb).irw fun D σ H ⟨l, Z, f, l', A, f1, f2, e, q⟩ => by
  unfold seqM at e
  split at e
  · cases e
  · rename_i l1 e1
    refine ⟨l, Z, .nx, l1, A, f1, f2, e1, fun σ1 H1 Z1 P => ?_⟩
    have g := P.own f1 f2
    exact ⟨l1, Z1, f, l', P.al, g.1, g.2, e, fun σ' H' Z' Q => q σ' H' Z' (P.trans Q)⟩
  · rename_i l1 e1; cases e; exact ⟨l, Z, _, _, A, f1, f2, e1, fun σ1 H1 Z1 P => q σ1 H1 Z1 P⟩
  · rename_i l1 e1; cases e; exact ⟨l, Z, _, _, A, f1, f2, e1, fun σ1 H1 Z1 P => q σ1 H1 Z1 P⟩
  · rename_i l1 e1; cases e; exact ⟨l, Z, _, _, A, f1, f2, e1, fun σ1 H1 Z1 P => q σ1 H1 Z1 P⟩
theorem pS_nil : PSs X [] (rS X.K F (ret .nx)) := pss_nil.irw fun D σ H ⟨l, Z, f, l', A, f1, f2, e, q⟩ => by
  obtain ⟨rfl, rfl⟩ := ret_some.mp e
  exact q σ H Z (Post.refl A)
theorem pS_pass : PS X (.Pass pos) (rS X.K F (ret .nx)) := ps_pass.irw fun D σ H ⟨l, Z, f, l', A, f1, f2, e, q⟩ => by
  obtain ⟨rfl, rfl⟩ := ret_some.mp e
  exact q σ H Z (Post.refl A)
theorem pS_break : PS X (.Break pos) (rS X.K F (ret .bk)) := ps_break.irw fun D σ H ⟨l, Z, f, l', A, f1, f2, e, q⟩ => by
  obtain ⟨rfl, rfl⟩ := ret_some.mp e
  exact q σ H Z (Post.refl A)
theorem pS_cont : PS X (.Continue pos) (rS X.K F (ret .ct)) := ps_continue.irw fun D σ H ⟨l, Z, f, l', A, f1, f2, e, q⟩ => by
  obtain ⟨rfl, rfl⟩ := ret_some.mp e
  exact q σ H Z (Post.refl A)
theorem pS_retN : PS X (.Return none pos) (rS X.K F (ret (.rt (.fr .non)))) := ps_retN.irw fun D σ H ⟨l, Z, f, l', A, f1, f2, e, q⟩ => by
  obtain ⟨rfl, rfl⟩ := ret_some.mp e
  exact q σ H Z (Post.refl A) _ .non
theorem pS_ret (h : PE X e (rE X.K m)) : PS X (.Return (some e) pos) (rS X.K F (bind m fun v => ret (.rt v))) := (ps_ret h).irw fun D σ H ⟨l, Z, f, l', A, f1, f2, e, q⟩ => by
  obtain ⟨v, l1, e1, e2⟩ := bind_some.mp e
  obtain ⟨rfl, rfl⟩ := ret_some.mp e2
  exact ⟨l, Z, v, _, A, e1, fun x H' Z' P R => q σ H' Z' P.po x (R.vf f2)⟩
/-- a name forgotten -/
theorem drop_post (A : AL K H Z l σ) (hk : ∀ s, l[k]? = some s → (∀ t, s ≠ .rw t) ∧ ∀ t, s ≠ .lk t) : Post K l σ Z H (l.set k .no) σ Z H := by
  refine ⟨⟨A.zd, by simpa using A.len, fun i t h => ?_, fun i s t h1 h2 => ?_, fun i j s s' t t' a g1 g2 g3 g4 g5 g6 => ?_⟩, Ex.refl (fun b w => (W_sub A b w).1.ne) A.zd, fun b ⟨i, s, h1, h2, h3⟩ => ?_, fun i t h => ⟨?_, rfl⟩, fun i t h => ⟨⟨t, ?_⟩, rfl⟩, fun b ⟨i, t, h1, h3⟩ => ?_⟩
  · rcases get_set h with ⟨_, _, q⟩ | ⟨_, q⟩
    · cases q
    · exact A.fr i t q
  · rcases get_set h1 with ⟨_, _, q⟩ | ⟨_, q⟩
    · subst q; cases h2
    · exact A.ow i s t q h2
  · rcases get_set g1 with ⟨_, _, q⟩ | ⟨_, q⟩
    · subst q; cases g2
    · rcases get_set g3 with ⟨_, _, q'⟩ | ⟨_, q'⟩
      · subst q'; cases g4
      · exact A.dj i j s s' t t' a q g2 q' g4 g5 g6
  · rcases get_set h1 with ⟨_, _, q⟩ | ⟨_, q⟩
    · subst q; cases h2
    · exact .inl ⟨i, s, q, h2, h3⟩
  · have n : i ≠ k := fun q => by subst q; exact (hk _ h).2 t rfl
    rw [List.getElem?_set_ne (Ne.symm n)]
    exact h
  · have n : i ≠ k := fun q => by subst q; exact (hk _ h).1 t rfl
    rw [List.getElem?_set_ne (Ne.symm n)]
    exact h
  · rcases get_set h1 with ⟨_, _, q⟩ | ⟨_, q⟩
    · cases q
    · exact .inl ⟨i, t, q, h3⟩
theorem forget_post : ∀ {ks : List Nat} {l : Loc}, AL K H Z l σ → Post K l σ Z H (forget ks l) σ Z H
  | [], l, A => Post.refl A
  | k :: ks, l, A => by
    unfold forget
    have step : Post K l σ Z H (match l[k]? with | some (.rw _) => l | some (.lk _) => l | _ => l.set k .no) σ Z H := by
      split
      · exact Post.refl A
      · exact Post.refl A
      · rename_i h1 h2
        exact drop_post A fun s hs => ⟨fun t e => by subst e; exact h1 t hs, fun t e => by subst e; exact h2 t hs⟩
    exact step.trans (forget_post step.al)
theorem pS_retv (h : PE X e (tVar k)) : PS X (.Return (some e) pos) (rS X.K F (fun l => match l[k]? with
    | some (.fr t) => some (.rt (.fr t), l)
    | some (.ow t) => some (.rt (.ow t), l.set k .no)
    | _ => none)) := (ps_ret h).irw fun D σ H ⟨l, Z, f, l', A, f1, f2, e, q⟩ => by
  dsimp only at e
  split at e
  · rename_i t ht
    cases e
    obtain ⟨v, h1, h2⟩ := A.fr k t ht
    exact ⟨v, h1, q σ H Z (Post.refl A) v h2⟩
  · rename_i t ht
    cases e
    obtain ⟨a, h1, h2, h3⟩ := A.ow k _ t ht rfl
    have P : Post X.K l σ Z H (l.set k .no) σ Z H := drop_post A fun s hs => by
      rw [ht] at hs
      cases hs
      exact ⟨fun t q => (by cases q), fun t q => (by cases q)⟩
    exact ⟨_, h1, q σ H Z P _ ⟨a, rfl, h2, h3, f1 a ⟨k, t, ht, h1⟩⟩⟩
  · cases e
/-- a test, then a block -/
theorem rS_test {f : Bool → M Fl} (h : rS K F (bind m fun v => bind (truth v) f) D σ H) : rT K (bind m truth) σ H (fun c H1 => rS K F (f c) D σ H1) := by
  obtain ⟨l, Z, fl, l', A, f1, f2, e, q⟩ := h
  rw [← bind_assoc] at e
  obtain ⟨c, l1, e1, e2⟩ := bind_some.mp e
  refine ⟨l, Z, c, l1, A, e1, fun H1 Z1 P => ?_⟩
  have g := P.po.own f1 f2
  exact ⟨l1, Z1, fl, l', P.po.al, g.1, g.2, e2, fun σ' H' Z' Q => q σ' H' Z' (P.po.trans Q)⟩
theorem pS_if {as bs : List Stmt} {ma mb : M Fl} (hc : PT X e (rT X.K (bind m truth))) (ha : PSs X as (rS X.K F ma)) (hb : PSs X bs (rS X.K F mb)) :
    PS X (.If e as bs pos) (rS X.K F (bind m fun v => bind (truth v) fun d => if d = true then ma else mb)) := (ps_if hc ha hb).irw fun D σ H h => by
  refine rT_mono (rS_test h) fun c H1 q => ?_
  cases c <;> exact q
theorem pS_exp (h : PE X e (rE X.K m)) (hs : swapsWith e none pos.line X.env = pure false) : PS X (.Expr e pos) (rS X.K F (bind m fun _ => ret .nx)) := (ps_expr h hs).irw fun D σ H ⟨l, Z, f, l', A, f1, f2, e, q⟩ => by
  obtain ⟨v, l1, e1, e2⟩ := bind_some.mp e
  obtain ⟨rfl, rfl⟩ := ret_some.mp e2
  exact ⟨l, Z, v, _, A, e1, fun x H' Z' P R => q σ H' Z' P.po⟩
/-- x = value -/
theorem pS_asg {x : Str} {pos' : Pos} (hN : X.N.Nodup) (hi : X.N[k]? = some x) (hx : L2.Loc X.env.scope x) (h : PE X e (rE X.K m)) (hs : swapsWith e (some (.Name x pos')) pos.line X.env = pure false) (hf : X.fn x = true ∨ X.env.scope.names.lookup x = some .local) :
    PS X (.Assign [.Name x pos'] e pos) (rS X.K F (bind m fun v => bind (stV k v.sl) fun _ => ret .nx)) := (ps_set hN hi hx h hs hf).irw fun D σ H ⟨l, Z, f, l', A, f1, f2, e, q⟩ => by
  obtain ⟨v, l1, e1, e2⟩ := bind_some.mp e
  obtain ⟨_, l2, e3, e4⟩ := bind_some.mp e2
  obtain ⟨rfl, rfl⟩ := ret_some.mp e4
  exact ⟨l, Z, v, l1, A, e1, fun x H' Z' P R => q _ H' Z' (st_post A P R e3)⟩
/-- the same of a reading that is stronger -/
theorem tAsg_of {te : TE} (g : ∀ Q, rE K m σ H Q → te σ H Q) (h : rS K F (bind m fun v => bind (stV k v.sl) fun _ => ret .nx) D σ H) : tAsg te (gName k) D σ H := by
  obtain ⟨l, Z, f, l', A, f1, f2, e, q⟩ := h
  obtain ⟨v, l1, e1, e2⟩ := bind_some.mp e
  obtain ⟨_, l2, e3, e4⟩ := bind_some.mp e2
  obtain ⟨rfl, rfl⟩ := ret_some.mp e4
  exact g _ ⟨l, Z, v, l1, A, e1, fun x H' Z' P R => q _ H' Z' (st_post A P R e3)⟩
/-- a name's value moved to another name -/
theorem pS_mov {x : Str} {j : Nat} {pos' : Pos} (hN : X.N.Nodup) (hi : X.N[k]? = some x) (hx : L2.Loc X.env.scope x) (h : PE X e (tVar j)) (hs : swapsWith e (some (.Name x pos')) pos.line X.env = pure false) (hf : X.fn x = true ∨ X.env.scope.names.lookup x = some .local) :
    PS X (.Assign [.Name x pos'] e pos) (rS X.K F (fun l => match l[j]? with
    | some (.fr t) => bind (stV k (.fr t)) (fun _ => ret .nx) (l.set j .no)
    | some (.ow t) => bind (stV k (.ow t)) (fun _ => ret .nx) (l.set j .no)
    | _ => none)) := (ps_set hN hi hx h hs hf).irw fun D σ H ⟨l, Z, f, l', A, f1, f2, e, q⟩ => by
  dsimp only at e
  split at e
  · rename_i t ht
    obtain ⟨_, l2, e3, e4⟩ := bind_some.mp e
    obtain ⟨rfl, rfl⟩ := ret_some.mp e4
    obtain ⟨v, h1, h2⟩ := A.fr j t ht
    have P : Post X.K l σ Z H (l.set j .no) σ Z H := drop_post A fun s hs => by
      rw [ht] at hs
      cases hs
      exact ⟨fun t q => (by cases q), fun t q => (by cases q)⟩
    exact ⟨v, h1, q _ H Z (P.trans (stF_post P.al h2 e3).1)⟩
  · rename_i t ht
    obtain ⟨_, l2, e3, e4⟩ := bind_some.mp e
    obtain ⟨rfl, rfl⟩ := ret_some.mp e4
    obtain ⟨a, h1, h2, h3⟩ := A.ow j _ t ht rfl
    have P : Post X.K l σ Z H (l.set j .no) σ Z H := drop_post A fun s hs => by
      rw [ht] at hs
      cases hs
      exact ⟨fun t q => (by cases q), fun t q => (by cases q)⟩
    have no : ¬ Own (l.set j .no) σ a := fun ⟨i, s, u, g1, g2, g3⟩ => by
      rcases get_set g1 with ⟨_, _, q⟩ | ⟨n, q⟩
      · subst q; cases g2
      · exact n (A.dj i j s _ u t a q g2 ht rfl g3 h1)
    have A' : AL X.K H Z l2 (σ.set k (some (.ref a))) := st_al P.al e3 (fun t q => by cases q) fun u q => by
      cases q
      exact ⟨a, rfl, h2, h3, no⟩
    obtain ⟨e5, s0, hk, nr, nl⟩ := stV_get e3
    subst e5
    have hks : k < σ.length := by rw [← P.al.len]; exact (List.getElem?_eq_some_iff.mp hk).1
    have old : ∀ (i : Nat) s, ((l.set j Sl.no).set k (Sl.ow t))[i]? = some s → s ≠ .no → (i = k ∧ s = .ow t) ∨ (i ≠ k ∧ l[i]? = some s) := fun i s h n => by
      rcases get_set h with ⟨r1, _, r2⟩ | ⟨n', h'⟩
      · exact .inl ⟨r1, r2⟩
      · rcases get_set h' with ⟨_, _, r2⟩ | ⟨_, h''⟩
        · exact absurd r2 n
        · exact .inr ⟨n', h''⟩
    refine ⟨_, h1, q _ H Z ⟨A', Ex.refl (fun b w => (W_sub A b w).1.ne) A.zd, fun b ⟨i, s, g1, g2, g3⟩ => .inl ?_, fun i u g => ?_, fun i u g => ?_, fun b ⟨i, u, g1, g3⟩ => .inl ?_⟩⟩
    · rcases old i s g1 (by rintro rfl; cases g2) with ⟨rfl, rfl⟩ | ⟨n, g⟩
      · rw [List.getElem?_set_self hks] at g3
        cases g3
        exact ⟨j, _, ht, rfl, h1⟩
      · rw [List.getElem?_set_ne (Ne.symm n)] at g3
        exact ⟨i, s, g, g2, g3⟩
    · have nj : i ≠ j := fun q => by subst q; rw [ht] at g; cases g
      have nk : i ≠ k := fun q => by subst q; rw [List.getElem?_set_ne (Ne.symm nj), g] at hk; cases hk; exact nl u rfl
      rw [List.getElem?_set_ne (Ne.symm nk), List.getElem?_set_ne (Ne.symm nj), List.getElem?_set_ne (Ne.symm nk)]
      exact ⟨g, rfl⟩
    · have nj : i ≠ j := fun q => by subst q; rw [ht] at g; cases g
      have nk : i ≠ k := fun q => by subst q; rw [List.getElem?_set_ne (Ne.symm nj), g] at hk; cases hk; exact nr u rfl
      rw [List.getElem?_set_ne (Ne.symm nk), List.getElem?_set_ne (Ne.symm nj), List.getElem?_set_ne (Ne.symm nk)]
      exact ⟨⟨u, g⟩, rfl⟩
    · rcases old i _ g1 (by intro q; cases q) with ⟨rfl, r⟩ | ⟨n, g⟩
      · rw [List.getElem?_set_self hks] at g3
        cases g3
        exact ⟨j, _, ht, h1⟩
      · rw [List.getElem?_set_ne (Ne.symm n)] at g3
        exact ⟨i, u, g, g3⟩
  · cases e
end
end Ir

set_option Elab.async false
set_option linter.all false
namespace Ir
open PySem L2

section
variable {X : L2.Cx} {K : PySem.W.Frag} {H H0 H' H1 H2 H3 : Hp} {Z Z0 Z' Z1 Z2 Z3 Zc F : Addr → Prop} {l l0 l1 l2 l3 l' : Loc} {σ σ0 σ1 σ2 σ' : St} {t x : T} {ts xs fin : List T} {v y : V} {vs : List V} {a b : Addr} {o : Op} {os : List Op} {ks fg : List Nat} {k : Nat} {e e2 : Expr} {es : List Expr} {pos apos cpos : Pos} {st : Stmt} {sts : List Stmt} {m n : M Vl} {mo no : M Op} {D : Ends}

/-- an operand is given away -/
theorem give_post {t : T} (A0 : AL K H0 Z0 l0 σ) (P : PostE K l0 σ Z0 H0 l Z H) (R : OR K H0 Z H σ o v) (e : o.give l = some (t, l')) : ∃ Z', PostE K l0 σ Z0 H0 l' Z' H ∧ RF K H Z' t v := by
  have e' : gives [o] l = some ([t], l') := by
    show bind o.give (fun t => bind (ret []) fun ts => ret (t :: ts)) l = _
    exact bind_some.mpr ⟨t, l', e, rfl⟩
  have nd : (roots [o] [v]).Nodup := by
    cases o with
    | pl k => simp [roots]
    | vl u =>
      cases u with
      | fr t => simp [roots]
      | ow t => obtain ⟨a, rfl, _⟩ := R; simp [roots]
  obtain ⟨Z', P', r, _⟩ := gives_post A0 P (.cons R .nil) nd e'
  cases r with
  | cons r _ => exact ⟨Z', P', r⟩
theorem pg_or {g1 g2 : TG} (h1 : PG X e g1) (h2 : PG X e g2) : PG X e (fun v σ H Q => g1 v σ H Q ∨ g2 v σ H Q) := ⟨fun pins s σ H v u Q I r w => w.elim (h1.run pins s σ H v u Q I r) (h2.run pins s σ H v u Q I r)⟩
/-- a, b, .. = a tuple, or a list -/
theorem pS_unp {tse : Expr} (hN : swapsWithSole [tse] e pos.line X.env = pure false) (hw : swappedStores [tse] e X.env = pure none) (h1 : (assignEach [tse] X.env).map (·.2) = [assign tse X.env])
    (h : PE X e (rO X.K mo)) (hg : PG X tse (fun v σ H Q => gOf X.K (.tp ks) v σ H Q ∨ gUnl X.K ks.length (gNames ks) v σ H Q)) : PS X (.Assign [tse] e pos) (rS X.K F (unpM ks mo)) := (ps_asg h hg hN hw h1).irw fun D σ H ⟨l, Z, f, l', A, f1, f2, e, q⟩ => by
  obtain ⟨o, l1, e1, e2⟩ := bind_some.mp e
  split at e2
  · rename_i ts ht
    split at e2
    · rename_i hl
      obtain ⟨_, l2, e3, e4⟩ := bind_some.mp e2
      obtain ⟨rfl, rfl⟩ := ret_some.mp e4
      refine ⟨l, Z, o, l1, A, e1, fun v H1 Z1 P R => .inl ?_⟩
      rcases R.peek P.po.al ht with r | ⟨a, rfl, r⟩
      · have es : Tg.store (.tp ks) (.tup ts) l1 = some ((), l2) := by
          show (if ks.length = ts.length then stAll ks ts else fun _ => none) l1 = _
          rw [if_pos hl]
          exact e3
        exact store_post (tg := .tp ks) P.po.al r es fun σ' S => q σ' H1 Z1 (P.po.trans S.po)
      · cases r
    · cases e2
  · rename_i ts ht
    split at e2
    · rename_i hl
      obtain ⟨_, l2, e3, e4⟩ := bind_some.mp e2
      obtain ⟨rfl, rfl⟩ := ret_some.mp e4
      refine ⟨l, Z, o, l1, A, e1, fun v H1 Z1 P R => .inr ?_⟩
      rcases R.peek P.po.al ht with r | ⟨a, rfl, r⟩
      · cases r with
        | lst h0 _ r => exact ⟨_, _, rfl, .inl h0, by rw [hl, r.length], stAll_post P.po.al r e3 fun σ' S => q σ' H1 Z1 (P.po.trans S.po)⟩
        | kls h0 r => exact ⟨_, _, rfl, h0.sq, by rw [hl, r.length], stAll_post P.po.al r e3 fun σ' S => q σ' H1 Z1 (P.po.trans S.po)⟩
      · cases r with
        | lst h0 r => exact ⟨_, _, rfl, SqL.of h0, by rw [hl, r.length], stAll_post P.po.al r e3 fun σ' S => q σ' H1 Z1 (P.po.trans S.po)⟩
    · cases e2
  · cases e2
/-- behind a store, another name gets a new list -/
theorem st_post3 {u : T} (S : Post K l0 σ0 Z0 H0 l σ Z H) (o : OA K H Z u b) (nz : ¬ Z b) (n0 : H0 b = none) (no : ¬ Own l σ b) (e : stV k (.ow u) l = some ((), l')) : Post K l0 σ0 Z0 H0 l' (σ.set k (some (.ref b))) Z H := by
  have A' : AL K H Z l' (σ.set k (some (.ref b))) := st_al S.al e (fun t q => by cases q) (fun t q => by cases q; exact ⟨b, rfl, o, nz, no⟩)
  obtain ⟨e1, s0, hk, nr, nl⟩ := stV_get e
  subst e1
  have hks : k < σ.length := by rw [← S.al.len]; exact (List.getElem?_eq_some_iff.mp hk).1
  refine ⟨A', S.ex, fun c ⟨i, s, h1, h2, h3⟩ => ?_, fun i t h => ?_, fun i t h => ?_, fun c ⟨i, t, h1, h3⟩ => ?_⟩
  · rcases get_set h1 with ⟨rfl, _, q⟩ | ⟨n, q⟩
    · rw [List.getElem?_set_self hks] at h3
      cases h3
      exact .inr n0
    · rw [List.getElem?_set_ne (Ne.symm n)] at h3
      exact S.wn c ⟨i, s, q, h2, h3⟩
  · obtain ⟨h1, h2⟩ := S.lk i t h
    have n : i ≠ k := fun q => by subst q; rw [hk] at h1; cases h1; exact nl t rfl
    rw [List.getElem?_set_ne (Ne.symm n), List.getElem?_set_ne (Ne.symm n)]
    exact ⟨h1, h2⟩
  · obtain ⟨⟨t', h1⟩, h2⟩ := S.rw i t h
    have n : i ≠ k := fun q => by subst q; rw [hk] at h1; cases h1; exact nr t' rfl
    rw [List.getElem?_set_ne (Ne.symm n), List.getElem?_set_ne (Ne.symm n)]
    exact ⟨⟨t', h1⟩, h2⟩
  · rcases get_set h1 with ⟨rfl, _, q⟩ | ⟨n, q⟩
    · rw [List.getElem?_set_self hks] at h3
      cases h3
      exact .inr n0
    · rw [List.getElem?_set_ne (Ne.symm n)] at h3
      exact S.fo c ⟨i, t, q, h3⟩
/-- a, b = x, y -/
theorem pS_par {i j : Nat} {x y : Str} {ea eb : Expr} {px py pt : Pos} {kt k2 pt2} (hc : X.calm = true) (hN : X.N.Nodup) (hi : X.N[i]? = some x) (hj : X.N[j]? = some y) (hij : i ≠ j) (hx : X.env.scope.names.lookup x = some .local) (hy : X.env.scope.names.lookup y = some .local)
    (ha : PE X ea (rO X.K mo)) (hb : PE X eb (rO X.K no)) (h1 : starEach [ea, eb] X.env = (false, eval ea X.env) :: starEach [eb] X.env) (h2 : starEach [eb] X.env = (false, eval eb X.env) :: starEach [] X.env)
    (hw : swappedStores [.Tuple [.Name x px, .Name y py] kt pt] (.Tuple [ea, eb] k2 pt2) X.env = pure (some [x, y])) (hs : swapsWithSole [.Tuple [.Name x px, .Name y py] kt pt] (.Tuple [ea, eb] k2 pt2) pos.line X.env = pure false) :
    PS X (.Assign [.Tuple [.Name x px, .Name y py] kt pt] (.Tuple [ea, eb] k2 pt2) pos) (rS X.K F (parM i j mo no)) :=
  (ps_par hc hN hi hj hij hx hy (pa_cons ha (pa_cons hb pa_nil h2) h1) hw hs).irw fun D σ H ⟨l, Z, f, l', A, f1, f2, e, q⟩ => by
  obtain ⟨ox, l1, e1, e⟩ := bind_some.mp e
  obtain ⟨oy, l2, e2, e⟩ := bind_some.mp e
  split at e
  · obtain ⟨_, l5, e5, e⟩ := bind_some.mp e
    obtain ⟨_, l6, e6, e⟩ := bind_some.mp e
    obtain ⟨rfl, rfl⟩ := ret_some.mp e
    refine ⟨l, Z, _, l1, A, e1, fun v H1 Z1 P1 R1 => ⟨l1, Z1, _, l2, P1.po.al, e2, fun w H2 Z2 P2 R2 => ?_⟩⟩
    have R1' := R1.ex P2.po P1.po.al (P1.elder A)
    have P12 := P1.trans P2
    have S1 := st_post (r := .ow _) A P12 R1' e5
    obtain ⟨a, rfl, oa, _, _⟩ := R1
    obtain ⟨b, rfl, ob, nz, nb⟩ := R2
    have hb : H b = none := P1.po.ex.back nb
    refine ⟨_, _, rfl, q _ H2 Z2 (st_post3 S1 ob nz hb (fun ⟨c, s, t', h1, h2, h3⟩ => ?_) e6)⟩
    obtain ⟨e7, s0, hk, _, _⟩ := stV_get e5
    subst e7
    have hks : i < σ.length := by rw [← P12.po.al.len]; exact (List.getElem?_eq_some_iff.mp hk).1
    rcases get_set h1 with ⟨rfl, _, _⟩ | ⟨n, g⟩
    · rw [List.getElem?_set_self hks] at h3
      cases h3
      exact oa.ne nb
    · rw [List.getElem?_set_ne (Ne.symm n)] at h3
      exact (Own.at A b (P12.os b ⟨c, s, t', g, h2, h3⟩)).1 hb
  obtain ⟨tv, l3, e3, e⟩ := bind_some.mp e
  obtain ⟨tw, l4, e4, e⟩ := bind_some.mp e
  obtain ⟨_, l5, e5, e⟩ := bind_some.mp e
  obtain ⟨_, l6, e6, e⟩ := bind_some.mp e
  obtain ⟨rfl, rfl⟩ := ret_some.mp e
  refine ⟨l, Z, ox, l1, A, e1, fun v H1 Z1 P1 R1 => ⟨l1, Z1, oy, l2, P1.po.al, e2, fun w H2 Z2 P2 R2 => ?_⟩⟩
  have R1' := R1.ex P2.po P1.po.al (P1.elder A)
  have hv : gives [ox, oy] l2 = some ([tv, tw], l4) := by
    show bind ox.give (fun t => bind (bind oy.give fun t => bind (ret []) fun ts => ret (t :: ts)) fun ts => ret (t :: ts)) l2 = _
    exact bind_some.mpr ⟨tv, l3, e3, bind_some.mpr ⟨[tw], l4, bind_some.mpr ⟨tw, l4, e4, rfl⟩, rfl⟩⟩
  have nd : (roots [ox, oy] [v, w]).Nodup := by
    cases ox with
    | pl k =>
      cases oy with
      | pl k => simp [roots]
      | vl u => cases u with
        | fr t => simp [roots]
        | ow t => obtain ⟨a, rfl, _⟩ := R2; simp [roots]
    | vl u => cases u with
      | fr t =>
        cases oy with
        | pl k => simp [roots]
        | vl u => cases u with
          | fr t => simp [roots]
          | ow t => obtain ⟨a, rfl, _⟩ := R2; simp [roots]
      | ow t =>
        obtain ⟨a, rfl, oa, _⟩ := R1
        cases oy with
        | pl k => simp [roots]
        | vl u => cases u with
          | fr t => simp [roots]
          | ow t =>
            obtain ⟨b, rfl, _, _, nb⟩ := R2
            simp only [roots, List.nodup_cons, List.mem_singleton, List.not_mem_nil, not_false_eq_true, List.nodup_nil, and_true]
            intro e
            subst e
            exact oa.ne nb
  obtain ⟨Z3, P3, r3, _⟩ := gives_post A (P1.trans P2) (.cons R1' (.cons (R2.old P1.po.ex) .nil)) nd hv
  cases r3 with
  | cons ra rb =>
    cases rb with
    | cons rb _ =>
      refine ⟨v, w, rfl, ?_⟩
      have Q1 := (stF_post P3.po.al ra e5).1
      have Q2 := (stF_post Q1.al rb e6).1
      exact q _ H2 Z3 ((P3.po.trans Q1).trans Q2)
/-- x op= e, by values -/
def rIp (K : PySem.W.Frag) (p : Pr) : TIp := fun x y H Q => (∃ Z t1 t2 u, PK K H Z t1 x ∧ PK K H Z t2 y ∧ prS p [t1, t2] = some (.fr u) ∧ augOk p u = true ∧ (∀ b, Z b → H b ≠ none) ∧ ∀ v H' Z', Ex0 Z Z' H H' → RF K H' Z' u v → Q v H') ∨ (p = .add ∧ rExt2 x y H Q)
theorem pS_aug {x : Str} {op : Operator} {p : Pr} {pos' : Pos} (hN : X.N.Nodup) (hi : X.N[k]? = some x) (hx : L2.Loc X.env.scope x) (h : PE X e (rO X.K mo)) (ho : PIp X op (rIp X.K p)) (hf : X.fn x = true ∨ X.env.scope.names.lookup x = some .local) :
    PS X (.AugAssign (.Name x pos') op e pos) (rS X.K F (augM k p mo)) := (ps_aug hN hi hx h ho hf).irw fun D σ H ⟨l, Z, f, l', A, f1, f2, e, q⟩ => by
  unfold augM at e
  split at e
  · cases e
  · rename_i t0 ht0
    obtain ⟨v0, h0, _⟩ := A.val ht0
    obtain ⟨o, l1, e1, e2⟩ := bind_some.mp e
    refine ⟨v0, h0, l, Z, o, l1, A, e1, fun y H1 Z1 P R => ?_⟩
    split at e2
    · rename_i t ht
      split at e2
      · rename_i u hu
        split at e2
        · rename_i w hw
          split at e2
          · rename_i nt
            obtain ⟨_, l2, e3, e4⟩ := bind_some.mp e2
            obtain ⟨rfl, rfl⟩ := ret_some.mp e4
            obtain ⟨v, g1, g2⟩ := P.po.al.fr k t ht
            rw [h0] at g1
            cases g1
            refine .inl ⟨Z1, t, u, w, .inl g2, R.peek P.po.al hu, hw, nt, P.po.al.zd, fun v H' Z' ex r => ?_⟩
            have P2 := PostE.new P.po.al ex
            exact q _ H' Z' ((P.po.trans P2.po).trans (stF_post P2.po.al r e3).1)
          · cases e2
        · cases e2
      · cases e2
    · rename_i xs hxs
      split at e2
      · rename_i ys
        split at e2
        · rename_i hp
          obtain ⟨_, l2, e3, e4⟩ := bind_some.mp e2
          obtain ⟨rfl, rfl⟩ := ret_some.mp e4
          obtain ⟨a, g1, g2, _⟩ := P.po.al.ow k _ _ hxs rfl
          rw [h0] at g1
          cases g1
          cases g2 with
          | lst g2 r2 =>
            obtain ⟨b, rfl, ob, zb, nb⟩ := R
            cases ob with
            | lst g3 r3 =>
              refine .inr ⟨hp.1, a, b, _, _, rfl, rfl, g2, g3, by rw [← r2.length, ← r3.length]; exact size_le hp.2, ?_⟩
              have P2 := put_post P.po.al e3 h0 (r2.append r3)
              have hk := (List.getElem?_eq_some_iff.mp h0)
              have es : σ.set k (some (.ref a)) = σ := by
                refine List.ext_getElem? fun i => ?_
                by_cases hi : i = k
                · subst hi; rw [List.getElem?_set_self hk.1]; exact h0.symm
                · rw [List.getElem?_set_ne (Ne.symm hi)]
              show D.nx (σ.set k (some (V.ref a))) _
              rw [es]
              exact q σ _ Z1 (P.po.trans P2.po)
        · cases e2
      · cases e2
    · cases e2
/-- k.append(e) -/
theorem pS_app (h : PE X e (tVar k)) (he : PE X e2 (rO X.K mo)) (hb : attributeBase e "append" X.env (eval e X.env) = eval e X.env) (hl : (apos.endLine == cpos.line) = true)
    (hs : starEach [e2] X.env = (false, eval e2 X.env) :: starEach [] X.env) (hf : ((backTo cpos (starEach [e2] X.env)).all (fun x => !x.1) && (backToKw cpos (keywordEach [] X.env)).all (fun x => x.1.isSome)
      && decide ([e2].length + ([] : List Keyword).length + (if ([] : List Keyword).isEmpty then 0 else 1) < 30)) = true) (hsw : swapsWith (.Call (.Attribute e "append" apos) [e2] [] cpos) none pos.line X.env = pure false) :
    PS X (.Expr (.Call (.Attribute e "append" apos) [e2] [] cpos) pos) (rS X.K F (appM k (bind mo fun o => o.give))) :=
  (ps_expr (pe_bm PySem.F.plainAttrs_list PySem.F.slot_list_append PySem.F.type_list_append mt_append h (pa_cons he pa_nil hs) hb hf hl hs rfl) hsw).irw fun D σ H ⟨l, Z, f, l', A, f1, f2, e, q⟩ => by
  obtain ⟨t0, l0, e1, e3⟩ := bind_some.mp e
  split at e3
  · rename_i hl0
    cases t0 with
    | lst xs0 =>
      obtain ⟨e0, a, vs0, h1, h2, _⟩ := own_list A e1
      subst e0
      obtain ⟨x, l2, e4, e5⟩ := bind_some.mp e3
      obtain ⟨o, l1, e6, e7⟩ := bind_some.mp e4
      obtain ⟨t, l3, e8, e9⟩ := bind_some.mp e5
      split at e9
      · rename_i xs
        split at e9
        · rename_i hlen
          obtain ⟨_, l4, e10, e11⟩ := bind_some.mp e9
          obtain ⟨rfl, rfl⟩ := ret_some.mp e11
          refine ⟨_, h1, .inl ⟨rfl, vs0, SqL.of h2⟩, l0, Z, o, l1, A, e6, fun v H1 Z1 P R => ?_⟩
          obtain ⟨Z2, P2, r⟩ := give_post A P R e7
          obtain ⟨e0, a', vs, g1, g2, r2⟩ := own_list P2.po.al e8
          subst e0
          obtain rfl := own_inj h1 g1
          refine ⟨a, vs, v, rfl, rfl, g2, by rw [← r2.length]; exact hlen, ?_⟩
          have P3 := put_post P2.po.al e10 g1 (r2.append (.cons r .nil))
          exact q σ _ Z2 (P2.trans P3).po
        · cases e9
      · cases e9
    | _ => cases hl0
  · cases e3
end
end Ir

set_option Elab.async false
set_option linter.all false
set_option maxRecDepth 20000
namespace Ir
open PySem L2

section
variable {X : L2.Cx} {K : PySem.W.Frag} {H H0 H' H1 H2 : Hp} {Z Z0 Z' Z1 Z2 : Addr → Prop} {t : T} {ts xs fin : List T} {v x y : V} {vs : List V} {a b : Addr} {Q : VK} {p : Pr} {res : Vl}

/-! ### what an operand is -/
theorem PK.int {i : Int} (h : PK K H Z (.int i) v) : v = .int i := by
  rcases h with h | ⟨a, rfl, h⟩
  · cases h; rfl
  · cases h
theorem PK.bl {i : Bool} (h : PK K H Z (.bl i) v) : v = .bl i := by
  rcases h with h | ⟨a, rfl, h⟩
  · cases h; rfl
  · cases h
theorem PK.non (h : PK K H Z .non v) : v = .non := by
  rcases h with h | ⟨a, rfl, h⟩
  · cases h; rfl
  · cases h
theorem PK.str {s : List Nat} (h : PK K H Z (.str s) v) : ∃ z : Str, v = .str z ∧ z.cps.toList = s := by
  rcases h with h | ⟨a, rfl, h⟩
  · generalize e : T.str s = t at h
    cases h with
    | str z => cases e; exact ⟨z, rfl, rfl⟩
    | _ => cases e
  · cases h
/-- a list that may be read -/
def LsT (K : PySem.W.Frag) (H : Hp) (a : Addr) (vs : List V) : Prop := Rd H a (.lst vs) ∨ Kn K a vs
theorem LsT.sq (h : LsT K H a vs) : SqL K H a vs := h.elim .inl Kn.sq
theorem LsT.ok {pins : List (Addr × Obj)} {σ : St} {s : Shared} (I : L2.Inv X pins σ H s) (h : LsT X.K H a vs) : vs.length ≤ sizeLine ∧ ∃ (us : List Value) (n : Nat), Vals vs us ∧ s.heap.get? a = some { cls := .type "list", data := .seq us.toArray n } := by
  rcases h with h | ⟨hz, us, n, r, e⟩
  · exact h.ok I.hok
  · exact ⟨hz, us, n, r, I.kIn _ _ e⟩
theorem PK.lst (h : PK K H Z (.lst ts) v) : ∃ a vs, v = .ref a ∧ LsT K H a vs ∧ RFs K H Z ts vs := by
  rcases h with h | ⟨a, rfl, h⟩
  · cases h with
    | lst h1 _ h2 => exact ⟨_, _, rfl, .inl h1, h2⟩
    | kls h1 h2 => exact ⟨_, _, rfl, .inr h1, h2⟩
  · cases h with
    | lst h1 h2 => exact ⟨_, _, rfl, .inl (.of h1), h2⟩
theorem PK.tup (h : PK K H Z (.tup ts) v) : ∃ a vs, v = .ref a ∧ SqT K H a vs ∧ RFs K H Z ts vs := by
  rcases h with h | ⟨a, rfl, h⟩
  · cases h with
    | tup h1 h2 => exact ⟨_, _, rfl, h1, h2⟩
  · cases h
theorem PK.self (h : PK K H Z (.tup ts) v) : RF K H Z (.tup ts) v := by
  rcases h with h | ⟨a, rfl, h⟩
  · exact h
  · cases h
theorem PKs.one (h : PKs K H Z ts [v]) : ∃ t, ts = [t] ∧ PK K H Z t v := by
  cases h with
  | cons h1 h2 => cases h2; exact ⟨_, rfl, h1⟩
theorem PKs.two (h : PKs K H Z ts [x, y]) : ∃ t u, ts = [t, u] ∧ PK K H Z t x ∧ PK K H Z u y := by
  cases h with
  | cons h1 h2 =>
    obtain ⟨u, rfl, h3⟩ := h2.one
    exact ⟨_, _, rfl, h1, h3⟩
theorem Str.of_list {z : Str} {s : List Nat} (h : z.cps.toList = s) : z = ⟨s.toArray⟩ := by
  cases z with
  | mk c => subst h; simp
theorem Str.len {z : Str} {s : List Nat} (h : z.cps.toList = s) : z.length = s.length := by
  subst h
  simp [Str.length]
/-! ### what comes out -/
/-- the continuation of a primitive -/
abbrev Fin (K : PySem.W.Frag) (H : Hp) (Z : Addr → Prop) (res : Vl) (Q : VK) : Prop := ∀ v H' Z', Ex0 Z Z' H H' → VR K H Z' H' res v → Q v H'
theorem fin_fr (zd : ∀ b, Z b → H b ≠ none) (q : Fin K H Z (.fr t) Q) (r : RF K H Z t v) : Q v H := q v H Z (Ex0.refl zd) r
theorem fin_tup (zd : ∀ b, Z b → H b ≠ none) (q : Fin K H Z (.fr (.tup ts)) Q) (r : RFs K H Z ts vs) : ∀ p, H p = none → Q (.ref p) (upd H p (.tup vs)) := fun p n => by
  have ex : Ex0 Z Z H (upd H p (.tup vs)) := Ex0.obj zd n
  exact q _ _ Z ex (.tup (SqT.of upd_same) (r.new ex))
theorem fin_lst (zd : ∀ b, Z b → H b ≠ none) (q : Fin K H Z (.ow (.lst ts)) Q) (r : RFs K H Z ts vs) : ∀ p, H p = none → Q (.ref p) (upd H p (.lst vs)) := fun p n => by
  have ex : Ex0 Z Z H (upd H p (.lst vs)) := Ex0.obj zd n
  exact q _ _ Z ex ⟨p, rfl, .lst upd_same (r.new ex), fun z => zd p z n, n⟩
theorem fin_int {i : Int} (zd : ∀ b, Z b → H b ≠ none) (q : Fin K H Z (.fr (.int i)) Q) : Q (.int i) H := fin_fr zd q (.int i)
theorem fin_bool {i : Bool} (zd : ∀ b, Z b → H b ≠ none) (e : bool i = some res) (q : Fin K H Z res Q) : Q (.bl i) H := by
  cases e
  exact fin_fr zd q (.bl i)
theorem fin_str {s : List Nat} {z : Str} (zd : ∀ b, Z b → H b ≠ none) (q : Fin K H Z (.fr (.str s)) Q) (e : z.cps.toList = s) : Q (.str z) H := by
  subst e
  exact fin_fr zd q (.str z)
theorem some_res {r : Vl} (h : some r = some res) : res = r := (Option.some.inj h).symm
theorem if_some {α : Type} {c : Prop} [Decidable c] {r r' : α} (h : (if c then some r else none) = some r') : c ∧ r' = r := by
  split at h
  · exact ⟨by assumption, (Option.some.inj h).symm⟩
  · cases h

/-! ### ints -/
theorem int2_inv {f : Int → Int → Int} (e : int2 f ts = some res) : ∃ i j, ts = [.int i, .int j] ∧ res = .fr (.int (f i j)) := by
  unfold int2 at e
  split at e
  · exact ⟨_, _, rfl, some_res e⟩
  · cases e
theorem int1_inv {f : Int → Int} (e : int1 f ts = some res) : ∃ i, ts = [.int i] ∧ res = .fr (.int (f i)) := by
  unfold int1 at e
  split at e
  · exact ⟨_, rfl, some_res e⟩
  · cases e
theorem rP2_int (h : PKs K H Z [.int i, .int j] [x, y]) : x = .int i ∧ y = .int j := by
  obtain ⟨t, u, e, h1, h2⟩ := h.two
  cases e
  exact ⟨h1.int, h2.int⟩
theorem o_sub : OpR X (binaryOp .Sub) (rP2 X.K .sub) := by
  intro pins s σ H x y v u Q I rx ry ⟨Z, ts, res, zd, pk, e, q⟩
  obtain ⟨i, j, rfl, rfl⟩ := int2_inv (show int2 (· - ·) ts = some res from e)
  obtain ⟨rfl, rfl⟩ := rP2_int pk
  exact op_sub pins s σ H _ _ v u Q I rx ry ⟨i, j, rfl, rfl, fin_int zd q⟩
theorem o_mod : OpR X (binaryOp .Mod) (rP2 X.K .mod) := by
  intro pins s σ H x y v u Q I rx ry ⟨Z, ts, res, zd, pk, e, q⟩
  replace e : prMod ts = some res := e
  unfold prMod at e
  split at e
  · obtain ⟨c, rfl⟩ := if_some e
    obtain ⟨rfl, rfl⟩ := rP2_int pk
    exact op_mod pins s σ H _ _ v u Q I rx ry ⟨_, _, rfl, rfl, c, fin_int zd q⟩
  · cases e
theorem o_fdv : OpR X (binaryOp .FloorDiv) (rP2 X.K .fdv) := by
  intro pins s σ H x y v u Q I rx ry ⟨Z, ts, res, zd, pk, e, q⟩
  replace e : prFdv ts = some res := e
  unfold prFdv at e
  split at e
  · obtain ⟨c, rfl⟩ := if_some e
    obtain ⟨rfl, rfl⟩ := rP2_int pk
    exact op_fdivW pins s σ H _ _ v u Q I rx ry ⟨_, _, rfl, rfl, c, fin_int zd q⟩
  · cases e
theorem o_pow : OpR X (binaryOp .Pow) (rP2 X.K .pow) := by
  intro pins s σ H x y v u Q I rx ry ⟨Z, ts, res, zd, pk, e, q⟩
  replace e : prPow ts = some res := e
  unfold prPow at e
  split at e
  · obtain ⟨⟨c1, c2, c3⟩, rfl⟩ := if_some e
    obtain ⟨rfl, rfl⟩ := rP2_int pk
    exact op_pow pins s σ H _ _ v u Q I rx ry ⟨_, _, rfl, rfl, ⟨c1, by omega, c3⟩, fin_int zd q⟩
  · cases e
theorem o_neg : UnR X (unaryOp .USub) (rP1 X.K .neg) := by
  intro pins s σ H x v Q I rx ⟨Z, ts, res, zd, pk, e, q⟩
  obtain ⟨i, rfl, rfl⟩ := int1_inv (show int1 (- ·) ts = some res from e)
  obtain ⟨t, e1, h⟩ := pk.one
  cases e1
  obtain rfl := h.int
  exact un_neg pins s σ H _ v Q I rx ⟨i, rfl, fin_int zd q⟩
theorem mulOk_inv {a b : Int} (h : mulOk a b = true) : CMul a b ∨ CMulX a b := by
  unfold mulOk at h
  rcases (Bool.or_eq_true _ _).mp h with h | h
  · rcases (Bool.or_eq_true _ _).mp h with h | h
    · exact .inl (.inl (of_decide_eq_true h))
    · exact .inl (.inr (of_decide_eq_true h))
  · refine .inr ?_
    have h := of_decide_eq_true h
    have w : ∀ x : Int, Builtin.Int.intBits x ≤ x.natAbs.log2 + 1 := fun x => by
      unfold Builtin.Int.intBits
      split <;> omega
    have h1 := w a
    have h2 := w b
    unfold CMulX
    have : (2 : Nat) ^ 26 = 67108864 := by decide
    omega

/-! ### + -/
theorem sum_size {xs : List T} {ys : List T} {vs ws : List V} (h : RFs K H Z xs vs) (g : RFs K H Z ys ws) (c : xs.length + ys.length ≤ sizeMax) : vs.length + ws.length ≤ sizeLine := by
  rw [← h.length, ← g.length]
  exact c
theorem cat_lists {pins : List (Addr × Obj)} {σ : St} {s : Shared} {a b : Addr} {xs ys : List V} (I : L2.Inv X pins σ H s) (ha : LsT X.K H a xs) (hb : LsT X.K H b ys) (hz : xs.length + ys.length ≤ sizeLine)
    (q : ∀ p, H p = none → Q (.ref p) (upd H p (.lst (xs ++ ys)))) : PySem.wpAny (PySem.model X.prog X.w) X.A (binaryOp .Add (.ref a) (.ref b)) (EP X pins σ Q) X.xe s := by
  obtain ⟨_, its, n, r, e⟩ := ha.ok I
  obtain ⟨_, its2, n2, r2, e2⟩ := hb.ok I
  refine PySem.P.add_list e e2 ?_ (by rw [List.size_toArray, List.size_toArray, ← r.length, ← r2.length]; exact hz)
  rw [show its.toArray ++ its2.toArray = (its ++ its2).toArray from by simp]
  exact ⟨.ref _, _, I.lnew (t' := s.toks) (r.append r2) (by rw [List.length_append]; exact hz), rfl, q _ I.fresh⟩
theorem o_add : OpR X (binaryOp .Add) (rP2 X.K .add) := by
  intro pins s σ H x y v u Q I rx ry ⟨Z, ts, res, zd, pk, e, q⟩
  replace e : prAdd ts = some res := e
  unfold prAdd at e
  split at e
  · cases some_res e
    obtain ⟨rfl, rfl⟩ := rP2_int pk
    exact op_add pins s σ H _ _ v u Q I rx ry ⟨_, _, rfl, rfl, fin_int zd q⟩
  · obtain ⟨c, rfl⟩ := if_some e
    obtain ⟨t, w, e1, h1, h2⟩ := pk.two
    cases e1
    obtain ⟨z1, rfl, k1⟩ := h1.str
    obtain ⟨z2, rfl, k2⟩ := h2.str
    refine op_add_str pins s σ H _ _ v u Q I rx ry ⟨z1, z2, rfl, rfl, ?_, fin_str zd q ?_⟩
    · rw [Str.len k1, Str.len k2]; exact c
    · subst k1 k2
      show (z1.cps ++ z2.cps).toList = _
      simp
  · obtain ⟨c, rfl⟩ := if_some e
    obtain ⟨t, w, e1, h1, h2⟩ := pk.two
    cases e1
    have k1 := h1.self
    have k2 := h2.self
    obtain ⟨a, xs, rfl, sa, ra⟩ := h1.tup
    obtain ⟨b, ys, rfl, sb, rb⟩ := h2.tup
    have ll := ra.length
    have lr := rb.length
    refine op_catA pins s σ H _ _ v u Q I rx ry ⟨a, b, xs, ys, rfl, rfl, sa, sb, sum_size ra rb c, fun e => ?_, fun _ e => ?_, fun _ _ => fin_tup zd q (ra.append rb)⟩
    · subst e
      cases ra
      exact fin_fr zd q k2
    · subst e
      cases rb
      rw [List.append_nil] at q
      exact fin_fr zd q k1
  · obtain ⟨c, rfl⟩ := if_some e
    obtain ⟨t, w, e1, h1, h2⟩ := pk.two
    cases e1
    obtain ⟨a, xs, rfl, sa, ra⟩ := h1.lst
    obtain ⟨b, ys, rfl, sb, rb⟩ := h2.lst
    cases rx
    cases ry
    exact cat_lists I sa sb (sum_size ra rb c) (fin_lst zd q (ra.append rb))
  · cases e

/-! ### * -/
theorem small_fit {k : Int} (h : small k = true) : -(2 ^ 63) ≤ k ∧ k < 2 ^ 63 := by
  have h := of_decide_eq_true h
  omega
theorem rep_list {pins : List (Addr × Obj)} {σ : St} {s : Shared} {l : Addr} {k : Int} {t : Tok} {xs : List V} (I : L2.Inv X pins σ H s) (ha : LsT X.K H l xs) (h1 : -(2 ^ 63) ≤ k) (h2 : k < 2 ^ 63) (hz : xs.length * k.toNat ≤ sizeLine)
    (q : ∀ p, H p = none → Q (.ref p) (upd H p (.lst (List.replicate k.toNat xs).flatten))) : PySem.wpAny (PySem.model X.prog X.w) X.A (binaryOp .Mult (.ref l) (.int k t)) (EP X pins σ Q) X.xe s := by
  obtain ⟨_, us, n, r, e⟩ := ha.ok I
  have big := sizeLine_eq
  have hz' : us.length * k.toNat ≤ sizeLine := by rw [← r.length]; exact hz
  have items : (List.replicate (if us.toArray.isEmpty = true then 0 else k.toNat) us.toArray).foldl (fun p q => p ++ q) #[] = (List.replicate k.toNat us).flatten.toArray := by
    have all : ∀ m : Nat, (List.replicate m us.toArray).foldl (fun p q => p ++ q) #[] = (List.replicate m us).flatten.toArray := fun m => by
      have w := foldl_rep us m []
      rwa [List.nil_append] at w
    rw [all]
    cases us <;> simp
  have ty : s.TypeIs (.ref l) "list" := ⟨_, e, rfl⟩
  have mul := call_meets PySem.F.slot_list_mul (s := s) (prog := X.prog) (w := X.w) (A := X.A) ty PySem.F.entry_list_mul (PySem.F.args_list_mul_2 (.ref l) (.int k t)) (E := X.xe) (Q := EP X pins σ Q)
    (AutoListH.list___mul___list_int_3 l us.toArray n k t (by rw [fitsIndex_both h1 h2]; exact Bool.false_ne_true) (by rw [List.size_toArray]; omega) (by rw [List.size_toArray, notLongL hz']; exact Bool.false_ne_true))
    ⟨e, by rw [items]; exact ⟨.ref _, _, I.lnew (t' := s.toks) (r.rep k.toNat) (by rw [PyProof.Rows.lm_len_rep_flat, Nat.mul_comm]; exact hz), rfl, q _ I.fresh⟩⟩
  exact wpAny_binaryOp_repeat_ref (T := "list") (U := "int") (by decide) ty (fun _ => typeIs_int _ k t) noFill_list_mul PySem.F.fills_int_mul PySem.F.slot_int_rmul repeat_list PySem.F.slot_int_index.lookup
    (call_meets PySem.F.slot_int_rmul (typeIs_int s k t) PySem.F.entry_int_rmul (PySem.F.args_int_rmul_2 _ _) (int___rmul___int_list k t l us.toArray n) ⟨e, rfl, ty, mul⟩)
theorem fold_rep (c : Array Nat) : ∀ (n : Nat) (d : Array Nat), ((List.replicate n c).foldl (· ++ ·) d).toList = d.toList ++ (List.replicate n c.toList).flatten
  | 0, d => by simp
  | n + 1, d => by
    rw [List.replicate_succ, List.foldl_cons, fold_rep c n (d ++ c), List.replicate_succ, Array.toList_append, List.flatten_cons, List.append_assoc]
theorem mul_text {z : Str} {s : List Nat} {k : Int} (h : z.cps.toList = s) : (PySem.Txt.mul z k).cps.toList = (List.replicate k.toNat s).flatten := by
  unfold PySem.Txt.mul
  by_cases h1 : k < 1
  · rw [if_pos h1, show k.toNat = 0 by omega]
    rfl
  · rw [if_neg h1]
    split
    · rename_i c
      rcases (Bool.or_eq_true _ _).mp c with c | c
      · have : k = 1 := eq_of_beq c
        subst this
        simp [h]
      · have : z.length = 0 := eq_of_beq c
        have e : s = [] := by
          have := Str.len h
          exact List.length_eq_zero_iff.mp (by omega)
        subst e
        rw [h]
        simp
    · show ((List.replicate k.toNat z.cps).foldl (· ++ ·) #[]).toList = _
      rw [fold_rep, h]
      rfl
theorem tuple_mulW1 (l : Addr) (items : Array Value) (n : Nat) (dd : Option Addr) (sl : Array (Option Value)) (u : Tok) :
    Meets (Builtin.«tuple.__mul__» ⟨[.ref l, .int 1 u], []⟩) (fun _ R s => s.heap.get? l = some { cls := .type "tuple", dict := dd, data := .seq items n, slots := sl } ∧
      R (.ok (.ret (Value.ref l))) s) :=
  .of_wp fun prog w A R s h => by
    obtain ⟨hp, g, d, tk, os⟩ := s
    obtain ⟨hl, h⟩ := h
    have f1 := AutoSeq1.idx_int
    wp_walk using wpAny_loadPart' hl
    exact ⟨_, rfl, h⟩
/-- a tuple once -/
def rRepT1 (K : PySem.W.Frag) : L2.R2 := fun x y H Q => ∃ l xs, x = .ref l ∧ y = .int 1 ∧ SqT K H l xs ∧ Q (.ref l) H
theorem op_repT1 : OpR X (binaryOp .Mult) (rRepT1 X.K) := by
  intro pins s σ H x y v u Q I rx ry h
  obtain ⟨l, xs, rfl, rfl, hT, q⟩ := h
  cases rx
  obtain ⟨t, rfl⟩ := ry
  obtain ⟨its, r, ⟨⟨cls, dd, data, sl⟩, ho, hc, n, hd⟩, hs⟩ := I.tuple hT
  simp only at hc hd
  subst hc hd
  exact wpAny_binaryOp_repeat_ref (T := "tuple") (U := "int") (by decide) ⟨_, ho, rfl⟩ (fun s' => typeIs_int s' 1 t) L2.noFill_tuple_mul PySem.F.fills_int_mul PySem.F.slot_int_rmul L2.repeat_tuple PySem.F.slot_int_index.lookup
    (call_meets PySem.F.slot_int_rmul (typeIs_int s 1 t) PySem.F.entry_int_rmul (PySem.F.args_int_rmul_2 _ _) (L2.int_rmul_tuple 1 t l its.toArray n dd sl)
      ⟨ho, rfl, ⟨_, ho, rfl⟩, call_meets PySem.F.slot_tuple_mul ⟨_, ho, rfl⟩ PySem.F.entry_tuple_mul (PySem.F.args_tuple_mul_2 _ _) (tuple_mulW1 l its.toArray n dd sl t) ⟨ho, .ref l, H, I, rfl, q⟩⟩)
theorem o_mul : OpR X (binaryOp .Mult) (rP2 X.K .mul) := by
  intro pins s σ H x y v u Q I rx ry ⟨Z, ts, res, zd, pk, e, q⟩
  replace e : prMul ts = some res := e
  unfold prMul at e
  split at e
  · obtain ⟨c, rfl⟩ := if_some e
    obtain ⟨rfl, rfl⟩ := rP2_int pk
    rcases mulOk_inv c with c | c
    · exact op_mul pins s σ H _ _ v u Q I rx ry ⟨_, _, rfl, rfl, c, fin_int zd q⟩
    · exact op_mulX pins s σ H _ _ v u Q I rx ry ⟨_, _, rfl, rfl, c, fin_int zd q⟩
  · obtain ⟨⟨c, d⟩, rfl⟩ := if_some e
    obtain ⟨t, w, e1, h1, h2⟩ := pk.two
    cases e1
    obtain ⟨z1, rfl, k1⟩ := h1.str
    obtain rfl := h2.int
    obtain ⟨tx, rfl⟩ := rx
    obtain ⟨ty, rfl⟩ := ry
    obtain ⟨d1, d2⟩ := small_fit d
    have hz := Str.len k1
    rename_i a k
    refine PySem.SB.mul ⟨?_, fun g1 _ => ?_, fun _ _ => ?_⟩ fun t' m => ⟨.str _, H, I.tok m, ⟨t', rfl⟩, fin_str zd q (mul_text k1)⟩
    · rw [Bool.or_eq_false_iff]
      exact ⟨decide_eq_false (by omega), decide_eq_false (by omega)⟩
    · intro bad
      have h3 : (a.length : Int) * k ≤ 16777216 := by
        have : ((a.length * k.toNat : Nat) : Int) ≤ ((16777216 : Nat) : Int) := Int.ofNat_le.mpr c
        rwa [Int.natCast_mul, Int.toNat_of_nonneg (by omega)] at this
      rw [hz] at bad
      have h4 : (2 ^ 63 - 1) / k < (a.length : Int) := bad
      have h5 := Int.lt_mul_of_ediv_lt (show (0 : Int) < k by omega) h4
      omega
    · rw [hz]
      exact decide_eq_false (by have h5 : (sizeMax : Nat) = 16777216 := rfl; have h6 := sizeLine_eq; omega)
  · obtain ⟨⟨c, d⟩, rfl⟩ := if_some e
    obtain ⟨t, w, e1, h1, h2⟩ := pk.two
    cases e1
    obtain ⟨a, xs, rfl, sa, ra⟩ := h1.lst
    obtain rfl := h2.int
    obtain ⟨d1, d2⟩ := small_fit d
    cases rx
    obtain ⟨ty, rfl⟩ := ry
    exact rep_list I sa d1 d2 (by rw [← ra.length]; exact c) (fin_lst zd q (ra.flat _))
  · obtain ⟨⟨⟨c, c2⟩, d, d2⟩, rfl⟩ := if_some e
    obtain ⟨t, w, e1, h1, h2⟩ := pk.two
    cases e1
    obtain ⟨a, xs, rfl, sa, ra⟩ := h1.tup
    obtain rfl := h2.int
    have hl := ra.length
    rename_i ts k
    by_cases hk : k = 1
    · subst hk
      have e3 : (List.replicate (1 : Int).toNat ts).flatten = ts := by
        show (List.replicate 1 ts).flatten = ts
        simp
      rw [e3] at q
      exact op_repT1 pins s σ H _ _ v u Q I rx ry ⟨_, _, rfl, rfl, sa, fin_fr zd q (.tup sa ra)⟩
    · exact L2.op_repT pins s σ H _ _ v u Q I rx ry ⟨_, _, _, rfl, rfl, sa, fun h => by rw [h] at hl; simp only [List.length_nil] at hl; omega, by omega, d2, by omega, fin_tup zd q (ra.flat _)⟩
  · cases e

/-! ### data, compared -/
/-- the tree as data -/
def T.data : T → PyData
  | .non => .none
  | .bl b => .bool b
  | .int i => .int i
  | .str s => .str ⟨s.toArray⟩
  | .tup xs => .tuple (datas xs)
  | .lst xs => .list (datas xs)
  | .dct _ _ _ => .none
  | .set _ => .none
where datas : List T → List PyData
  | [] => []
  | x :: xs => T.data x :: datas xs
open T
mutual
theorem RF.dp : ∀ {n : Nat} {t : T} {v : V}, t.shp n = true → RF K H Z t v → Dp K H v t.data
  | _, _, _, _, .non => .non
  | _, _, _, _, .bl b => .bl b
  | _, _, _, _, .int i => .int i
  | _, _, _, _, .str x => by
    have := Dp.str (K := K) (H := H) x
    simpa [T.data] using this
  | n, _, _, s, .tup h r => .tup h (RFs.dp (n := n - 1) (by cases n with | zero => simp [T.shp] at s | succ n => simpa [T.shp] using s) r)
  | n, _, _, s, .lst h _ r => .lst (.inl h) (RFs.dp (n := n - 1) (by cases n with | zero => simp [T.shp] at s | succ n => simpa [T.shp] using s) r)
  | n, _, _, s, .kls h r => .lst h.sq (RFs.dp (n := n - 1) (by cases n with | zero => simp [T.shp] at s | succ n => simpa [T.shp] using s) r)
  | n, _, _, s, .dK _ _ _ _ _ => by cases n <;> simp [T.shp] at s
  | n, _, _, s, .dT _ _ _ _ _ => by cases n <;> simp [T.shp] at s
theorem RFs.dp : ∀ {n : Nat} {ts : List T} {vs : List V}, shps n ts = true → RFs K H Z ts vs → DpAll K H vs (data.datas ts)
  | _, _, _, _, .nil => .nil
  | n, _, _, s, .cons h r => .cons (RF.dp (n := n) (by simp [shps] at s; exact s.1) h) (RFs.dp (n := n) (by simp [shps] at s; exact s.2) r)
end
theorem PK.dp {n : Nat} (s : t.shp n = true) (h : PK K H Z t v) : Dp K H v t.data := by
  rcases h with h | ⟨a, rfl, h⟩
  · exact h.dp s
  · cases h with
    | lst h1 h2 => exact .lst (.inl (.of h1)) (h2.dp (n := n - 1) (by cases n with | zero => simp [T.shp] at s | succ n => simpa [T.shp] using s))
    | dK _ _ _ _ => cases n <;> simp [T.shp] at s
    | dT _ _ _ _ => cases n <;> simp [T.shp] at s
theorem strOk_of {s : List Nat} (h : (s.all fun c => decide (c < 0x110000)) = true) : PySem.PyData.strOk ⟨s.toArray⟩ = true := by
  unfold PySem.PyData.strOk
  rw [← Array.all_toList]
  exact h
mutual
theorem shp_lay : ∀ (n : Nat) (t : T), t.shp n = true → t.data.canLay0 = true ∧ t.data.depth ≤ n
  | n, .non, _ => ⟨rfl, Nat.zero_le _⟩
  | n, .bl _, _ => ⟨rfl, Nat.zero_le _⟩
  | n, .int _, _ => ⟨rfl, Nat.zero_le _⟩
  | n, .str s, h => ⟨strOk_of (by simpa [T.shp] using h), Nat.zero_le _⟩
  | 0, .tup _, h => by simp [T.shp] at h
  | n + 1, .tup xs, h => by
    obtain ⟨h1, h2⟩ := shps_lay n xs (by simpa [T.shp] using h)
    exact ⟨by simpa [T.data, PyData.canLay0] using h1, by simpa [T.data, PyData.depth] using h2⟩
  | 0, .lst _, h => by simp [T.shp] at h
  | n + 1, .lst xs, h => by
    obtain ⟨h1, h2⟩ := shps_lay n xs (by simpa [T.shp] using h)
    exact ⟨by simpa [T.data, PyData.canLay0] using h1, by simpa [T.data, PyData.depth] using h2⟩
  | n, .dct _ _ _, h => by simp [T.shp] at h
  | n, .set _, h => by simp [T.shp] at h
theorem shps_lay : ∀ (n : Nat) (ts : List T), shps n ts = true → PyData.canLayAll0 (data.datas ts) = true ∧ PyData.depthAll (data.datas ts) ≤ n
  | n, [], _ => ⟨rfl, Nat.zero_le _⟩
  | n, t :: ts, h => by
    simp only [shps, Bool.and_eq_true] at h
    obtain ⟨h1, h2⟩ := shp_lay n t h.1
    obtain ⟨h3, h4⟩ := shps_lay n ts h.2
    refine ⟨?_, ?_⟩
    · show (_ && _) = true
      rw [h1, h3]
      rfl
    · exact Nat.max_le.mpr ⟨h2, h4⟩
end
theorem shaped_of {t : T} (h : t.shp deep = true) : SeqAt.shaped t.data = true := by
  obtain ⟨h1, h2⟩ := shp_lay _ _ h
  unfold SeqAt.shaped
  rw [h1, Bool.true_and]
  exact decide_eq_true (Nat.le_trans h2 (by decide))
theorem shaped_lst {ts : List T} (h : shps deep ts = true) : SeqAt.shaped (.list (data.datas ts)) = true := by
  obtain ⟨h1, h2⟩ := shps_lay _ _ h
  have h3 : PyData.depth (.list (data.datas ts)) ≤ 64 := by
    show PyData.depthAll (data.datas ts) + 1 ≤ 64
    have : deep = 40 := rfl
    omega
  have h4 : PyData.canLay0 (.list (data.datas ts)) = true := h1
  unfold SeqAt.shaped
  rw [h4, Bool.true_and]
  exact decide_eq_true h3
theorem str_beq {x y : List Nat} : ((⟨x.toArray⟩ : PySem.Str) == ⟨y.toArray⟩) = (x == y) := by
  rw [Bool.eq_iff_iff]
  simp
mutual
theorem eqv_data : ∀ (n m : Nat) (t u : T), t.shp n = true → u.shp m = true → PyData.eqv t.data u.data = eqv t u
  | n, m, .non, u, h, g => by cases u <;> first | rfl | (simp [T.shp] at g)
  | n, m, .bl a, u, h, g => by cases u <;> first | rfl | (simp [T.shp] at g)
  | n, m, .int a, u, h, g => by cases u <;> first | rfl | (simp [T.shp] at g)
  | n, m, .str a, u, h, g => by
    cases u with
    | str b => exact str_beq
    | dct _ _ _ => simp [T.shp] at g
    | set _ => simp [T.shp] at g
    | _ => rfl
  | 0, m, .tup a, u, h, g => by simp [T.shp] at h
  | n + 1, m, .tup a, u, h, g => by
    cases u with
    | tup b =>
      cases m with
      | zero => simp [T.shp] at g
      | succ m => exact eqvs_data n m a b (by simpa [T.shp] using h) (by simpa [T.shp] using g)
    | dct _ _ _ => simp [T.shp] at g
    | set _ => simp [T.shp] at g
    | _ => rfl
  | 0, m, .lst a, u, h, g => by simp [T.shp] at h
  | n + 1, m, .lst a, u, h, g => by
    cases u with
    | lst b =>
      cases m with
      | zero => simp [T.shp] at g
      | succ m => exact eqvs_data n m a b (by simpa [T.shp] using h) (by simpa [T.shp] using g)
    | dct _ _ _ => simp [T.shp] at g
    | set _ => simp [T.shp] at g
    | _ => rfl
  | n, m, .dct _ _ _, u, h, g => by simp [T.shp] at h
  | n, m, .set _, u, h, g => by simp [T.shp] at h
theorem eqvs_data : ∀ (n m : Nat) (t u : List T), shps n t = true → shps m u = true → PyData.eqvAll (data.datas t) (data.datas u) = eqvs t u
  | n, m, [], [], h, g => rfl
  | n, m, [], _ :: _, h, g => rfl
  | n, m, _ :: _, [], h, g => rfl
  | n, m, t :: ts, u :: us, h, g => by
    simp only [shps, Bool.and_eq_true] at h g
    show (PyData.eqv t.data u.data && PyData.eqvAll (data.datas ts) (data.datas us)) = (eqv t u && eqvs ts us)
    rw [eqv_data n m t u h.1 g.1, eqvs_data n m ts us h.2 g.2]
end
theorem any_data {n m : Nat} {x : T} (hx : x.shp n = true) : ∀ {ys : List T}, shps m ys = true → ((data.datas ys).any fun z => PyData.eqv z x.data) = ys.any fun y => eqv y x
  | [], _ => rfl
  | y :: ys, h => by
    simp only [shps, Bool.and_eq_true] at h
    show (_ || _) = (_ || _)
    dsimp only
    rw [eqv_data m n y x h.1 hx, any_data hx h.2]
/-- flat ones -/
theorem PK.flat (h : PK K H Z t v) (f : t.flat = true) : flatV v = true := by
  cases t with
  | non => rw [h.non]; rfl
  | bl b => rw [h.bl]; rfl
  | int i => rw [h.int]; rfl
  | str s => obtain ⟨z, rfl, _⟩ := h.str; rfl
  | _ => cases f
theorem Str.beq {x y : PySem.Str} : (x == y) = (x.cps.toList == y.cps.toList) := by
  rw [Bool.eq_iff_iff]
  cases x with
  | mk x => cases y with
    | mk y => simp
theorem PK.eqV {t u : T} {x y : V} (h : PK K H Z t x) (g : PK K H Z u y) (f : t.flat = true) (k : u.flat = true) : eqV x y = eqv t u := by
  cases t with
  | non => rw [h.non]; cases u with
    | non => rw [g.non]; rfl
    | bl b => rw [g.bl]; rfl
    | int i => rw [g.int]; rfl
    | str s => obtain ⟨z, rfl, _⟩ := g.str; rfl
    | _ => cases k
  | bl b => rw [h.bl]; cases u with
    | non => rw [g.non]; rfl
    | bl b => rw [g.bl]; rfl
    | int i => rw [g.int]; rfl
    | str s => obtain ⟨z, rfl, _⟩ := g.str; rfl
    | _ => cases k
  | int i => rw [h.int]; cases u with
    | non => rw [g.non]; rfl
    | bl b => rw [g.bl]; rfl
    | int i => rw [g.int]; rfl
    | str s => obtain ⟨z, rfl, _⟩ := g.str; rfl
    | _ => cases k
  | str s => obtain ⟨w, rfl, e⟩ := h.str; cases u with
    | non => rw [g.non]; rfl
    | bl b => rw [g.bl]; rfl
    | int i => rw [g.int]; rfl
    | str s => obtain ⟨z, rfl, e2⟩ := g.str; subst e e2; exact Str.beq
    | _ => cases k
  | _ => cases f
theorem RFs.flats (h : RFs K H Z ts vs) (f : ts.all T.flat = true) : vs.all flatV = true := by
  induction ts generalizing vs with
  | nil => cases h; rfl
  | cons t ts ih =>
    cases h with
    | cons r rs =>
      rw [List.all_cons, Bool.and_eq_true] at f ⊢
      exact ⟨PK.flat (.inl r) f.1, ih rs f.2⟩
theorem RFs.inV {u : T} {x : V} (h : RFs K H Z ts vs) (g : PK K H Z u x) (f : ts.all T.flat = true) (k : u.flat = true) : inV x vs = ts.any fun y => eqv y u := by
  induction ts generalizing vs with
  | nil => cases h; rfl
  | cons t ts ih =>
    cases h with
    | cons r rs =>
      rw [List.all_cons, Bool.and_eq_true] at f
      show (_ || _) = (_ || _)
      dsimp only
      rw [PK.eqV (.inl r) g f.1 k]
      congr 1
      exact ih rs f.2
end
end Ir

set_option Elab.async false
set_option linter.all false
set_option maxRecDepth 20000
namespace Ir
open PySem L2

section
variable {X : L2.Cx} {K : PySem.W.Frag} {H H0 H' H1 H2 : Hp} {Z Z0 Z' Z1 Z2 : Addr → Prop} {t : T} {ts xs fin : List T} {v x y : V} {vs : List V} {a b : Addr} {Q : VK} {p : Pr} {res : Vl}

/-! ### ==, != -/
theorem scal_eqV {x y : V} (h : scal x y = true) (f : flatV x = true) : decide (x = y) = eqV x y := by
  cases x <;> cases y <;> first | (cases h; done) | (cases f; done) | rfl | skip
  · rename_i a b
    show decide (V.bl a = V.bl b) = (a == b)
    rw [dec_bl]
  · rename_i a b
    show decide (V.int a = V.int b) = (a == b)
    rw [dec_int]
  · rename_i a b
    show decide (V.str a = V.str b) = (a == b)
    rw [dec_str]
/-- two flat ones that are an int and a bool are data, too -/
theorem flat_scal {t u : T} {x y : V} (h : PK K H Z t x) (g : PK K H Z u y) (f : t.flat = true) (k : u.flat = true) : scal x y = true ∨ (t.shp deep = true ∧ u.shp deep = true) := by
  cases t with
  | non => rw [h.non]; cases u with
    | non => rw [g.non]; exact .inl rfl
    | bl b => rw [g.bl]; exact .inl rfl
    | int i => rw [g.int]; exact .inl rfl
    | str s => obtain ⟨z, rfl, _⟩ := g.str; exact .inl rfl
    | _ => cases k
  | bl b => rw [h.bl]; cases u with
    | non => rw [g.non]; exact .inl rfl
    | bl b => rw [g.bl]; exact .inl rfl
    | int i => exact .inr ⟨rfl, rfl⟩
    | str s => obtain ⟨z, rfl, _⟩ := g.str; exact .inl rfl
    | _ => cases k
  | int i => rw [h.int]; cases u with
    | non => rw [g.non]; exact .inl rfl
    | bl b => exact .inr ⟨rfl, rfl⟩
    | int i => rw [g.int]; exact .inl rfl
    | str s => obtain ⟨z, rfl, _⟩ := g.str; exact .inl rfl
    | _ => cases k
  | str s => obtain ⟨w, rfl, e⟩ := h.str; cases u with
    | non => rw [g.non]; exact .inl rfl
    | bl b => rw [g.bl]; exact .inl rfl
    | int i => rw [g.int]; exact .inl rfl
    | str s => obtain ⟨z, rfl, e2⟩ := g.str; exact .inl rfl
    | _ => cases k
  | _ => cases f
theorem eq_road {t u : T} {x y : V} (h : PK K H Z t x) (g : PK K H Z u y) (c : eqOk t u = true) :
    (scal x y = true ∧ decide (x = y) = eqv t u) ∨ ∃ d e, Dp K H x d ∧ Dp K H y e ∧ SeqAt.shaped d = true ∧ SeqAt.shaped e = true ∧ PyData.eqv d e = eqv t u := by
  have big : t.shp deep = true ∧ u.shp deep = true → ∃ d e, Dp K H x d ∧ Dp K H y e ∧ SeqAt.shaped d = true ∧ SeqAt.shaped e = true ∧ PyData.eqv d e = eqv t u := fun ⟨h1, h2⟩ =>
    ⟨_, _, h.dp h1, g.dp h2, shaped_of h1, shaped_of h2, eqv_data _ _ _ _ h1 h2⟩
  unfold eqOk at c
  rcases (Bool.or_eq_true _ _).mp c with c | c
  · exact .inr (big ((Bool.and_eq_true _ _).mp c))
  · obtain ⟨f, k⟩ := (Bool.and_eq_true _ _).mp c
    rcases flat_scal h g f k with q | q
    · exact .inl ⟨q, (scal_eqV q (h.flat f)).trans (h.eqV g f k)⟩
    · exact .inr (big q)
theorem prEq_inv {n : Bool} (e : prEq n ts = some res) : ∃ a b, ts = [a, b] ∧ eqOk a b = true ∧ bool (n != eqv a b) = some res := by
  unfold prEq at e
  split at e
  · split at e
    · exact ⟨_, _, rfl, by assumption, e⟩
    · cases e
  · cases e
theorem o_eq (hu : X.A.units + 65 < cLine) : OpR X (compareOp .Eq) (rP2 X.K .eq) := by
  intro pins s σ H x y v u Q I rx ry ⟨Z, ts, res, zd, pk, e, q⟩
  obtain ⟨a, b, rfl, c, r⟩ := prEq_inv (show prEq false ts = some res from e)
  obtain ⟨t, w, e1, h1, h2⟩ := pk.two
  cases e1
  have fn := fin_bool zd r q
  rcases eq_road h1 h2 c with ⟨k1, k2⟩ | ⟨d, e, k1, k2, k3, k4, k5⟩
  · exact op_eq pins s σ H _ _ v u Q I rx ry ⟨k1, by rw [k2]; simpa using fn⟩
  · exact op_eqD (by omega) pins s σ H _ _ v u Q I rx ry ⟨d, e, k1, k2, k3, k4, by rw [k5]; simpa using fn⟩
theorem o_ne (hu : X.A.units + 65 < cLine) : OpR X (compareOp .NotEq) (rP2 X.K .ne) := by
  intro pins s σ H x y v u Q I rx ry ⟨Z, ts, res, zd, pk, e, q⟩
  obtain ⟨a, b, rfl, c, r⟩ := prEq_inv (show prEq true ts = some res from e)
  obtain ⟨t, w, e1, h1, h2⟩ := pk.two
  cases e1
  have fn := fin_bool zd r q
  rcases eq_road h1 h2 c with ⟨k1, k2⟩ | ⟨d, e, k1, k2, k3, k4, k5⟩
  · exact op_ne pins s σ H _ _ v u Q I rx ry ⟨k1, by rw [k2]; simpa using fn⟩
  · exact op_neD (by omega) pins s σ H _ _ v u Q I rx ry ⟨d, e, k1, k2, k3, k4, by rw [k5]; simpa using fn⟩

/-! ### <, <=, >, >= -/
theorem prCmp_inv {f : Int → Int → Bool} {g : List Nat → List Nat → Bool} (e : prCmp f g ts = some res) :
    (∃ i j, ts = [.int i, .int j] ∧ bool (f i j) = some res) ∨ ∃ i j, ts = [.str i, .str j] ∧ bool (g i j) = some res := by
  unfold prCmp at e
  split at e
  · exact .inl ⟨_, _, rfl, e⟩
  · exact .inr ⟨_, _, rfl, e⟩
  · cases e
theorem rP2_str {i j : List Nat} (h : PKs K H Z [.str i, .str j] [x, y]) : ∃ a b : PySem.Str, x = .str a ∧ y = .str b ∧ a.cps.toList = i ∧ b.cps.toList = j := by
  obtain ⟨t, u, e, h1, h2⟩ := h.two
  cases e
  obtain ⟨a, rfl, e1⟩ := h1.str
  obtain ⟨b, rfl, e2⟩ := h2.str
  exact ⟨a, b, rfl, rfl, e1, e2⟩
theorem o_lt : OpR X (compareOp .Lt) (rP2 X.K .lt) := by
  intro pins s σ H x y v u Q I rx ry ⟨Z, ts, res, zd, pk, e, q⟩
  rcases prCmp_inv (show prCmp _ _ ts = some res from e) with ⟨i, j, rfl, r⟩ | ⟨i, j, rfl, r⟩
  · obtain ⟨rfl, rfl⟩ := rP2_int pk
    exact op_lt pins s σ H _ _ v u Q I rx ry ⟨_, _, rfl, rfl, fin_bool zd r q⟩
  · obtain ⟨a, b, rfl, rfl, rfl, rfl⟩ := rP2_str pk
    exact op_lt_str pins s σ H _ _ v u Q I rx ry ⟨_, _, rfl, rfl, fin_bool zd r q⟩
theorem o_le : OpR X (compareOp .LtE) (rP2 X.K .le) := by
  intro pins s σ H x y v u Q I rx ry ⟨Z, ts, res, zd, pk, e, q⟩
  rcases prCmp_inv (show prCmp _ _ ts = some res from e) with ⟨i, j, rfl, r⟩ | ⟨i, j, rfl, r⟩
  · obtain ⟨rfl, rfl⟩ := rP2_int pk
    exact op_le pins s σ H _ _ v u Q I rx ry ⟨_, _, rfl, rfl, fin_bool zd r q⟩
  · obtain ⟨a, b, rfl, rfl, rfl, rfl⟩ := rP2_str pk
    exact op_le_str pins s σ H _ _ v u Q I rx ry ⟨_, _, rfl, rfl, fin_bool zd r q⟩
theorem o_gt : OpR X (compareOp .Gt) (rP2 X.K .gt) := by
  intro pins s σ H x y v u Q I rx ry ⟨Z, ts, res, zd, pk, e, q⟩
  rcases prCmp_inv (show prCmp _ _ ts = some res from e) with ⟨i, j, rfl, r⟩ | ⟨i, j, rfl, r⟩
  · obtain ⟨rfl, rfl⟩ := rP2_int pk
    exact op_gt pins s σ H _ _ v u Q I rx ry ⟨_, _, rfl, rfl, fin_bool zd r q⟩
  · obtain ⟨a, b, rfl, rfl, rfl, rfl⟩ := rP2_str pk
    exact op_gt_str pins s σ H _ _ v u Q I rx ry ⟨_, _, rfl, rfl, fin_bool zd r q⟩
theorem o_ge : OpR X (compareOp .GtE) (rP2 X.K .ge) := by
  intro pins s σ H x y v u Q I rx ry ⟨Z, ts, res, zd, pk, e, q⟩
  rcases prCmp_inv (show prCmp _ _ ts = some res from e) with ⟨i, j, rfl, r⟩ | ⟨i, j, rfl, r⟩
  · obtain ⟨rfl, rfl⟩ := rP2_int pk
    exact op_ge pins s σ H _ _ v u Q I rx ry ⟨_, _, rfl, rfl, fin_bool zd r q⟩
  · obtain ⟨a, b, rfl, rfl, rfl, rfl⟩ := rP2_str pk
    exact op_ge_str pins s σ H _ _ v u Q I rx ry ⟨_, _, rfl, rfl, fin_bool zd r q⟩

/-! ### is None -/
theorem PK.isN (h : PK K H Z t v) : decide (v = .non) = isNon t := by
  cases t with
  | non => rw [h.non]; rfl
  | bl b => rw [h.bl]; rfl
  | int i => rw [h.int]; rfl
  | str s => obtain ⟨z, rfl, _⟩ := h.str; rfl
  | tup xs => obtain ⟨a, vs, rfl, _⟩ := h.tup; rfl
  | lst xs => obtain ⟨a, vs, rfl, _⟩ := h.lst; rfl
  | dct tk ks vs =>
    rcases h with h | ⟨a, rfl, h⟩
    · cases h <;> rfl
    · cases h <;> rfl
  | set ks => rcases h with h | ⟨a, rfl, h⟩ <;> cases h
theorem pr1_inv {f : T → Option Vl} (e : pr1 f ts = some res) : ∃ a, ts = [a] ∧ f a = some res := by
  unfold pr1 at e
  split at e
  · exact ⟨_, rfl, e⟩
  · cases e
/-! ### in -/
theorem prIn_inv {n : Bool} (e : prIn n ts = some res) : (∃ x ys, (ts = [x, .lst ys] ∨ ts = [x, .tup ys]) ∧ inOk x ys = true ∧ bool (n != ys.any fun y => eqv y x) = some res) ∨
    (∃ c ys, ts = [.str [c], .str ys] ∧ bool (n != decide (c ∈ ys)) = some res) ∨ (∃ x ks, ts = [x, .set ks]) := by
  unfold prIn at e
  split at e
  · split at e
    · exact .inl ⟨_, _, .inl rfl, by assumption, e⟩
    · cases e
  · split at e
    · exact .inl ⟨_, _, .inr rfl, by assumption, e⟩
    · cases e
  · exact .inr (.inl ⟨_, _, rfl, e⟩)
  · exact .inr (.inr ⟨_, _, rfl⟩)
  · cases e
/-- what the operation in asks of its right side -/
theorem op_inT (hu : X.A.units + 65 < cLine) (n : Bool) {pins : List (Addr × Obj)} {s : Shared} {σ : St} {x : V} {a : Addr} {v : Value} {d : PyData} {ds : List PyData} (I : L2.Inv X pins σ H s) (rx : RelV x v)
    (hd : Dp X.K H x d) (he : Dp X.K H (.ref a) (.tuple ds)) (sd : SeqAt.shaped d = true) (se : SeqAt.shaped (.list ds) = true) (q : Q (.bl (n != ds.any fun z => PyData.eqv z d)) H) :
    PySem.wpAny (PySem.model X.prog X.w) X.A (compareOp (if n then .NotIn else .In) v (.ref a)) (EP X pins σ Q) X.xe s := by
  obtain ⟨as, r1⟩ := Dp.reads I d x v hd rx
  obtain ⟨bs, r2⟩ := Dp.reads I (.tuple ds) (.ref a) (.ref a) he rfl
  cases n with
  | false => exact SeqAt.in_tuple_reads r2 r1 (SeqAt.canLay_of_shaped se) (SeqAt.canLay_of_shaped sd) (PyProof.Rows.room_in_shaped sd hu) ⟨.bl _, H, I, rfl, by simpa using q⟩
  | true => exact SeqAt.notIn_tuple_reads r2 r1 (SeqAt.canLay_of_shaped se) (SeqAt.canLay_of_shaped sd) (PyProof.Rows.room_in_shaped sd hu) ⟨.bl _, H, I, rfl, by simpa using q⟩
theorem in_road (hu : X.A.units + 65 < cLine) {n : Bool} {pins : List (Addr × Obj)} {s : Shared} {σ : St} {x y : V} {v u : Value} (I : L2.Inv X pins σ H s) (rx : RelV x v) (ry : RelV y u) (zd : ∀ b, Z b → H b ≠ none) (pk : PKs X.K H Z ts [x, y]) (e : prIn n ts = some res) (q : Fin X.K H Z res Q) :
    PySem.wpAny (PySem.model X.prog X.w) X.A (compareOp (if n then .NotIn else .In) v u) (EP X pins σ Q) X.xe s := by
  rcases prIn_inv e with ⟨t, ys, e1, c, r⟩ | ⟨c, ys, rfl, r⟩ | ⟨_, _, rfl⟩
  · have fn := fin_bool zd r q
    obtain ⟨t', w, e2, h1, h2⟩ := pk.two
    have et : t' = t := by rcases e1 with e1 | e1 <;> (rw [e1] at e2; cases e2; rfl)
    subst et
    unfold inOk at c
    rcases (Bool.or_eq_true _ _).mp c with c | c
    · obtain ⟨c1, c2⟩ := (Bool.and_eq_true _ _).mp c
      rw [← any_data c1 c2] at fn
      rcases e1 with e1 | e1
      · rw [e1] at e2
        cases e2
        have d2 : Dp X.K H y (.list (T.data.datas ys)) := h2.dp (n := deep + 1) (by simpa [T.shp] using c2)
        cases n with
        | false => exact op_inD hu pins s σ H _ _ v u Q I rx ry ⟨_, _, (h1.dp c1), d2, shaped_of c1, shaped_lst c2, by simpa using fn⟩
        | true => exact op_notInD hu pins s σ H _ _ v u Q I rx ry ⟨_, _, (h1.dp c1), d2, shaped_of c1, shaped_lst c2, by simpa using fn⟩
      · rw [e1] at e2
        cases e2
        have d2 : Dp X.K H y (.tuple (T.data.datas ys)) := h2.dp (n := deep + 1) (by simpa [T.shp] using c2)
        obtain ⟨a, vs, rfl, _, _⟩ := h2.tup
        cases ry
        exact op_inT hu n I rx (h1.dp c1) d2 (shaped_of c1) (shaped_lst c2) fn
    · obtain ⟨c1, c2⟩ := (Bool.and_eq_true _ _).mp c
      have key : ∃ p vs, y = .ref p ∧ (SqL X.K H p vs ∨ SqT X.K H p vs) ∧ RFs X.K H Z ys vs := by
        rcases e1 with e1 | e1
        · rw [e1] at e2
          cases e2
          obtain ⟨a, vs, rfl, k1, k2⟩ := h2.lst
          exact ⟨a, vs, rfl, .inl k1.sq, k2⟩
        · rw [e1] at e2
          cases e2
          obtain ⟨a, vs, rfl, k1, k2⟩ := h2.tup
          exact ⟨a, vs, rfl, .inr k1, k2⟩
      obtain ⟨p, vs, rfl, k1, k2⟩ := key
      rw [← k2.inV h1 c2 c1] at fn
      cases n with
      | false => exact op_in_seq pins s σ H _ _ v u Q I rx ry ⟨p, vs, rfl, k1, h1.flat c1, k2.flats c2, by simpa using fn⟩
      | true => exact op_notIn_seq pins s σ H _ _ v u Q I rx ry ⟨p, vs, rfl, k1, h1.flat c1, k2.flats c2, by simpa using fn⟩
  · have fn := fin_bool zd r q
    obtain ⟨a, b, rfl, rfl, e1, rfl⟩ := rP2_str pk
    have e3 := Str.of_list e1
    subst e3
    cases n with
    | false => exact op_in_sign pins s σ H _ _ v u Q I rx ry ⟨c, b, rfl, rfl, by simpa using fn⟩
    | true => exact op_notIn_sign pins s σ H _ _ v u Q I rx ry ⟨c, b, rfl, rfl, by simpa using fn⟩
  · obtain ⟨t', w, e2, h1, h2⟩ := pk.two
    cases e2
    rcases h2 with h | ⟨a, rfl, h⟩ <;> cases h
theorem o_inn (hu : X.A.units + 65 < cLine) : OpR X (compareOp .In) (rP2 X.K .inn) := by
  intro pins s σ H x y v u Q I rx ry ⟨Z, ts, res, zd, pk, e, q⟩
  exact in_road (n := false) hu I rx ry zd pk e q
theorem o_nin (hu : X.A.units + 65 < cLine) : OpR X (compareOp .NotIn) (rP2 X.K .nin) := by
  intro pins s σ H x y v u Q I rx ry ⟨Z, ts, res, zd, pk, e, q⟩
  exact in_road (n := true) hu I rx ry zd pk e q
end
end Ir

set_option Elab.async false
set_option linter.all false
set_option maxRecDepth 20000
namespace Ir
open PySem L2

section
variable {X : L2.Cx} {K : PySem.W.Frag} {H H0 H' H1 H2 : Hp} {Z Z0 Z' Z1 Z2 : Addr → Prop} {t : T} {ts xs fin : List T} {v x y : V} {vs : List V} {a b : Addr} {Q : VK} {p : Pr} {res : Vl}

/-- a built-in's reading by values -/
abbrev CR (X : L2.Cx) (f : Value) (p : Pr) : Prop := CallR X f (fun vs H Q => rP X.K p vs H Q)

theorem c_len : CR X (.builtin "len") .len := by
  intro pins s σ H vs us Q I rs ⟨Z, ts, res, zd, pk, e, q⟩
  replace e : prLen ts = some res := e
  unfold prLen at e
  split at e
  · cases some_res e
    cases pk with
    | cons h hh =>
      cases hh
      obtain ⟨a, vs, rfl, h1, h2⟩ := h.lst
      exact call_len_seq pins s σ H _ us Q I rs ⟨a, vs, rfl, .inl h1.sq, by rw [← h2.length]; exact fin_int zd q⟩
  · cases some_res e
    cases pk with
    | cons h hh =>
      cases hh
      obtain ⟨a, vs, rfl, h1, h2⟩ := h.tup
      exact call_len_seq pins s σ H _ us Q I rs ⟨a, vs, rfl, .inr h1, by rw [← h2.length]; exact fin_int zd q⟩
  · obtain ⟨c, rfl⟩ := if_some e
    cases pk with
    | cons h hh =>
      cases hh
      obtain ⟨z, rfl, k⟩ := h.str
      exact call_len_str pins s σ H _ us Q I rs ⟨z, rfl, by rw [Str.len k]; exact c, by rw [Str.len k]; exact fin_int zd q⟩
  · cases pk with
    | cons h hh => rcases h with h | ⟨a, rfl, h⟩ <;> cases h
  · cases e
theorem PKs.int1 {i : Int} (h : PKs K H Z [.int i] vs) : vs = [.int i] := by
  cases h with
  | cons h hh => cases hh; rw [h.int]
theorem PKs.int2 {i j : Int} (h : PKs K H Z [.int i, .int j] vs) : vs = [.int i, .int j] := by
  cases h with
  | cons h hh =>
    cases hh with
    | cons g gg => cases gg; rw [h.int, g.int]
theorem c_abs : CR X (.builtin "abs") .abs := by
  intro pins s σ H vs us Q I rs ⟨Z, ts, res, zd, pk, e, q⟩
  obtain ⟨i, rfl, rfl⟩ := int1_inv (show int1 (fun a => if a < 0 then -a else a) ts = some res from e)
  obtain rfl := pk.int1
  exact call_abs pins s σ H _ us Q I rs ⟨i, rfl, fin_int zd q⟩
theorem c_max2 (hc : X.calm = true) : CR X (.builtin "max") .max2 := by
  intro pins s σ H vs us Q I rs ⟨Z, ts, res, zd, pk, e, q⟩
  obtain ⟨i, j, rfl, rfl⟩ := int2_inv (show int2 (fun a b => if b > a then b else a) ts = some res from e)
  obtain rfl := pk.int2
  exact call_max2 hc pins s σ H _ us Q I rs ⟨i, j, rfl, fin_int zd q⟩
theorem c_min2 (hc : X.calm = true) : CR X (.builtin "min") .min2 := by
  intro pins s σ H vs us Q I rs ⟨Z, ts, res, zd, pk, e, q⟩
  obtain ⟨i, j, rfl, rfl⟩ := int2_inv (show int2 (fun a b => if b < a then b else a) ts = some res from e)
  obtain rfl := pk.int2
  exact call_min2 hc pins s σ H _ us Q I rs ⟨i, j, rfl, fin_int zd q⟩
theorem c_int : CR X (.type "int") .int := by
  intro pins s σ H vs us Q I rs ⟨Z, ts, res, zd, pk, e, q⟩
  replace e : prInt ts = some res := e
  unfold prInt at e
  split at e
  · cases some_res e
    obtain rfl := pk.int1
    exact call_int1 pins s σ H _ us Q I rs (.inl ⟨_, rfl, fin_int zd q⟩)
  · cases some_res e
    cases pk with
    | cons h hh =>
      cases hh
      obtain rfl := h.bl
      exact call_int1 pins s σ H _ us Q I rs (.inr ⟨_, rfl, fin_int zd q⟩)
  · cases e
theorem c_tuple : CR X (.type "tuple") .tuple := by
  intro pins s σ H vs us Q I rs ⟨Z, ts, res, zd, pk, e, q⟩
  replace e : prTuple ts = some res := e
  unfold prTuple at e
  split at e
  · cases some_res e
    cases pk with
    | cons h hh =>
      cases hh
      obtain ⟨a, vs, rfl, h1, h2⟩ := h.lst
      exact call_tuple_of pins s σ H _ us Q I rs ⟨a, vs, rfl, .inl ⟨h1.sq, fin_tup zd q h2⟩⟩
  · cases some_res e
    cases pk with
    | cons h hh =>
      cases hh
      have k := h.self
      obtain ⟨a, vs, rfl, h1, h2⟩ := h.tup
      exact call_tuple_of pins s σ H _ us Q I rs ⟨a, vs, rfl, .inr ⟨h1, fin_fr zd q k⟩⟩
  · cases e
theorem c_list : CR X (.type "list") .list := by
  intro pins s σ H vs us Q I rs ⟨Z, ts, res, zd, pk, e, q⟩
  replace e : prList ts = some res := e
  unfold prList at e
  split at e
  · cases some_res e
    cases pk with
    | cons h hh =>
      cases hh
      obtain ⟨a, vs, rfl, h1, h2⟩ := h.lst
      exact call_list_of pins s σ H _ us Q I rs ⟨a, vs, rfl, .inl h1.sq, fin_lst zd q h2⟩
  · cases some_res e
    cases pk with
    | cons h hh =>
      cases hh
      obtain ⟨a, vs, rfl, h1, h2⟩ := h.tup
      exact call_list_of pins s σ H _ us Q I rs ⟨a, vs, rfl, .inr h1, fin_lst zd q h2⟩
  · cases e

/-! ### of ints, of bools -/
theorem ints_of : ∀ {ts : List T} {is : List Int}, T.ints ts = some is → ts = is.map T.int
  | [], is, e => by cases e; rfl
  | .int i :: r, is, e => by
    unfold T.ints at e
    split at e
    · rename_i js h
      cases e
      rw [ints_of h]
      rfl
    · cases e
  | .non :: _, _, e => by simp [T.ints] at e
  | .bl _ :: _, _, e => by simp [T.ints] at e
  | .str _ :: _, _, e => by simp [T.ints] at e
  | .tup _ :: _, _, e => by simp [T.ints] at e
  | .lst _ :: _, _, e => by simp [T.ints] at e
  | .dct _ _ _ :: _, _, e => by simp [T.ints] at e
  | .set _ :: _, _, e => by simp [T.ints] at e
theorem bls_of : ∀ {ts : List T} {is : List Bool}, T.bls ts = some is → ts = is.map T.bl
  | [], is, e => by cases e; rfl
  | .bl i :: r, is, e => by
    unfold T.bls at e
    split at e
    · rename_i js h
      cases e
      rw [bls_of h]
      rfl
    · cases e
  | .non :: _, _, e => by simp [T.bls] at e
  | .int _ :: _, _, e => by simp [T.bls] at e
  | .str _ :: _, _, e => by simp [T.bls] at e
  | .tup _ :: _, _, e => by simp [T.bls] at e
  | .lst _ :: _, _, e => by simp [T.bls] at e
  | .dct _ _ _ :: _, _, e => by simp [T.bls] at e
  | .set _ :: _, _, e => by simp [T.bls] at e
theorem RFs.ints {is : List Int} (h : RFs K H Z (is.map T.int) vs) : vs = is.map V.int := by
  induction is generalizing vs with
  | nil => cases h; rfl
  | cons i is ih =>
    cases h with
    | cons r rs => cases r; rw [ih rs]; rfl
theorem RFs.bls {is : List Bool} (h : RFs K H Z (is.map T.bl) vs) : vs = is.map V.bl := by
  induction is generalizing vs with
  | nil => cases h; rfl
  | cons i is ih =>
    cases h with
    | cons r rs => cases r; rw [ih rs]; rfl
theorem RFs.ofInts : ∀ (is : List Int), RFs K H Z (is.map T.int) (is.map V.int)
  | [] => .nil
  | i :: is => .cons (.int i) (RFs.ofInts is)
theorem onInts_inv {tup : Bool} {f : List Int → Option Vl} (e : onInts tup f ts = some res) : ∃ is, (ts = [.lst (is.map .int)] ∨ (tup = true ∧ ts = [.tup (is.map .int)])) ∧ f is = some res := by
  unfold onInts at e
  split at e
  · rename_i x
    split at e
    · rename_i xs hx
      split at e
      · rename_i is hi
        refine ⟨is, ?_, e⟩
        have h := ints_of hi
        subst h
        cases x with
        | lst ys =>
          rw [if_pos (by simp [isLst])] at hx
          cases hx
          exact .inl rfl
        | tup ys =>
          cases tup with
          | false => cases hx
          | true => cases hx; exact .inr ⟨rfl, rfl⟩
        | _ => cases tup <;> cases hx
      · cases e
    · cases e
  · cases e
theorem pk_ints {tup : Bool} {is : List Int} (h : ts = [.lst (is.map .int)] ∨ (tup = true ∧ ts = [.tup (is.map .int)])) (pk : PKs K H Z ts vs) : ∃ a, vs = [.ref a] ∧ (SqL K H a (is.map V.int) ∨ (tup = true ∧ SqT K H a (is.map V.int))) := by
  rcases h with rfl | ⟨rfl, rfl⟩
  · cases pk with
    | cons h hh =>
      cases hh
      obtain ⟨a, ws, rfl, h1, h2⟩ := h.lst
      rw [h2.ints] at h1
      exact ⟨a, rfl, .inl h1.sq⟩
  · cases pk with
    | cons h hh =>
      cases hh
      obtain ⟨a, ws, rfl, h1, h2⟩ := h.tup
      rw [h2.ints] at h1
      exact ⟨a, rfl, .inr ⟨rfl, h1⟩⟩
theorem c_sum (hc : X.calm = true) : CR X (.builtin "sum") .sum := by
  intro pins s σ H vs us Q I rs ⟨Z, ts, res, zd, pk, e, q⟩
  obtain ⟨is, e1, e2⟩ := onInts_inv (show onInts true (fun is => some (.fr (.int is.sum))) ts = some res from e)
  cases some_res e2
  obtain ⟨a, rfl, h | ⟨_, h⟩⟩ := pk_ints e1 pk
  · exact cr_sum hc pins s σ H _ us Q I rs ⟨a, is, rfl, h, fin_int zd q⟩
  · obtain ⟨its, rv, ht, _⟩ := I.tuple h
    rw [Vals.ref1 rs]
    obtain ⟨ys, e3⟩ := rv.ints.allInts.items
    have hn : numsOf (intItems ys).toList = is := by rw [← e3]; exact rv.ints.numsOf
    rw [nums_intItems] at hn
    rw [e3] at ht
    refine PySem.W.ktm_sumG (I.ok.hd hc) ht fun h' tk t' hk => ?_
    rw [preSum_eq, List.take_of_length_le (by simp), hn]
    exact ⟨.int _, H, I.kept hk, ⟨_, rfl⟩, fin_int zd q⟩
theorem onBls_inv {f : List Bool → Bool} (e : onBls f ts = some res) : ∃ bs, ts = [.lst (bs.map .bl)] ∧ bool (f bs) = some res := by
  unfold onBls at e
  split at e
  · split at e
    · rename_i h
      rw [bls_of h]
      exact ⟨_, rfl, e⟩
    · cases e
  · cases e
theorem c_all (hc : X.calm = true) : CR X (.builtin "all") .all := by
  intro pins s σ H vs us Q I rs ⟨Z, ts, res, zd, pk, e, q⟩
  obtain ⟨bs, rfl, r⟩ := onBls_inv (show onBls (fun bs => bs.all id) ts = some res from e)
  cases pk with
  | cons h hh =>
    cases hh
    obtain ⟨a, ws, rfl, h1, h2⟩ := h.lst
    rw [h2.bls] at h1
    exact cr_all hc pins s σ H _ us Q I rs ⟨a, bs, rfl, h1.sq, fin_bool zd r q⟩
theorem c_any (hc : X.calm = true) : CR X (.builtin "any") .any := by
  intro pins s σ H vs us Q I rs ⟨Z, ts, res, zd, pk, e, q⟩
  obtain ⟨bs, rfl, r⟩ := onBls_inv (show onBls (fun bs => bs.any id) ts = some res from e)
  cases pk with
  | cons h hh =>
    cases hh
    obtain ⟨a, ws, rfl, h1, h2⟩ := h.lst
    rw [h2.bls] at h1
    exact cr_any hc pins s σ H _ us Q I rs ⟨a, bs, rfl, h1.sq, fin_bool zd r q⟩
theorem leI_sorted (is : List Int) : (is.mergeSort leI).Pairwise (· ≤ ·) := by
  refine (List.pairwise_mergeSort (le := leI) (fun a b c h1 h2 => ?_) (fun a b => ?_) is).imp fun h => of_decide_eq_true h
  · have h1 := of_decide_eq_true h1
    have h2 := of_decide_eq_true h2
    exact decide_eq_true (Int.le_trans h1 h2)
  · by_cases h : a ≤ b
    · exact (Bool.or_eq_true _ _).mpr (.inl (decide_eq_true h))
    · exact (Bool.or_eq_true _ _).mpr (.inr (decide_eq_true (by omega)))
theorem strs_of : ∀ {ts : List T} {is : List (List Nat)}, T.strs ts = some is → ts = is.map T.str
  | [], is, e => by cases e; rfl
  | .str i :: r, is, e => by
    unfold T.strs at e
    split at e
    · rename_i js h
      cases e
      rw [strs_of h]
      rfl
    · cases e
  | .non :: _, _, e => by simp [T.strs] at e
  | .bl _ :: _, _, e => by simp [T.strs] at e
  | .int _ :: _, _, e => by simp [T.strs] at e
  | .tup _ :: _, _, e => by simp [T.strs] at e
  | .lst _ :: _, _, e => by simp [T.strs] at e
  | .dct _ _ _ :: _, _, e => by simp [T.strs] at e
  | .set _ :: _, _, e => by simp [T.strs] at e
theorem RFs.strs {is : List (List Nat)} (h : RFs K H Z (is.map T.str) vs) : ∃ zs : List PySem.Str, vs = zs.map V.str ∧ zs.map (fun z => z.cps.toList) = is := by
  induction is generalizing vs with
  | nil => cases h; exact ⟨[], rfl, rfl⟩
  | cons i is ih =>
    cases h with
    | cons r rs =>
      obtain ⟨z, rfl, e⟩ := PK.str (.inl r)
      obtain ⟨zs, rfl, e2⟩ := ih rs
      exact ⟨z :: zs, rfl, by rw [List.map_cons, e, e2]⟩

theorem leS_not : ∀ a b : List Nat, leS a b = !PySem.Spec.ltCps b a
  | [], [] => rfl
  | [], _ :: _ => rfl
  | _ :: _, [] => rfl
  | a :: r, b :: t => by
    unfold leS PySem.Spec.ltCps
    rw [leS_not r t]
    by_cases h1 : a < b
    · have h2 : ¬ b < a := by omega
      have h3 : (b == a) = false := by simp; omega
      simp [h1, h2, h3]
    · by_cases h2 : b < a
      · have h3 : (a == b) = false := by simp; omega
        simp [h1, h2, h3]
      · obtain rfl : a = b := by omega
        simp
theorem leS_total : ∀ a b : List Nat, (leS a b || leS b a) = true
  | [], _ => rfl
  | _ :: _, [] => rfl
  | a :: r, b :: t => by
    unfold leS
    have := leS_total r t
    by_cases h1 : a < b
    · simp [h1]
    · by_cases h2 : b < a
      · simp [h2]
      · obtain rfl : a = b := by omega
        simpa using this
theorem leS_trans : ∀ a b c : List Nat, leS a b = true → leS b c = true → leS a c = true
  | [], _, _, _, _ => rfl
  | _ :: _, [], _, h, _ => by cases h
  | _ :: _, _ :: _, [], _, h => by cases h
  | a :: r, b :: t, c :: u, h1, h2 => by
    unfold leS at h1 h2 ⊢
    simp only [Bool.or_eq_true, Bool.and_eq_true, decide_eq_true_eq, beq_iff_eq] at h1 h2 ⊢
    rcases h1 with h1 | ⟨h1, g1⟩
    · rcases h2 with h2 | ⟨h2, g2⟩
      · exact .inl (by omega)
      · exact .inl (by omega)
    · rcases h2 with h2 | ⟨h2, g2⟩
      · exact .inl (by omega)
      · exact .inr ⟨by omega, leS_trans r t u g1 g2⟩
theorem leS_anti : ∀ a b : List Nat, leS a b = true → leS b a = true → a = b
  | [], [], _, _ => rfl
  | [], _ :: _, _, h => by cases h
  | _ :: _, [], h, _ => by cases h
  | a :: r, b :: t, h1, h2 => by
    unfold leS at h1 h2
    simp only [Bool.or_eq_true, Bool.and_eq_true, decide_eq_true_eq, beq_iff_eq] at h1 h2
    rcases h1 with h1 | ⟨h1, g1⟩
    · rcases h2 with h2 | ⟨h2, g2⟩
      · omega
      · omega
    · rcases h2 with h2 | ⟨h2, g2⟩
      · omega
      · rw [h1, leS_anti r t g1 g2]
theorem leS_sorted (is : List (List Nat)) : (is.mergeSort leS).Pairwise (fun a b => leS a b = true) :=
  List.pairwise_mergeSort leS_trans leS_total is
theorem risingS_le : ∀ (ss : List PySem.Str) (p : PySem.Str), PyProof.Rows.risingS p ss = true → (p :: ss).Pairwise (fun a b => leS a.cps.toList b.cps.toList = true)
  | [], _, _ => List.pairwise_singleton _ _
  | x :: r, p, h => by
    have h' : (!PySem.Spec.ltCps x.cps.toList p.cps.toList && PyProof.Rows.risingS x r) = true := h
    rw [Bool.and_eq_true] at h'
    have h1 : leS p.cps.toList x.cps.toList = true := by rw [leS_not]; exact h'.1
    have ih := risingS_le r x h'.2
    refine List.pairwise_cons.mpr ⟨fun y hy => ?_, ih⟩
    rcases List.mem_cons.mp hy with rfl | hy
    · exact h1
    · exact leS_trans _ _ _ h1 ((List.pairwise_cons.mp ih).1 y hy)
theorem sortedS_le : ∀ (ss : List PySem.Str), PyProof.Rows.sortedS ss = true → ss.Pairwise (fun a b => leS a.cps.toList b.cps.toList = true)
  | [], _ => List.Pairwise.nil
  | x :: r, h => risingS_le r x h
theorem RFs.ofStrs : ∀ (zs : List PySem.Str), RFs K H Z ((zs.map fun z : PySem.Str => z.cps.toList).map T.str) (zs.map V.str)
  | [] => .nil
  | i :: is => .cons (.str i) (RFs.ofStrs is)
/-- sorted(xs), strs, any number of them -/
def rSortedSA (K : PySem.W.Frag) : List V → Hp → VK → Prop := fun vs H Q => ∃ (a : Addr) (xs : List PySem.Str), vs = [V.ref a] ∧ SqL K H a (xs.map V.str) ∧
  ∀ (ys : List PySem.Str) (p : Addr), ys.Perm xs → PyProof.Rows.sortedS ys = true → H p = none → Q (.ref p) (upd H p (.lst (ys.map V.str)))
theorem cr_sortedSA : L2.CallR X (.builtin "sorted") (rSortedSA X.K) := by
  intro pins s σ H vs us Q I r h
  obtain ⟨a, xs, rfl, hs, q⟩ := h
  obtain ⟨its, rv, hl, hz⟩ := I.list hs
  rw [Vals.ref1 r]
  have hlen0 := rv.length
  rw [List.length_map] at hlen0
  refine PyProof.Rows.sorted_strsAny hl.isList rv.strs (by rw [← hlen0]; rw [List.length_map] at hz; exact hz) fun out ys h1 h2 h3 => ?_
  obtain ⟨ep, he'⟩ := PyProof.Rows.sortedAll_at s.heap its out
  have hlen : (ys.map V.str).length ≤ sizeLine := by rw [List.length_map, h2.length_eq]; rw [List.length_map] at hz; exact hz
  exact ⟨.ref _, upd H (s.heap.objs.size + 1) (.lst (ys.map V.str)), I.laid (t' := s.toks) (fun _ _ => PyProof.Rows.sortedAll_old) (Nat.le_succ _) ⟨hlen, out.toList, ep, vals_of_strs h1, he'⟩, rfl, q ys _ h2 h3 (I.hok.fresh (Nat.le_succ _))⟩
theorem maxL_spec : ∀ {is : List Int} {m : Int}, maxL is = some m → ∀ M, M ∈ is → (∀ y, y ∈ is → y ≤ M) → M = m
  | [], _, e => by cases e
  | [x], m, e => fun M h1 _ => by
    cases e
    simpa using h1
  | x :: y :: r, m, e => fun M h1 h2 => by
    unfold maxL at e
    split at e
    · rename_i m' hm
      cases e
      have key : ∀ (l : List Int) (m : Int), maxL l = some m → m ∈ l ∧ ∀ y ∈ l, y ≤ m := by
        intro l
        induction l with
        | nil => intro m e; cases e
        | cons x l ih =>
          intro m e
          cases l with
          | nil => cases e; simp
          | cons y l =>
            unfold maxL at e
            split at e
            · rename_i m' hm
              cases e
              obtain ⟨k1, k2⟩ := ih m' hm
              split
              · exact ⟨List.mem_cons_of_mem _ k1, fun z hz => by
                  rcases List.mem_cons.mp hz with rfl | hz
                  · omega
                  · exact k2 z hz⟩
              · refine ⟨List.mem_cons_self, fun z hz => ?_⟩
                rcases List.mem_cons.mp hz with rfl | hz
                · exact Int.le_refl _
                · have := k2 z hz
                  omega
            · cases e
      obtain ⟨k1, k2⟩ := key _ _ (show maxL (x :: y :: r) = some (if x < m' then m' else x) by unfold maxL; rw [hm])
      have h3 := k2 M h1
      have h4 := h2 _ k1
      omega
    · cases e
theorem minL_spec : ∀ {is : List Int} {m : Int}, minL is = some m → ∀ M, M ∈ is → (∀ y, y ∈ is → M ≤ y) → M = m := by
  have key : ∀ (l : List Int) (m : Int), minL l = some m → m ∈ l ∧ ∀ y ∈ l, m ≤ y := by
    intro l
    induction l with
    | nil => intro m e; cases e
    | cons x l ih =>
      intro m e
      cases l with
      | nil => cases e; simp
      | cons y l =>
        unfold minL at e
        split at e
        · rename_i m' hm
          cases e
          obtain ⟨k1, k2⟩ := ih m' hm
          split
          · exact ⟨List.mem_cons_of_mem _ k1, fun z hz => by
              rcases List.mem_cons.mp hz with rfl | hz
              · omega
              · exact k2 z hz⟩
          · refine ⟨List.mem_cons_self, fun z hz => ?_⟩
            rcases List.mem_cons.mp hz with rfl | hz
            · exact Int.le_refl _
            · have := k2 z hz
              omega
        · cases e
  intro is m e M h1 h2
  obtain ⟨k1, k2⟩ := key _ _ e
  have h3 := k2 M h1
  have h4 := h2 _ k1
  omega
end
end Ir

set_option Elab.async false
set_option linter.all false
namespace Ir
open PySem L2

section
variable {X : L2.Cx} {K : PySem.W.Frag} {H H0 H' H1 H2 H3 : Hp} {Z Z0 Z' Z1 Z2 Z3 Zc F : Addr → Prop} {l l0 l1 l2 l3 l' : Loc} {σ σ0 σ1 σ2 σ' : St} {t x : T} {ts xs fin : List T} {v y : V} {vs : List V} {a b : Addr} {o : Op} {os : List Op} {ks fg : List Nat} {k : Nat} {e e2 e3 : Expr} {es : List Expr} {pos apos cpos : Pos} {st : Stmt} {sts : List Stmt} {m n : M Vl} {mo no : M Op} {D : Ends}

theorem intOf_some {r : Vl} {i : Int} (h : intOf r l = some (i, l')) : r = .fr (.int i) ∧ l = l' := by
  unfold intOf at h
  split at h
  · obtain ⟨rfl, rfl⟩ := ret_some.mp h
    exact ⟨rfl, rfl⟩
  · cases h
/-- k.insert(i, e) -/
theorem pS_ins (h : PE X e (tVar k)) (hi : PE X e3 (rE X.K m)) (he : PE X e2 (rO X.K mo)) (hb : attributeBase e "insert" X.env (eval e X.env) = eval e X.env) (hl : (apos.endLine == cpos.line) = true)
    (hs : starEach [e3, e2] X.env = (false, eval e3 X.env) :: starEach [e2] X.env) (hs2 : starEach [e2] X.env = (false, eval e2 X.env) :: starEach [] X.env) (hf : ((backTo cpos (starEach [e3, e2] X.env)).all (fun x => !x.1) && (backToKw cpos (keywordEach [] X.env)).all (fun x => x.1.isSome)
      && decide ([e3, e2].length + ([] : List Keyword).length + (if ([] : List Keyword).isEmpty then 0 else 1) < 30)) = true) (hp : (backTo cpos (starEach [e2] X.env)).any (·.1) = false) (hsw : swapsWith (.Call (.Attribute e "insert" apos) [e3, e2] [] cpos) none pos.line X.env = pure false) :
    PS X (.Expr (.Call (.Attribute e "insert" apos) [e3, e2] [] cpos) pos) (rS X.K F (insM k m (bind mo fun o => o.give))) :=
  (ps_expr (pe_bm PySem.F.plainAttrs_list PySem.F.slot_list_insert PySem.F.type_list_insert mt_insert h (pa_cons hi (pa_cons he pa_nil hs2) hs) hb hf hl hs hp) hsw).irw fun D σ H ⟨l, Z, f, l', A, f1, f2, e, q⟩ => by
  obtain ⟨t0, l0, e1, e3⟩ := bind_some.mp e
  split at e3
  · rename_i hl0
    cases t0 with
    | lst xs0 =>
      obtain ⟨e0, a, vs0, h1, h2, _⟩ := own_list A e1
      subst e0
      obtain ⟨w, la, g1, e3⟩ := bind_some.mp e3
      obtain ⟨i, lb, g2, e3⟩ := bind_some.mp e3
      obtain ⟨rfl, rfl⟩ := intOf_some g2
      obtain ⟨x, l2, e4, e5⟩ := bind_some.mp e3
      obtain ⟨o, l1, e6, e7⟩ := bind_some.mp e4
      obtain ⟨t, l3, e8, e9⟩ := bind_some.mp e5
      split at e9
      · rename_i xs
        split at e9
        · rename_i hlen
          obtain ⟨_, l4, e10, e11⟩ := bind_some.mp e9
          obtain ⟨rfl, rfl⟩ := ret_some.mp e11
          refine ⟨_, h1, .inl ⟨rfl, vs0, SqL.of h2⟩, l0, Z, _, la, A, g1, fun iv H0 Z0 P0 R0 => ?_⟩
          cases R0
          refine ⟨la, Z0, o, l1, P0.po.al, e6, fun v H1 Z1 P R => ?_⟩
          obtain ⟨Z2, P2, r⟩ := give_post A (P0.trans P) (R.old P0.po.ex) e7
          obtain ⟨e0, a', vs, g1, g2, r2⟩ := own_list P2.po.al e8
          subst e0
          obtain rfl := own_inj h1 g1
          refine ⟨a, vs, i, v, rfl, rfl, g2, by rw [← r2.length]; exact hlen.1, hlen.2.1, by omega, ?_⟩
          have P3 := put_post P2.po.al e10 g1 (((r2.take i.toNat).append (.cons r .nil)).append (r2.drop i.toNat))
          exact q σ _ Z2 (P2.trans P3).po
        · cases e9
      · cases e9
    | _ => cases hl0
  · cases e3
/-- k.reverse() -/
theorem pS_rev (h : PE X e (tVar k)) (hb : attributeBase e "reverse" X.env (eval e X.env) = eval e X.env) (hl : (apos.endLine == cpos.line) = true) (hsw : swapsWith (.Call (.Attribute e "reverse" apos) [] [] cpos) none pos.line X.env = pure false) :
    PS X (.Expr (.Call (.Attribute e "reverse" apos) [] [] cpos) pos) (rS X.K F (revM k)) :=
  (ps_expr (pe_bm0 PySem.F.plainAttrs_list PySem.F.slot_list_reverse PySem.F.type_list_reverse mt_reverse h hb hl) hsw).irw fun D σ H ⟨l, Z, f, l', A, f1, f2, e, q⟩ => by
  obtain ⟨t, l1, e1, e2⟩ := bind_some.mp e
  split at e2
  · rename_i xs
    obtain ⟨_, l2, e3, e4⟩ := bind_some.mp e2
    obtain ⟨rfl, rfl⟩ := ret_some.mp e4
    obtain ⟨e0, a, vs, h1, h2, r2⟩ := own_list A e1
    subst e0
    exact ⟨_, h1, .inl ⟨rfl, vs, SqL.of h2⟩, a, vs, rfl, rfl, h2, q σ _ Z (put_post A e3 h1 r2.reverse).po⟩
  · cases e2
theorem ixN_eq {n : Nat} {i : Int} : Ir.ixN n i = L2.ixN n i := by
  unfold Ir.ixN L2.ixN
  split
  · rfl
  · by_cases h : 0 ≤ i + n
    · rw [if_pos h, if_pos (by omega)]
    · rw [if_neg h, if_neg (by omega)]
theorem atI_eq {α : Type} {xs : List α} {i : Int} : Ir.atI xs i = L2.atI xs i := by
  unfold Ir.atI L2.atI
  rw [ixN_eq]
/-- k[i] = x, behind what is known -/
theorem setAt_post {i x : T} {iv xv : V} (A : AL K H Z l σ) (e : setAt k i x l = some ((), l')) (ri : RF K H Z i iv) (rx : RF K H Z x xv) {Q : Hp → Prop} {a : Addr} (ha : σ[k]? = some (some (.ref a)))
    (q : ∀ ws, PostE K l σ Z H l' Z (upd H a (.lst ws)) → Q (upd H a (.lst ws))) : rSetL (.ref a) iv xv H Q := by
  obtain ⟨t, l1, e1, e2⟩ := bind_some.mp e
  split at e2
  · rename_i xs
    split at e2
    · rename_i i
      split at e2
      · rename_i j hj
        obtain ⟨e0, a', vs, g1, g2, r2⟩ := own_list A e1
        subst e0
        obtain rfl := own_inj ha g1
        cases ri
        refine ⟨a, vs, i, j, rfl, rfl, g2, by rw [← r2.length, ← ixN_eq]; exact hj, q _ (put_post A e2 ha (r2.set rx j))⟩
      · cases e2
    · cases e2
  · cases e2
/-- k[i] = e -/
theorem pS_set (hk : PE X e (tVar k)) (hi : PE X e3 (rO X.K no)) (he : PE X e2 (rO X.K mo)) (ha : ∀ v, assign (.Subscript e e3 apos) X.env v = (do
      let ov ← holding [v] (eval e X.env)
      let iv ← holding [v, ov] (eval e3 X.env)
      standAt apos
      holding [v, ov, iv] (setItem ov iv v)
      release [v, ov, iv] [])) (h1 : swapsWithSole [.Subscript e e3 apos] e2 pos.line X.env = pure false) (h2 : swappedStores [.Subscript e e3 apos] e2 X.env = pure none) (h3 : (assignEach [.Subscript e e3 apos] X.env).map (·.2) = [assign (.Subscript e e3 apos) X.env]) :
    PS X (.Assign [.Subscript e e3 apos] e2 pos) (rS X.K F (setM k (bind mo fun o => o.give) (bind no fun o => o.give))) := (ps_asg he (pg_sub hk hi set_list ha) h1 h2 h3).irw fun D σ H ⟨l, Z, f, l', A, f1, f2, e, q⟩ => by
  obtain ⟨t0, l0, g1, g2⟩ := bind_some.mp e
  obtain ⟨g0, s, g3, g4, g5⟩ := own_get g1
  subst g0
  obtain ⟨a, hka, _⟩ := A.ow k s t0 g3 g4
  obtain ⟨x, l2, e4, e5⟩ := bind_some.mp g2
  obtain ⟨o, l1, e6, e7⟩ := bind_some.mp e4
  obtain ⟨i, l4, e8, e9⟩ := bind_some.mp e5
  obtain ⟨p, l3, e10, e11⟩ := bind_some.mp e8
  obtain ⟨_, l5, e12, e13⟩ := bind_some.mp e9
  obtain ⟨rfl, rfl⟩ := ret_some.mp e13
  refine ⟨_, Z, o, l1, A, e6, fun v H1 Z1 P R => ?_⟩
  obtain ⟨Z2, P2, rx⟩ := give_post A P R e7
  refine ⟨_, hka, l2, Z2, p, l3, P2.po.al, e10, fun iv H2 Z3 P3 R3 => ?_⟩
  obtain ⟨Z4, P4, ri⟩ := give_post P2.po.al P3 R3 e11
  have rx4 : RF X.K H2 Z4 x v := rx.ex P4.po.ex (W_sub P2.po.al)
  exact setAt_post P4.po.al e12 ri rx4 hka fun ws PP => q σ _ Z4 ((P2.trans P4).trans PP).po
end
end Ir

set_option Elab.async false
set_option linter.all false
namespace Ir
open PySem L2

section
variable {X : L2.Cx} {K : PySem.W.Frag} {H H0 H' H1 H2 H3 : Hp} {Z Z0 Z' Z1 Z2 Z3 Zc F : Addr → Prop} {l l0 l1 l2 l3 l' : Loc} {σ σ0 σ1 σ2 σ' : St} {t x : T} {ts xs fin : List T} {v y : V} {vs : List V} {a b : Addr} {o : Op} {os : List Op} {ks fg : List Nat} {k : Nat} {e e2 e3 : Expr} {es : List Expr} {pos apos cpos : Pos} {st : Stmt} {sts : List Stmt} {m n : M Vl} {mo no : M Op} {D : Ends}

theorem AL.lock (A : AL K H Z l σ) : AL K H Z (lock o l) σ := by
  have := A.block (ks := []) (o := o)
  exact this
theorem unlock_post (A : AL K H1 Z1 l1 σ) (P : Post K (lock o l1) σ Z1 H1 l σ' Z H) : Post K l1 σ Z1 H1 (unlock l1 o l) σ' Z H := by
  have B := P.al
  -- the locked name stands as it stood
  have lk : ∀ i, Lkd l1 o i → ∃ s t, l1[i]? = some s ∧ s.mut = true ∧ s.own = some t ∧ l[i]? = some (.lk t) ∧ (unlock l1 o l)[i]? = some s ∧ σ'[i]? = σ[i]? := fun i h => by
    obtain ⟨s, t, h1, h2, h3, h4⟩ := lock_in h
    obtain ⟨h5, h6⟩ := P.lk i t h4
    refine ⟨s, t, h1, h2, h3, h5, ?_, h6⟩
    cases o with
    | vl u => cases h
    | pl k =>
      obtain ⟨rfl, s', g1, g2⟩ := h
      rw [h1] at g1
      cases g1
      have hi := (List.getElem?_eq_some_iff.mp h5).1
      cases s with
      | ow t' => cases h3; simp only [unlock, h1]; exact List.getElem?_set_self hi
      | rw t' => cases h3; simp only [unlock, h1]; exact List.getElem?_set_self hi
      | _ => cases h2
  have get : ∀ i s, (unlock l1 o l)[i]? = some s → (∃ s', l[i]? = some s' ∧ s'.own = s.own ∧ (s' = s ∨ Lkd l1 o i)) := fun i s h => by
    by_cases hk : Lkd l1 o i
    · obtain ⟨s0, t, h1, h2, h3, h4, h5, _⟩ := lk i hk
      rw [h5] at h
      cases h
      exact ⟨_, h4, h3.symm, .inr hk⟩
    · rw [unlock_out hk] at h
      exact ⟨s, h, rfl, .inl rfl⟩
  have wlock : ∀ b, W (Ir.lock o l1) σ b → W l1 σ b := fun b ⟨i, s, h1, h2, h3⟩ => by
    by_cases hk : Lkd l1 o i
    · obtain ⟨s0, t, _, _, _, h4⟩ := lock_in hk
      rw [h4] at h1
      cases h1
      cases h2
    · rw [lock_out hk] at h1
      exact ⟨i, s, h1, h2, h3⟩
  have flock : ∀ b, OwR (Ir.lock o l1) σ b → OwR l1 σ b := fun b ⟨i, t, h1, h3⟩ => by
    by_cases hk : Lkd l1 o i
    · obtain ⟨s0, t, _, _, _, h4⟩ := lock_in hk
      rw [h4] at h1
      cases h1
    · rw [lock_out hk] at h1
      exact ⟨i, t, h1, h3⟩
  refine ⟨⟨B.zd, by rw [unlock_len]; exact B.len, fun i t h => ?_, fun i s t h1 h2 => ?_, fun i j s s' t t' a g1 g2 g3 g4 g5 g6 => ?_⟩, P.ex.mono wlock fun b w => (W_sub A b w).1.ne, fun b ⟨i, s, h1, h2, h3⟩ => ?_, fun i t h => ?_, fun i t h => ?_, fun b ⟨i, t, h1, h3⟩ => ?_⟩
  · obtain ⟨s', h1, h2, h3⟩ := get i _ h
    rcases h3 with rfl | h3
    · exact B.fr i t h1
    · obtain ⟨s0, t0, g1, g2, g3, g4, g5, _⟩ := lk i h3
      rw [g5] at h
      cases h
      cases g2
  · obtain ⟨s', h3, h4, _⟩ := get i s h1
    exact B.ow i s' t h3 (h4.trans h2)
  · obtain ⟨q, h3, h4, _⟩ := get i s g1
    obtain ⟨q', h3', h4', _⟩ := get j s' g3
    exact B.dj i j q q' t t' a h3 (h4.trans g2) h3' (h4'.trans g4) g5 g6
  · by_cases hk : Lkd l1 o i
    · obtain ⟨s0, t0, g1, g2, g3, g4, g5, g6⟩ := lk i hk
      exact .inl ⟨i, s0, g1, g2, by rw [← g6]; exact h3⟩
    · rw [unlock_out hk] at h1
      rcases P.wn b ⟨i, s, h1, h2, h3⟩ with w | w
      · exact .inl (wlock b w)
      · exact .inr w
  · have hk : ¬ Lkd l1 o i := fun hk => by
      obtain ⟨s0, t0, g1, g2, _⟩ := lk i hk
      rw [h] at g1
      cases g1
      cases g2
    rw [unlock_out hk]
    exact P.lk i t (by rw [lock_out hk]; exact h)
  · by_cases hk : Lkd l1 o i
    · obtain ⟨s0, t0, g1, g2, g3, g4, g5, g6⟩ := lk i hk
      rw [h] at g1
      cases g1
      exact ⟨⟨t, g5⟩, g6⟩
    · rw [unlock_out hk]
      exact P.rw i t (by rw [lock_out hk]; exact h)
  · by_cases hk : Lkd l1 o i
    · obtain ⟨s0, t0, g1, g2, g3, g4, g5, g6⟩ := lk i hk
      rw [g5] at h1
      cases h1
      exact .inl ⟨i, t, g1, by rw [← g6]; exact h3⟩
    · rw [unlock_out hk] at h1
      rcases P.fo b ⟨i, t, h1, h3⟩ with w | w
      · exact .inl (flock b w)
      · exact .inr w

/-- the turn of a for loop -/
def forT (st : T → M Unit) (b : M Fl) (x : T) : M Fl := bind (st x) fun _ => b
theorem for_core {tg : Tg} {mi : M (Op × List T)} {mb : M Fl} {wi : TI} {l l' : Loc} {Z : Addr → Prop} {f : Fl} (A : AL K H Z l σ) (f1 : ∀ b, OwR l σ b → F b) (f2 : ∀ b, H b = none → F b) (e : forS mi tg mb fg l = some (f, l'))
    (q : ∀ σ' H' Z', Post K l σ Z H l' σ' Z' H' → FQ K F D Z' σ' H' f)
    (hw : ∀ (R : L2.It → Hp → Prop) oi l1, mi l = some (oi, l1) → (∀ J H' Z' r, PostE K l σ Z H l1 Z' H' → SrcAt K H' Z' J oi.2 r → (∀ a, r = some a → ¬ Ir.W (lock oi.1 l1) σ a ∧ (Own l1 σ a ∨ H a = none)) → R J H') → wi σ H R) :
    tFor wi (gOf K tg) (rS K F mb) D σ H := by
  obtain ⟨oi, l1, e1, e2⟩ := bind_some.mp e
  refine hw _ oi l1 e1 fun J H1 Z1 ro P S nWs => ?_
  split at e2
  case h_2 => cases e2
  rename_i f' l2 e3
  have hf : f' = f := by cases e2; rfl
  have hl : unlock l1 oi.1 l2 = l' := by cases e2; rfl
  subst hf hl
  have A1 := P.po.al
  have AL1 : AL K H1 Z1 (lock oi.1 l1) σ := A1.lock
  have g0 := P.po.own f1 f2
  have gl : ∀ b, OwR (lock oi.1 l1) σ b → F b := fun b ⟨i, t, h1, h3⟩ => g0.1 b (by
    by_cases hk : Lkd l1 oi.1 i
    · obtain ⟨s0, t, _, _, _, h4⟩ := lock_in hk
      rw [h4] at h1
      cases h1
    · rw [lock_out hk] at h1
      exact ⟨i, t, h1, h3⟩)
  -- what follows the loop
  have fin : ∀ {σ' H' Z' l3}, Post K (lock oi.1 l1) σ Z1 H1 l3 σ' Z' H' → unlock l1 oi.1 l3 = unlock l1 oi.1 l2 → FQ K F D Z' σ' H' f' := fun {σ' H' Z' l3} P2 el => by
    refine q σ' H' Z' (P.po.trans ?_)
    rw [← el]
    exact unlock_post A1 P2
  refine ⟨fun i m σ' H' => m = oi.2.length - i ∧ i ≤ oi.2.length ∧ ∃ l Z lend, Post K (lock oi.1 l1) σ Z1 H1 l σ' Z H' ∧ forM tg.store mb fg (oi.2.drop i) l = some (f', lend) ∧ unlock l1 oi.1 lend = unlock l1 oi.1 l2, ⟨oi.2.length, rfl, Nat.zero_le _, _, Z1, l2, forget_post AL1, e3, rfl⟩, ?_⟩
  rintro i m σ' H' ⟨rfl, hi, l, Z', lend, PP, ec, ee⟩
  have S' : SrcAt K H' Z' J oi.2 ro := S.ex PP.ex (W_sub AL1) fun a h => (nWs a h).1
  by_cases hlt : i < oi.2.length
  · refine .inr ⟨S'.go hlt, fun σ' H' => ∃ l Z lend, Post K (lock oi.1 l1) σ Z1 H1 l σ' Z H' ∧ forM tg.store mb fg (oi.2.drop (i + 1)) l = some (f', lend) ∧ unlock l1 oi.1 lend = unlock l1 oi.1 l2, fun σ' H' h => ⟨oi.2.length - (i + 1), by omega, rfl, hlt, h⟩, fun v H2 hy => ?_⟩
    have hx : oi.2[i]? = some oi.2[i] := List.getElem?_eq_getElem hlt
    obtain ⟨rfl, rx⟩ := S'.yld hx hy
    rw [List.drop_eq_getElem_cons hlt] at ec
    -- the turn
    have turn : ∃ l3 fl l4, tg.store oi.2[i] l = some ((), l3) ∧ mb l3 = some (fl, l4) ∧ (match fl with
        | .nx => forM tg.store mb fg (oi.2.drop (i + 1)) (forget fg l4) = some (f', lend)
        | .ct => forM tg.store mb fg (oi.2.drop (i + 1)) (forget fg l4) = some (f', lend)
        | .bk => f' = .nx ∧ lend = forget fg l4
        | .rt v => f' = .rt v ∧ lend = l4) := by
      unfold forM at ec
      split at ec
      · cases ec
      · rename_i l4 h4
        obtain ⟨_, l3, h1, h2⟩ := bind_some.mp h4
        exact ⟨l3, _, l4, h1, h2, ec⟩
      · rename_i l4 h4
        obtain ⟨_, l3, h1, h2⟩ := bind_some.mp h4
        exact ⟨l3, _, l4, h1, h2, ec⟩
      · rename_i l4 h4
        obtain ⟨_, l3, h1, h2⟩ := bind_some.mp h4
        cases ec
        exact ⟨l3, _, l4, h1, h2, rfl, rfl⟩
      · rename_i l4 h4
        obtain ⟨_, l3, h1, h2⟩ := bind_some.mp h4
        cases ec
        exact ⟨l3, _, _, h1, h2, rfl, rfl⟩
    obtain ⟨l3, fl, l4, h1, h2, h3⟩ := turn
    refine store_post PP.al rx h1 fun σ2 SP => ?_
    have P3 := PP.trans SP.po
    have g3 := P3.own gl g0.2
    refine ⟨l3, Z', fl, l4, SP.po.al, g3.1, g3.2, h2, fun σ4 H4 Z4 P4 => ?_⟩
    have P5 := P3.trans P4
    cases fl with
    | nx => exact ⟨_, Z4, lend, P5.trans (forget_post P5.al), h3, ee⟩
    | ct => exact ⟨_, Z4, lend, P5.trans (forget_post P5.al), h3, ee⟩
    | bk =>
      obtain ⟨rfl, rfl⟩ := h3
      exact fin (P5.trans (forget_post P5.al)) ee
    | rt w =>
      obtain ⟨rfl, rfl⟩ := h3
      exact fin P5 ee
  · have e : i = oi.2.length := by omega
    subst e
    rw [List.drop_length] at ec
    obtain ⟨rfl, rfl⟩ := ret_some.mp ec
    exact .inl ⟨S'.stop (Nat.le_refl _), fin PP ee⟩
theorem for_read {tg : Tg} {mi : M (Op × List T)} {mb : M Fl} (h : rS K F (forS mi tg mb fg) D σ H) : tFor (rI K mi) (gOf K tg) (rS K F mb) D σ H := by
  obtain ⟨l, Z, f, l', A, f1, f2, e, q⟩ := h
  exact for_core A f1 f2 e q fun R oi l1 e1 k => ⟨l, Z, oi, l1, A, e1, k⟩
theorem pS_for {tge iter : Expr} {body : List Stmt} {tg : Tg} {mi : M (Op × List T)} {mb : M Fl} (hp : PassesOwn (model X.prog X.w) X.A X.env X.xe) (hc : X.calm = true) (hi : PI X tge iter (rI X.K mi)) (hg : PG X tge (gOf X.K tg)) (hb : PSs X body (rS X.K F mb))
    (hs : ∀ x, foldedSetIterable iter X.env x = pure x) : PS X (.For tge iter body [] pos) (rS X.K F (forS mi tg mb fg)) := (ps_for hp hc hi hg hb hs).irw fun D σ H h => for_read h

/-- a while loop that ends within n turns -/
def whileN (c : M Bool) (b : M Fl) (fg : List Nat) : Nat → Loc → Option (Fl × Loc)
  | 0, _ => none
  | n + 1, l => match c l with
    | none => none
    | some (false, l1) => some (.nx, l1)
    | some (true, l1) => match b l1 with
      | none => none
      | some (.nx, l2) => whileN c b fg n (forget fg l2)
      | some (.ct, l2) => whileN c b fg n (forget fg l2)
      | some (.bk, l2) => some (.nx, forget fg l2)
      | some (.rt v, l2) => some (.rt v, l2)
theorem whileN_of {c : M Bool} {b : M Fl} {fg : List Nat} : ∀ l r, whileM c b fg l = some r → ∃ n, whileN c b fg n l = some r := by
  refine whileM.partial_correctness c b fg (fun l r => ∃ n, whileN c b fg n l = some r) fun w ih l r h => ?_
  split at h
  · cases h
  · rename_i l1 h1
    exact ⟨1, by unfold whileN; rw [h1]; exact h⟩
  · rename_i l1 h1
    split at h
    · cases h
    · rename_i l2 h2
      obtain ⟨n, hn⟩ := ih _ _ h
      exact ⟨n + 1, by unfold whileN; rw [h1]; dsimp only; rw [h2]; exact hn⟩
    · rename_i l2 h2
      obtain ⟨n, hn⟩ := ih _ _ h
      exact ⟨n + 1, by unfold whileN; rw [h1]; dsimp only; rw [h2]; exact hn⟩
    · rename_i l2 h2
      exact ⟨1, by unfold whileN; rw [h1]; dsimp only; rw [h2]; exact h⟩
    · rename_i v l2 h2
      exact ⟨1, by unfold whileN; rw [h1]; dsimp only; rw [h2]; exact h⟩
theorem while_read {mc : M Bool} {mb : M Fl} (h : rS K F (fun l => whileM mc mb fg (forget fg l)) D σ H) : tWhile (rT K mc) (rS K F mb) D σ H := by
  obtain ⟨l, Z, f, l', A, f1, f2, e, q⟩ := h
  obtain ⟨n, hn⟩ := whileN_of _ _ e
  refine ⟨fun n σ' H' => ∃ l1 Z1, Post K l σ Z H l1 σ' Z1 H' ∧ whileN mc mb fg n l1 = some (f, l'), ⟨n, _, Z, forget_post A, hn⟩, ?_⟩
  rintro n σ' H' ⟨l1, Z1, P, hw⟩
  cases n with
  | zero => cases hw
  | succ n =>
    unfold whileN at hw
    split at hw
    · cases hw
    · rename_i l2 h2
      cases hw
      exact ⟨l1, Z1, false, _, P.al, h2, fun H2 Z2 P2 => q σ' H2 Z2 (P.trans P2.po)⟩
    · rename_i l2 h2
      refine ⟨l1, Z1, true, l2, P.al, h2, fun H2 Z2 P2 => ?_⟩
      dsimp only
      rw [if_pos rfl]
      have P3 := P.trans P2.po
      have g3 := P3.own f1 f2
      refine ⟨fun σ' H' => ∃ l1 Z1, Post K l σ Z H l1 σ' Z1 H' ∧ whileN mc mb fg n l1 = some (f, l'), fun σ' H' h => ⟨n, Nat.lt_succ_self n, h⟩, ?_⟩
      split at hw
      · cases hw
      · rename_i l3 h3
        exact ⟨l2, Z2, .nx, l3, P3.al, g3.1, g3.2, h3, fun σ4 H4 Z4 P4 => ⟨_, Z4, (P3.trans P4).trans (forget_post (P3.trans P4).al), hw⟩⟩
      · rename_i l3 h3
        exact ⟨l2, Z2, .ct, l3, P3.al, g3.1, g3.2, h3, fun σ4 H4 Z4 P4 => ⟨_, Z4, (P3.trans P4).trans (forget_post (P3.trans P4).al), hw⟩⟩
      · rename_i l3 h3
        cases hw
        exact ⟨l2, Z2, .bk, l3, P3.al, g3.1, g3.2, h3, fun σ4 H4 Z4 P4 => q σ4 H4 Z4 ((P3.trans P4).trans (forget_post (P3.trans P4).al))⟩
      · rename_i v l3 h3
        cases hw
        exact ⟨l2, Z2, .rt v, _, P3.al, g3.1, g3.2, h3, fun σ4 H4 Z4 P4 => q σ4 H4 Z4 (P3.trans P4)⟩
theorem pS_while {body : List Stmt} {mc : M Bool} {mb : M Fl} (hp : PassesOwn (model X.prog X.w) X.A X.env X.xe) (hc : PT X e (rT X.K mc)) (hb : PSs X body (rS X.K F mb)) : PS X (.While e body [] pos) (rS X.K F (fun l => whileM mc mb fg (forget fg l))) :=
  (ps_while hp hc hb).irw fun D σ H h => while_read h
end
end Ir

set_option Elab.async false
set_option linter.all false
set_option maxRecDepth 20000
namespace Ir
open PySem L2

section
variable {X : L2.Cx} {K : PySem.W.Frag} {H H0 H' H1 H2 : Hp} {Z Z0 Z' Z1 Z2 : Addr → Prop} {t : T} {ts xs fin : List T} {v x y : V} {vs : List V} {a b : Addr} {Q : VK} {p : Pr} {res : Vl} {e e2 : Expr} {es : List Expr} {pos p2 : Pos} {σ : St}

/-! ### t += u -/
theorem noI_tuple_add : PySem.typeLookup (.type "tuple") (PySem.dunderI "add") = pure none := by rw [PySem.typeLookup_type, PySem.builtinLookup_eq_fast]; kernel_rfl
theorem iconcat_meets {prog : Program} {w : World} {A : Around} {E : Value → Shared → Prop} {s : Shared} {T id : String} {B : Builtin} {a b : Value} {S : PySem.Spec} {Q : Value → Shared → Prop} (ha : s.TypeIs a T) (hb : s.TypeIs b T) (hno : typeLookup (.type T) (dunderI "add") = pure none)
    (hfill : fillsNumberSlot (.type T) "add" = pure false) (hseq : seqSlot? (.type T) "__add__" = pure (some (.builtin id))) (slot : Slot T "__add__" id)
    (entry : entryFor table id = some B) (args : argsOk id ⟨[a, b], []⟩) (g : Meets (B ⟨[a, b], []⟩) S) (h : S A (wants Q E) s) : wpAny (model prog w) A (inplaceOp .Add a b) Q E s :=
  wpAny_inplaceOp_concat ha hb hno hfill hseq (call_meets slot ha entry args g h)
theorem icat_tup {prog : Program} {w : World} {A : Around} {E : Value → Shared → Prop} {s : Shared} {t b : Addr} {vs ws : List Value} {Q : Value → Shared → Prop} (ht : PyProof.Rows.IsTup s.heap t vs.toArray) (hb : PyProof.Rows.IsTup s.heap b ws.toArray)
    (h0 : vs = [] → Q (.ref b) s) (h1 : vs ≠ [] → ws = [] → Q (.ref t) s)
    (h2 : vs ≠ [] → ws ≠ [] → Q (.ref s.heap.objs.size) { s with heap := s.heap.push { cls := .type "tuple", data := .seq (vs ++ ws).toArray } })
    (hsz : vs.length + ws.length ≤ sizeLine) : wpAny (model prog w) A (inplaceOp .Add (.ref t) (.ref b)) Q E s := by
  obtain ⟨⟨cls, dd, data, sl⟩, ho, hc, n, hd⟩ := id ht
  obtain ⟨⟨cls2, dd2, data2, sl2⟩, ho2, hc2, n2, hd2⟩ := id hb
  simp only at hc hd hc2 hd2
  subst hc hd hc2 hd2
  have e : vs.toArray ++ ws.toArray = (vs ++ ws).toArray := by simp
  by_cases hv : vs = []
  · exact iconcat_meets ⟨_, ho, rfl⟩ ⟨_, ho2, rfl⟩ noI_tuple_add noFill_tuple_add seq_tuple_add PySem.F.slot_tuple_add PySem.F.entry_tuple_add (PySem.F.args_tuple_add_2 _ _)
      (PyProof.Rows.tuple_addW0 t b vs.toArray ws.toArray n n2 dd dd2 sl sl2 (by simp [hv])) ⟨ho, ho2, h0 hv⟩
  · by_cases hw : ws = []
    · exact iconcat_meets ⟨_, ho, rfl⟩ ⟨_, ho2, rfl⟩ noI_tuple_add noFill_tuple_add seq_tuple_add PySem.F.slot_tuple_add PySem.F.entry_tuple_add (PySem.F.args_tuple_add_2 _ _)
        (PyProof.Rows.tuple_addW1 t b vs.toArray ws.toArray n n2 dd dd2 sl sl2 (by simpa using hv) (by simp [hw])) ⟨ho, ho2, h1 hv hw⟩
    · refine iconcat_meets ⟨_, ho, rfl⟩ ⟨_, ho2, rfl⟩ noI_tuple_add noFill_tuple_add seq_tuple_add PySem.F.slot_tuple_add PySem.F.entry_tuple_add (PySem.F.args_tuple_add_2 _ _)
        (PyProof.Rows.tuple_addW2 t b vs.toArray ws.toArray n n2 dd dd2 sl sl2 (by simpa using hv) (by simpa using hw) (by rw [List.size_toArray, List.size_toArray]; exact hsz)) ⟨ho, ho2, ?_⟩
      rw [e]
      exact h2 hv hw
theorem iop_catA : OpR X (inplaceOp .Add) (rCatA X.K) := by
  intro pins s σ H x y v u Q I rx ry h
  obtain ⟨a, b, xs, ys, rfl, rfl, ha, hb, hz, q0, q1, q2⟩ := h
  cases rx
  cases ry
  obtain ⟨its, r1, p1, _⟩ := I.tuple ha
  obtain ⟨its2, r2, p2, _⟩ := I.tuple hb
  refine icat_tup p1 p2 (fun z => ⟨.ref b, H, I, rfl, q0 (r1.nil_iff.mp z)⟩) (fun z1 z => ⟨.ref a, H, I, rfl, q1 (fun w => z1 (r1.nil_iff.mpr w)) (r2.nil_iff.mp z)⟩) (fun z1 z => ?_) (by rw [← r1.length, ← r2.length]; exact hz)
  refine ⟨.ref s.heap.objs.size, _, I.laid (t' := s.toks) (o := .tup (xs ++ ys)) (fun b ob q => Heap.get?_push_of_some _ q) (Nat.le_refl _) ?_, rfl, q2 (fun w => z1 (r1.nil_iff.mpr w)) (fun w => z (r2.nil_iff.mpr w)) _ (I.hok.fresh (Nat.le_refl _))⟩
  exact ⟨by rw [List.length_append]; exact hz, _, r1.append r2, PyProof.Rows.IsTup.new _ _⟩
/-! ### op= -/
theorem a_add : PIp X .Add (rIp X.K .add) := by
  intro pins s σ H x y v u Q I rx ry h
  rcases h with ⟨Z, t1, t2, w, k1, k2, e, nt, zd, q⟩ | ⟨_, h⟩
  · have q' : Fin X.K H Z (.fr w) Q := q
    replace e : prAdd [t1, t2] = some (.fr w) := e
    unfold prAdd at e
    split at e
    · rename_i h
      cases h
      cases some_res e
      obtain rfl := k1.int
      obtain rfl := k2.int
      exact iop_add pins s σ H _ _ v u Q I rx ry ⟨_, _, rfl, rfl, fin_int zd q'⟩
    · rename_i h
      cases h
      obtain ⟨c, e⟩ := if_some e
      cases e
      obtain ⟨z1, rfl, g1⟩ := k1.str
      obtain ⟨z2, rfl, g2⟩ := k2.str
      refine iop_add_str pins s σ H _ _ v u Q I rx ry ⟨z1, z2, rfl, rfl, ?_, fin_str zd q' ?_⟩
      · rw [Str.len g1, Str.len g2]; exact c
      · subst g1 g2
        show (z1.cps ++ z2.cps).toList = _
        simp
    · rename_i h
      cases h
      obtain ⟨c, e⟩ := if_some e
      cases e
      have k1' := k1
      have k2' := k2
      obtain ⟨a, xs, rfl, sa, ra⟩ := k1.tup
      obtain ⟨b, ys, rfl, sb, rb⟩ := k2.tup
      refine iop_catA pins s σ H _ _ v u Q I rx ry ⟨a, b, xs, ys, rfl, rfl, sa, sb, sum_size ra rb c, fun e => ?_, fun _ e => ?_, fun _ _ => fin_tup zd q' (ra.append rb)⟩
      · subst e
        cases ra
        exact fin_fr zd q' k2'.self
      · subst e
        cases rb
        rw [List.append_nil] at q'
        exact fin_fr zd q' k1'.self
    · obtain ⟨c, e⟩ := if_some e
      cases e
    · cases e
  · exact iop_ext pins s σ H x y v u Q I rx ry h
theorem no_ext {op : Operator} {p : Pr} (hp : p ≠ .add) (h : ∀ (pins : List (Addr × Obj)) (s : Shared) (σ : St) (H : Hp) (x y : V) (v u : Value) (Q : VK) (i j : Int) (w : T) (Z : Addr → Prop), L2.Inv X pins σ H s → RelV x v → RelV y u → x = .int i → y = .int j → prS p [.int i, .int j] = some (.fr w) →
    (∀ b, Z b → H b ≠ none) → Fin X.K H Z (.fr w) Q → PySem.wpAny (PySem.model X.prog X.w) X.A (inplaceOp op v u) (EP X pins σ Q) X.xe s) (hi : ∀ (t1 t2 w : T), augOk p w = true → prS p [t1, t2] = some (.fr w) → ∃ i j, t1 = .int i ∧ t2 = .int j) : PIp X op (rIp X.K p) := by
  intro pins s σ H x y v u Q I rx ry g
  rcases g with ⟨Z, t1, t2, w, k1, k2, e, nt, zd, q⟩ | ⟨h, _⟩
  · obtain ⟨i, j, rfl, rfl⟩ := hi t1 t2 w nt e
    exact h pins s σ H x y v u Q i j w Z I rx ry k1.int k2.int e zd q
  · exact absurd h hp
theorem int2_two {f : Int → Int → Int} {t1 t2 : T} {r : Vl} (e : int2 f [t1, t2] = some r) : ∃ i j, t1 = .int i ∧ t2 = .int j := by
  obtain ⟨i, j, h, _⟩ := int2_inv e
  cases h
  exact ⟨i, j, rfl, rfl⟩
theorem a_sub : PIp X .Sub (rIp X.K .sub) := no_ext (by decide) (fun pins s σ H x y v u Q i j w Z I rx ry ex ey e zd q => by
  cases some_res (show some (Vl.fr (.int (i - j))) = some (.fr w) from e)
  exact iop_sub pins s σ H _ _ v u Q I rx ry ⟨i, j, ex, ey, fin_int zd q⟩) fun t1 t2 w _ e => int2_two (show int2 (· - ·) [t1, t2] = _ from e)
theorem a_fdv : PIp X .FloorDiv (rIp X.K .fdv) := no_ext (by decide) (fun pins s σ H x y v u Q i j w Z I rx ry ex ey e zd q => by
  obtain ⟨c, e⟩ := if_some (show (if 0 < j ∧ j.natAbs.log2 < 9000 then some (Vl.fr (.int (i / j))) else none) = some (.fr w) from e)
  cases e
  subst ex ey
  obtain ⟨t, rfl⟩ := rx
  obtain ⟨t', rfl⟩ := ry
  exact PyProof.Rows.ifloordiv_int (by omega) (by rw [Int.fdiv_eq_ediv_of_nonneg i (by omega)]; exact ⟨.int (i / j), H, I.tok _, ⟨_, rfl⟩, fin_int zd q⟩) (.inl (PyProof.noPylong_of_log2 c.2))) fun t1 t2 w _ e => by
    replace e : prFdv [t1, t2] = some (.fr w) := e
    unfold prFdv at e
    split at e
    · rename_i h; cases h; exact ⟨_, _, rfl, rfl⟩
    · cases e
theorem a_mod : PIp X .Mod (rIp X.K .mod) := no_ext (by decide) (fun pins s σ H x y v u Q i j w Z I rx ry ex ey e zd q => by
  obtain ⟨c, e⟩ := if_some (show (if 0 < j then some (Vl.fr (.int (i % j))) else none) = some (.fr w) from e)
  cases e
  exact iop_mod pins s σ H _ _ v u Q I rx ry ⟨i, j, ex, ey, c, fin_int zd q⟩) fun t1 t2 w _ e => by
    replace e : prMod [t1, t2] = some (.fr w) := e
    unfold prMod at e
    split at e
    · rename_i h; cases h; exact ⟨_, _, rfl, rfl⟩
    · cases e
theorem a_mul : PIp X .Mult (rIp X.K .mul) := by
  intro pins s σ H x y v u Q I rx ry h
  rcases h with ⟨Z, t1, t2, w, k1, k2, e, nt, zd, q⟩ | ⟨h, _⟩
  · have q' : Fin X.K H Z (.fr w) Q := q
    replace e : prMul [t1, t2] = some (.fr w) := e
    unfold prMul at e
    split at e
    · rename_i h
      cases h
      obtain ⟨c, e⟩ := if_some e
      cases e
      obtain rfl := k1.int
      obtain rfl := k2.int
      obtain ⟨t, rfl⟩ := rx
      obtain ⟨t', rfl⟩ := ry
      have ok : PySem.IntMulOk _ _ := (mulOk_inv c).elim (fun h => h.ok) (fun h => h.ok)
      exact PyProof.Rows.imul_int ⟨.int _, H, I.tok _, ⟨_, rfl⟩, fin_int zd q'⟩ ok
    · obtain ⟨c, e⟩ := if_some e
      cases e
      cases nt
    · obtain ⟨c, e⟩ := if_some e
      cases e
    · obtain ⟨c, e⟩ := if_some e
      cases e
      cases nt
    · cases e
  · cases h

/-! ### is None -/
theorem pE_isN {kn : Nat} {p1 : Pos} {m : M Op} {n : Bool} (ha : PE X e (rO X.K m)) (hm : behindInMarks (if n then .IsNot else .Is) (.Constant .none kn p1) = false) :
    PE X (.Compare e [if n then .IsNot else .Is] [.Constant .none kn p1] pos) (rE X.K (prM (if n then .notN else .isN) (bind m fun o => bind (ret []) fun os => ret (o :: os)))) := by
  cases n with
  | false =>
    refine (pe_cmpR op_isN ha pe_non hm).irw fun σ H Q h => ?_
    obtain ⟨l, Z, r, l', A, e, q⟩ := rP_one h
    refine ⟨l, Z, r, l', A, e, fun v H' Z' P R => ⟨rfl, ?_⟩⟩
    obtain ⟨Z2, ts, res, zd, pk, e2, q2⟩ := q v H' Z' P R
    obtain ⟨a, rfl, e3⟩ := pr1_inv (show pr1 (fun a => bool (isNon a)) ts = some res from e2)
    obtain ⟨t, e4, h4⟩ := pk.one
    cases e4
    rw [h4.isN]
    exact fin_bool zd e3 q2
  | true =>
    refine (pe_cmpR op_notN ha pe_non hm).irw fun σ H Q h => ?_
    obtain ⟨l, Z, r, l', A, e, q⟩ := rP_one h
    refine ⟨l, Z, r, l', A, e, fun v H' Z' P R => ⟨rfl, ?_⟩⟩
    obtain ⟨Z2, ts, res, zd, pk, e2, q2⟩ := q v H' Z' P R
    obtain ⟨a, rfl, e3⟩ := pr1_inv (show pr1 (fun a => bool (!isNon a)) ts = some res from e2)
    obtain ⟨t, e4, h4⟩ := pk.one
    cases e4
    rw [h4.isN]
    exact fin_bool zd e3 q2

/-! ### by index -/
theorem get_T {i : Int} {u : T} (h : RFs K H Z ts vs) (e : Ir.atI ts i = some u) : ∃ v, L2.atI vs i = some v ∧ RF K H Z u v := by
  unfold Ir.atI at e
  obtain ⟨j, h1, h2⟩ := Option.bind_eq_some_iff.mp e
  obtain ⟨v, h3, h4⟩ := h.get h2
  refine ⟨v, ?_, h4⟩
  unfold L2.atI
  rw [← h.length, ← ixN_eq, h1]
  exact h3
theorem o_idx : IxR X (rP2 X.K .idx) := by
  intro value slice pins s σ H x y v u Q I rx ry ⟨Z, ts, res, zd, pk, e, q⟩ hs
  replace e : prIdx ts = some res := e
  unfold prIdx at e
  split at e
  · obtain ⟨w, e1, rfl⟩ := Option.map_eq_some_iff.mp e
    obtain ⟨_, _, e2, h1, h2⟩ := pk.two
    cases e2
    obtain ⟨a, vs, rfl, k1, k2⟩ := h1.lst
    obtain rfl := h2.int
    obtain ⟨z, g1, g2⟩ := get_T k2 e1
    exact ix_list value slice pins s σ H _ _ v u Q I rx ry ⟨a, vs, _, z, rfl, rfl, k1.sq, g1, fin_fr zd q g2⟩ hs
  · obtain ⟨w, e1, rfl⟩ := Option.map_eq_some_iff.mp e
    obtain ⟨_, _, e2, h1, h2⟩ := pk.two
    cases e2
    obtain ⟨a, vs, rfl, k1, k2⟩ := h1.tup
    obtain rfl := h2.int
    obtain ⟨z, g1, g2⟩ := get_T k2 e1
    exact ix_tup value slice pins s σ H _ _ v u Q I rx ry ⟨a, vs, _, z, rfl, rfl, k1, g1, fin_fr zd q g2⟩ hs
  · split at e
    · rename_i ys i c
      obtain ⟨w, e1, rfl⟩ := Option.map_eq_some_iff.mp e
      obtain ⟨_, _, e2, h1, h2⟩ := pk.two
      cases e2
      obtain ⟨z, rfl, k⟩ := h1.str
      obtain rfl := h2.int
      have e3 : L2.atI z.cps.toList i = some w := by rw [k, ← atI_eq]; exact e1
      exact ix_str value slice pins s σ H _ _ v u Q I rx ry ⟨z, _, w, rfl, rfl, by rw [Str.len k]; exact c, e3, fin_str zd q rfl⟩ hs
    · cases e
  · cases e

/-! ### slices -/
theorem cl_eq (n : Nat) (i : Int) (d : Nat) : Ir.cl n i = HT.sIx n d (some i) := rfl
theorem clO_eq (n d : Nat) (o : Option Int) : Ir.clO n d o = HT.sIx n d o := by
  cases o <;> rfl
theorem cut_V {lo hi : Option Int} (h : RFs K H Z ts vs) : RFs K H Z (Ir.cut ts lo hi) (cutV vs lo hi) := by
  unfold Ir.cut cutV
  rw [clO_eq, clO_eq, h.length]
  exact (h.drop _).take _
theorem cut_all {lo hi : Option Int} (h : HT.sIx ts.length 0 lo = 0 ∧ HT.sIx ts.length ts.length hi = ts.length) : Ir.cut ts lo hi = ts := by
  unfold Ir.cut
  rw [clO_eq, clO_eq, h.1, h.2]
  simp
theorem o_cut {lo hi : Option Int} {pins : List (Addr × Obj)} {s : Shared} {v vl vu : Value} {sl : Addr} (I : L2.Inv X pins σ H s) (rx : RelV x v) (hs : s.heap.IsSliceOf sl vl vu .none) (pl : IsPart vl lo) (pu : IsPart vu hi)
    (zd : ∀ b, Z b → H b ≠ none) (k : PK X.K H Z t x) (e : prCut lo hi t = some res) (q : Fin X.K H Z res Q) :
    ∃ T id, typeLookup (.type T) "__getitem__" = pure (some (.builtin id)) ∧ s.TypeIs v T ∧ PySem.wpAny (PySem.model X.prog X.w) X.A (getItem v (.ref sl)) (EP X pins σ Q) X.xe s := by
  unfold prCut at e
  split at e
  · cases some_res e
    obtain ⟨a, vs, rfl, k1, k2⟩ := k.lst
    exact sl_list pins s σ H _ v vl vu lo hi sl Q I rx hs pl pu ⟨a, vs, rfl, k1.sq, fin_lst zd q (cut_V k2)⟩
  · cases some_res e
    have ks := k.self
    obtain ⟨a, vs, rfl, k1, k2⟩ := k.tup
    refine sl_tupA pins s σ H _ v vl vu lo hi sl Q I rx hs pl pu ⟨a, vs, rfl, k1, fun w => ?_, fun _ => fin_tup zd q (cut_V k2)⟩
    rw [← k2.length] at w
    rw [cut_all w] at q
    exact fin_fr zd q ks
  · obtain ⟨c, rfl⟩ := if_some e
    obtain ⟨z, rfl, k1⟩ := k.str
    refine sl_str pins s σ H _ v vl vu lo hi sl Q I rx hs pl pu ⟨z, rfl, by rw [Str.len k1]; exact c, fin_str zd q ?_⟩
    unfold cutS Ir.cut
    rw [clO_eq, clO_eq, Str.len k1, k1]
  · cases e
end
end Ir

set_option Elab.async false
set_option linter.all false
set_option maxRecDepth 20000
namespace Ir
open PySem L2

section
variable {X : L2.Cx} {K : PySem.W.Frag} {H H0 H' H1 H2 : Hp} {Z Z0 Z' Z1 Z2 : Addr → Prop} {t : T} {ts xs fin : List T} {v x y : V} {vs : List V} {a b : Addr} {Q : VK} {p : Pr} {res : Vl} {e e2 e3 : Expr} {es : List Expr} {pos p1 p2 p3 p4 : Pos} {σ : St} {m n : M Vl} {mo : M Op} {l l1 l2 l' : Loc}

/-- a slice by values -/
def rCut (K : PySem.W.Frag) : V → Option Int → Option Int → Hp → VK → Prop := fun x lo hi H Q => ∃ Z t res, (∀ b, Z b → H b ≠ none) ∧ PK K H Z t x ∧ prCut lo hi t = some res ∧ Fin K H Z res Q
theorem s_cut : SlR X (rCut X.K) := by
  intro pins s σ H x v vl vu lo hi sl Q I rx hs pl pu ⟨Z, t, res, zd, k, e, q⟩
  exact o_cut I rx hs pl pu zd k e q
theorem pE_sl (h : PE X e (rO X.K mo)) (ha : PE X e2 (rE X.K m)) (hb : PE X e3 (rE X.K n)) : PE X (.Subscript e (.Slice (some e2) (some e3) none p2) pos) (rE X.K (slM mo m n)) :=
  (pe_slice s_cut h (po_some ha) (po_some hb)).irw fun σ H Q ⟨l, Z, r, l', A, e, q⟩ => by
  obtain ⟨o, l1, e1, c1⟩ := bind_some.mp e
  obtain ⟨v, l2, e2, c2⟩ := bind_some.mp c1
  obtain ⟨i, l3, e3, c3⟩ := bind_some.mp c2
  obtain ⟨rfl, rfl⟩ := intOf_some e3
  obtain ⟨w, l4, e4, c4⟩ := bind_some.mp c3
  obtain ⟨j, l5, e5, c5⟩ := bind_some.mp c4
  obtain ⟨rfl, rfl⟩ := intOf_some e5
  split at c5
  · rename_i t ht
    obtain ⟨e6, rfl⟩ := lift_some.mp c5
    refine ⟨l, Z, o, l1, A, e1, fun x H1 Z1 P1 R1 => ⟨l1, Z1, _, _, P1.po.al, e2, fun y H2 Z2 P2 R2 => ?_⟩⟩
    cases R2
    refine ⟨i, rfl, _, Z2, _, _, P2.po.al, e4, fun z H3 Z3 P3 R3 => ?_⟩
    cases R3
    have R1' : OR X.K H Z2 H2 σ o x := R1.ex P2.po P1.po.al (P1.elder A)
    have R1'' : OR X.K H Z3 H3 σ o x := R1'.ex P3.po P2.po.al ((P1.trans P2).elder A)
    refine ⟨j, rfl, Z3, t, r, P3.po.al.zd, R1''.peek P3.po.al ht, e6, fun v H' Z' ex r2 => ?_⟩
    have P := (P1.trans P2).trans P3
    exact q v H' Z' (P.trans (PostE.new P3.po.al ex)) (r2.old P.po.ex)
  · cases c5
/-- a slice with one bound -/
theorem prSl_lo (e : prSl true false ts = some res) : ∃ t i, ts = [t, .int i] ∧ prCut (some i) none t = some res := by
  unfold prSl at e
  split at e <;> first | (rename_i h1 h2; first | (cases h1; done) | (cases h2; done) | exact ⟨_, _, rfl, e⟩) | cases e
theorem prSl_hi (e : prSl false true ts = some res) : ∃ t i, ts = [t, .int i] ∧ prCut none (some i) t = some res := by
  unfold prSl at e
  split at e <;> first | (rename_i h1 h2; first | (cases h1; done) | (cases h2; done) | exact ⟨_, _, rfl, e⟩) | cases e
theorem prSl_no (e : prSl false false ts = some res) : ∃ t, ts = [t] ∧ prCut none none t = some res := by
  unfold prSl at e
  split at e <;> first | (rename_i h1 h2; first | (cases h1; done) | (cases h2; done) | exact ⟨_, rfl, e⟩) | cases e
theorem pE_slLo {mb : M Op} (h : PE X e (rO X.K mo)) (ha : PE X e2 (rO X.K mb)) : PE X (.Subscript e (.Slice (some e2) none none p2) pos) (rE X.K (prM (.sl true false) (bind mo fun o => bind (bind mb fun o => bind (ret []) fun os => ret (o :: os)) fun os => ret (o :: os)))) :=
  (pe_slice s_cut h (po_some ha) po_none).irw fun σ H Q h => by
  obtain ⟨l, Z, r, l', A, e, q⟩ := rP_two h
  refine ⟨l, Z, r, l', A, e, fun v H' Z' P R => ?_⟩
  obtain ⟨l2, Z2, r2, l3, A2, e2, q2⟩ := q v H' Z' P R
  refine ⟨l2, Z2, r2, l3, A2, e2, fun w H3 Z3 P3 R3 => ?_⟩
  obtain ⟨Z4, ts, res, zd, pk, e4, q4⟩ := q2 w H3 Z3 P3 R3
  obtain ⟨t, i, rfl, e5⟩ := prSl_lo (show prSl true false ts = some res from e4)
  obtain ⟨_, _, e6, h1, h2⟩ := pk.two
  cases e6
  exact ⟨i, h2.int, Z4, t, res, zd, h1, e5, q4⟩
theorem pE_slHi {mb : M Op} (h : PE X e (rO X.K mo)) (ha : PE X e2 (rO X.K mb)) : PE X (.Subscript e (.Slice none (some e2) none p2) pos) (rE X.K (prM (.sl false true) (bind mo fun o => bind (bind mb fun o => bind (ret []) fun os => ret (o :: os)) fun os => ret (o :: os)))) :=
  (pe_slice s_cut h po_none (po_some ha)).irw fun σ H Q h => by
  obtain ⟨l, Z, r, l', A, e, q⟩ := rP_two h
  refine ⟨l, Z, r, l', A, e, fun v H' Z' P R => ?_⟩
  obtain ⟨l2, Z2, r2, l3, A2, e2, q2⟩ := q v H' Z' P R
  refine ⟨l2, Z2, r2, l3, A2, e2, fun w H3 Z3 P3 R3 => ?_⟩
  obtain ⟨Z4, ts, res, zd, pk, e4, q4⟩ := q2 w H3 Z3 P3 R3
  obtain ⟨t, i, rfl, e5⟩ := prSl_hi (show prSl false true ts = some res from e4)
  obtain ⟨_, _, e6, h1, h2⟩ := pk.two
  cases e6
  exact ⟨i, h2.int, Z4, t, res, zd, h1, e5, q4⟩
theorem pE_slNo (h : PE X e (rO X.K mo)) : PE X (.Subscript e (.Slice none none none p2) pos) (rE X.K (prM (.sl false false) (bind mo fun o => bind (ret []) fun os => ret (o :: os)))) :=
  (pe_slice s_cut h po_none po_none).irw fun σ H Q h => by
  obtain ⟨l, Z, r, l', A, e, q⟩ := rP_one h
  refine ⟨l, Z, r, l', A, e, fun v H' Z' P R => ?_⟩
  obtain ⟨Z4, ts, res, zd, pk, e4, q4⟩ := q v H' Z' P R
  obtain ⟨t, rfl, e5⟩ := prSl_no (show prSl false false ts = some res from e4)
  obtain ⟨t', e6, h1⟩ := pk.one
  cases e6
  exact ⟨Z4, t, res, zd, h1, e5, q4⟩

/-! ### list(range(..)) -/
theorem rg_list (i j : Int) : RFs K H Z ((rangeL i j).map T.int) (rgV i j) := by
  unfold rangeL rgV
  rw [List.map_map]
  generalize List.range (j - i).toNat = ns
  induction ns with
  | nil => exact .nil
  | cons n ns ih => exact .cons (.int _) ih
theorem rg_ok {i j : Int} (h : small i = true) (g : small j = true) (c : j - i ≤ sizeMax) : RgOk i j := by
  have h := of_decide_eq_true h
  have g := of_decide_eq_true g
  have k : sizeMax = 16777216 := rfl
  exact ⟨h.1, h.2, g.1, g.2, by omega⟩
theorem pE_rng1 (hc : X.calm = true) (hg : Gl X "list") (hm : X.mg "list" = none) (hg2 : Gl X "range") (hm2 : X.mg "range" = none) (na2 : starEach [e] X.env = (false, eval e X.env) :: starEach [] X.env)
    (h : PE X e (rO X.K mo)) : PE X (.Call (.Name "list" p1) [.Call (.Name "range" p2) [e] [] p3] [] pos) (rE X.K (prM .lrng1 (bind mo fun o => bind (ret []) fun os => ret (o :: os)))) :=
  (pe_listRg hc hg hm (prg_1 hg2 hm2 h na2)).irw fun σ H Q h => by
  obtain ⟨l, Z, r, l', A, e, q⟩ := rP_one h
  refine ⟨l, Z, r, l', A, e, fun v H' Z' P R => ?_⟩
  obtain ⟨Z4, ts, res, zd, pk, e4, q4⟩ := q v H' Z' P R
  replace e4 : prLrng1 ts = some res := e4
  unfold prLrng1 at e4
  split at e4
  · rename_i b
    obtain ⟨c, rfl⟩ := if_some e4
    obtain ⟨c1, c2⟩ := (Bool.and_eq_true _ _).mp c
    obtain ⟨t', e6, h1⟩ := pk.one
    cases e6
    exact ⟨b, h1.int, rg_ok (by decide) c1 (by simpa using of_decide_eq_true c2), fin_lst zd q4 (rg_list 0 b)⟩
  · cases e4
theorem pE_rng2 {mb : M Op} (hc : X.calm = true) (hg : Gl X "list") (hm : X.mg "list" = none) (hg2 : Gl X "range") (hm2 : X.mg "range" = none) (na2 : starEach [e, e2] X.env = (false, eval e X.env) :: starEach [e2] X.env)
    (nb : starEach [e2] X.env = (false, eval e2 X.env) :: starEach [] X.env) (hp : (backTo p3 (starEach [e2] X.env)).any (·.1) = false)
    (h : PE X e (rO X.K mo)) (h2 : PE X e2 (rO X.K mb)) : PE X (.Call (.Name "list" p1) [.Call (.Name "range" p2) [e, e2] [] p3] [] pos) (rE X.K (prM .lrng2 (bind mo fun o => bind (bind mb fun o => bind (ret []) fun os => ret (o :: os)) fun os => ret (o :: os)))) :=
  (pe_listRg hc hg hm (prg_2 hg2 hm2 h h2 na2 nb hp)).irw fun σ H Q h => by
  obtain ⟨l, Z, r, l', A, e, q⟩ := rP_two h
  refine ⟨l, Z, r, l', A, e, fun v H' Z' P R => ?_⟩
  obtain ⟨l2, Z2, r2, l3, A2, e2, q2⟩ := q v H' Z' P R
  refine ⟨l2, Z2, r2, l3, A2, e2, fun w H3 Z3 P3 R3 => ?_⟩
  obtain ⟨Z4, ts, res, zd, pk, e4, q4⟩ := q2 w H3 Z3 P3 R3
  replace e4 : prLrng2 ts = some res := e4
  unfold prLrng2 at e4
  split at e4
  · rename_i a b
    obtain ⟨c, rfl⟩ := if_some e4
    obtain ⟨c1, c2⟩ := (Bool.and_eq_true _ _).mp c
    obtain ⟨c3, c4⟩ := (Bool.and_eq_true _ _).mp c1
    obtain ⟨rfl, rfl⟩ := rP2_int pk
    exact ⟨a, b, rfl, rfl, rg_ok c3 c4 (of_decide_eq_true c2), fin_lst zd q4 (rg_list a b)⟩
  · cases e4
theorem rP_three {p : Pr} {m n k : M Op} {σ : St} {H : Hp} {Q : VK} (h : rE K (prM p (bind m fun o => bind (bind n fun o => bind (bind k fun o => bind (ret []) fun os => ret (o :: os)) fun os => ret (o :: os)) fun os => ret (o :: os))) σ H Q) :
    rO K m σ H (fun x H1 => rO K n σ H1 (fun y H2 => rO K k σ H2 (fun z H3 => rP K p [x, y, z] H3 Q))) := by
  obtain ⟨l, Z, r, l', A, e, q⟩ := h
  obtain ⟨os, ts, e1, e2, e3⟩ := prM_some e
  obtain ⟨o, l1, g1, g2⟩ := bind_some.mp e1
  obtain ⟨_, _, g3, g4⟩ := bind_some.mp g2
  obtain ⟨o2, l2, g5, g6⟩ := bind_some.mp g3
  obtain ⟨_, _, g7, g8⟩ := bind_some.mp g6
  obtain ⟨o3, l3, g9, g10⟩ := bind_some.mp g7
  obtain ⟨_, _, g11, g12⟩ := bind_some.mp g10
  obtain ⟨rfl, rfl⟩ := ret_some.mp g11
  obtain ⟨rfl, rfl⟩ := ret_some.mp g12
  obtain ⟨rfl, rfl⟩ := ret_some.mp g8
  obtain ⟨rfl, rfl⟩ := ret_some.mp g4
  refine ⟨l, Z, o, l1, A, g1, fun v H1 Z1 P R => ⟨l1, Z1, o2, l2, P.po.al, g5, fun w H2 Z2 P2 R2 => ⟨l2, Z2, o3, _, P2.po.al, g9, fun x H3 Z3 P3 R3 => ?_⟩⟩⟩
  have R' : OR K H Z2 H2 σ o v := R.ex P2.po P.po.al (P.elder A)
  have R'' : OR K H Z3 H3 σ o v := R'.ex P3.po P2.po.al ((P.trans P2).elder A)
  have R2' : OR K H1 Z3 H3 σ o2 w := R2.ex P3.po P2.po.al (P2.elder P.po.al)
  exact rP_use P3.po.al ((P.trans P2).trans P3) (.cons R'' (.cons (R2'.old P.po.ex) (.cons (R3.old (P.trans P2).po.ex) .nil))) e2 e3 fun v H4 Z4 P4 r4 => q v H4 Z4 P4 r4
theorem pE_trng1 (hc : X.calm = true) (hg : Gl X "tuple") (hm : X.mg "tuple" = none) (hg2 : Gl X "range") (hm2 : X.mg "range" = none) (na2 : starEach [e] X.env = (false, eval e X.env) :: starEach [] X.env)
    (h : PE X e (rO X.K mo)) : PE X (.Call (.Name "tuple" p1) [.Call (.Name "range" p2) [e] [] p3] [] pos) (rE X.K (prM .trng1 (bind mo fun o => bind (ret []) fun os => ret (o :: os)))) :=
  (pe_tupRg hc hg hm (prg_1 hg2 hm2 h na2)).irw fun σ H Q h => by
  obtain ⟨l, Z, r, l', A, e, q⟩ := rP_one h
  refine ⟨l, Z, r, l', A, e, fun v H' Z' P R => ?_⟩
  obtain ⟨Z4, ts, res, zd, pk, e4, q4⟩ := q v H' Z' P R
  replace e4 : prTrng1 ts = some res := e4
  unfold prTrng1 at e4
  split at e4
  · rename_i b
    obtain ⟨c, rfl⟩ := if_some e4
    obtain ⟨c1, c2⟩ := (Bool.and_eq_true _ _).mp c
    obtain ⟨t', e6, h1⟩ := pk.one
    cases e6
    exact ⟨b, h1.int, rg_ok (by decide) c1 (by simpa using of_decide_eq_true c2), fin_tup zd q4 (rg_list 0 b)⟩
  · cases e4
theorem pE_trng2 {mb : M Op} (hc : X.calm = true) (hg : Gl X "tuple") (hm : X.mg "tuple" = none) (hg2 : Gl X "range") (hm2 : X.mg "range" = none) (na2 : starEach [e, e2] X.env = (false, eval e X.env) :: starEach [e2] X.env)
    (nb : starEach [e2] X.env = (false, eval e2 X.env) :: starEach [] X.env) (hp : (backTo p3 (starEach [e2] X.env)).any (·.1) = false)
    (h : PE X e (rO X.K mo)) (h2 : PE X e2 (rO X.K mb)) : PE X (.Call (.Name "tuple" p1) [.Call (.Name "range" p2) [e, e2] [] p3] [] pos) (rE X.K (prM .trng2 (bind mo fun o => bind (bind mb fun o => bind (ret []) fun os => ret (o :: os)) fun os => ret (o :: os)))) :=
  (pe_tupRg hc hg hm (prg_2 hg2 hm2 h h2 na2 nb hp)).irw fun σ H Q h => by
  obtain ⟨l, Z, r, l', A, e, q⟩ := rP_two h
  refine ⟨l, Z, r, l', A, e, fun v H' Z' P R => ?_⟩
  obtain ⟨l2, Z2, r2, l3, A2, e2, q2⟩ := q v H' Z' P R
  refine ⟨l2, Z2, r2, l3, A2, e2, fun w H3 Z3 P3 R3 => ?_⟩
  obtain ⟨Z4, ts, res, zd, pk, e4, q4⟩ := q2 w H3 Z3 P3 R3
  replace e4 : prTrng2 ts = some res := e4
  unfold prTrng2 at e4
  split at e4
  · rename_i a b
    obtain ⟨c, rfl⟩ := if_some e4
    obtain ⟨c1, c2⟩ := (Bool.and_eq_true _ _).mp c
    obtain ⟨c3, c4⟩ := (Bool.and_eq_true _ _).mp c1
    obtain ⟨rfl, rfl⟩ := rP2_int pk
    exact ⟨a, b, rfl, rfl, rg_ok c3 c4 (of_decide_eq_true c2), fin_tup zd q4 (rg_list a b)⟩
  · cases e4
def rgcV (a c : Int) (n : Nat) : List V := (List.range n).map fun i => V.int (a + (i : Nat) * c)
theorem vals_rgc {a c : Int} {n : Nat} {acc : Array Value} (h : ItemsOf (fun i v => ∃ t, v = .int (a + i * c) t) acc n) : Vals (rgcV a c n) acc.toList := by
  have e : acc.toList.length = n := by rw [Array.length_toList]; exact h.1
  unfold rgcV
  rw [← e]
  refine vals_of_get acc.toList (fun i => V.int (a + (i : Nat) * c)) fun j u hu => ?_
  obtain ⟨t, rfl⟩ := h.2 j u (by rw [← hu, Array.getElem?_toList])
  exact ⟨t, rfl⟩
def tTrg3 (ta tb tc : TE) : TE := fun σ H Q => ta σ H fun x H1 => tb σ H1 fun y H2 => tc σ H2 fun z H3 => ∃ (i j k : Int) (n : Nat), x = .int i ∧ y = .int j ∧ z = .int k ∧ L2.RgC i j k n ∧ n ≤ 2 ^ 24 ∧ ∀ q, H3 q = none → Q (.ref q) (upd H3 q (.tup (rgcV i k n)))
open PySem.Spec PyProof.Rows in
theorem pe_tupRg3 {a b c : Expr} {ta tb tc : TE} (hc : X.calm = true) (hg : Gl X "tuple") (hm : X.mg "tuple" = none) (hg2 : Gl X "range") (hm2 : X.mg "range" = none) (na : starEach [a, b, c] X.env = (false, eval a X.env) :: starEach [b, c] X.env)
    (nb : starEach [b, c] X.env = (false, eval b X.env) :: starEach [c] X.env) (nc : starEach [c] X.env = (false, eval c X.env) :: starEach [] X.env) (hp : (backTo p3 (starEach [b, c] X.env)).any (·.1) = false)
    (ha : PE X a ta) (hb : PE X b tb) (hcc : PE X c tc) : PE X (.Call (.Name "tuple" p1) [.Call (.Name "range" p2) [a, b, c] [] p3] [] pos) (tTrg3 ta tb tc) := by
  refine ⟨fun pins s σ H Q I h => ?_⟩
  have key : wpAny (model X.prog X.w) X.A (eval (.Call (.Name "range" p2) [a, b, c] [] p3) X.env) (fun x s' => ∃ (r : Addr) (i j k : Int) (n : Nat) (t u v : Tok) (H' : Hp), x = .ref r ∧ IsRange s'.heap r i j k t u v ∧ L2.Inv X pins σ H' s' ∧ L2.RgC i j k n ∧ n ≤ 2 ^ 24 ∧ ∀ q, H' q = none → Q (.ref q) (upd H' q (.tup (rgcV i k n)))) X.xe s := by
    refine Call_ (ld_blt I hg2 hm2 boot_range (PyProof.Rows.callWith_type1 (args_cons (thn (ha.run pins s σ H _ I h) fun v s1 ⟨x, H1, I1, r1, q1⟩ => args_cons (thn (hb.run pins s1 σ H1 _ I1 q1) fun v2 s2 ⟨y, H2, I2, r2, q2⟩ => L2.one_arg hcc I2 q2 (fun u s3 z H3 I3 r3 q3 => ?_) nc) nb) na) na hp))
    obtain ⟨i, j, k, n, rfl, rfl, rfl, ok, hn, q⟩ := q3
    obtain ⟨t, rfl⟩ := r1
    obtain ⟨t', rfl⟩ := r2
    obtain ⟨t'', rfl⟩ := r3
    exact call_range_3 ok.1 ⟨_, i, j, k, n, _, _, _, H3, rfl, IsRange.new _ _ _ _ _ _ _, I3.kept fun b u e => Heap.get?_push_of_some _ e, ok, hn, q⟩ (.inl (PyProof.noPylong_small ok.2.1))
  refine Call_ (ld_blt I hg hm boot_tuple (PyProof.Rows.callWith_type1 (args_cons (thn key fun x s1 ⟨r, i, j, k, n, t, u, v, H1, ex, hr, I1, ok, hn, q⟩ => args_nil ?_) rfl) rfl))
  subst ex
  refine L2.call_tuple_range (n := n) (I1.ok.hd hc) hr ok.2.2.1 ok.2.2.2 hn fun h' tk acc hk hi => ?_
  have I2 : L2.Inv X pins σ H1 { s1 with heap := h', toks := tk } := I1.kept hk
  refine ⟨.ref h'.objs.size, upd H1 h'.objs.size (.tup (rgcV i k n)), I2.laid (t' := tk) (fun c o e => Heap.get?_push_of_some _ e) (Nat.le_refl _) (show L2.ObjOk X.prog X.w _ _ _ (.tup (rgcV i k n)) from ⟨?_, acc.toList, vals_rgc hi, ?_⟩), rfl, q _ (I2.hok.fresh (Nat.le_refl _))⟩
  · unfold rgcV; rw [List.length_map, List.length_range, sizeLine_eq]; omega
  · rw [Array.toArray_toList]; exact IsTup.new _ _
theorem rg3_n {a b c : Int} (ha : 0 ≤ a ∧ a ≤ 1000000) (hb : 0 ≤ b ∧ b ≤ 1000000) (hc : 0 < c) : rng3N a b c ≤ 1000000 ∧ Builtin.Range.rangeSize a b c = (rng3N a b c : Int) := by
  unfold rng3N Builtin.Range.rangeSize
  rw [if_pos (show c > 0 from hc)]
  by_cases h : a < b
  · rw [if_pos h, if_pos h]
    have h1 : 0 ≤ (b - a - 1) / c := Int.ediv_nonneg (by omega) (by omega)
    have h2 : (b - a - 1) / c ≤ b - a - 1 := Int.ediv_le_self _ (by omega)
    omega
  · rw [if_neg h, if_neg h]; exact ⟨by omega, rfl⟩
theorem rgc_of {a b c : Int} (ha : 0 ≤ a ∧ a ≤ 1000000) (hb : 0 ≤ b ∧ b ≤ 1000000) (hc : 0 < c) (hc2 : c ≤ 1000000) : L2.RgC a b c (rng3N a b c) := by
  obtain ⟨h1, e⟩ := rg3_n ha hb hc
  refine ⟨by omega, by omega, ?_, e⟩
  unfold Builtin.Range.small
  rw [e]
  simp only [Builtin.Range.rangeFitsLong, Bool.and_eq_true, Bool.or_eq_true, decide_eq_true_eq, beq_iff_eq, show c > 0 from hc, if_true]
  omega
theorem rg3_list (a b c : Int) : RFs K H Z ((rng3L a b c).map T.int) (rgcV a c (rng3N a b c)) := by
  unfold rng3L rgcV
  rw [List.map_map]
  generalize List.range (rng3N a b c) = ns
  induction ns with
  | nil => exact .nil
  | cons n ns ih => exact .cons (.int _) ih
theorem pE_trng3 {mb mc : M Op} (hc : X.calm = true) (hg : Gl X "tuple") (hm : X.mg "tuple" = none) (hg2 : Gl X "range") (hm2 : X.mg "range" = none) (na : starEach [e, e2, e3] X.env = (false, eval e X.env) :: starEach [e2, e3] X.env)
    (nb : starEach [e2, e3] X.env = (false, eval e2 X.env) :: starEach [e3] X.env) (nc : starEach [e3] X.env = (false, eval e3 X.env) :: starEach [] X.env) (hp : (backTo p3 (starEach [e2, e3] X.env)).any (·.1) = false)
    (h : PE X e (rO X.K mo)) (h2 : PE X e2 (rO X.K mb)) (h3 : PE X e3 (rO X.K mc)) : PE X (.Call (.Name "tuple" p1) [.Call (.Name "range" p2) [e, e2, e3] [] p3] [] pos) (rE X.K (prM .trng3 (bind mo fun o => bind (bind mb fun o => bind (bind mc fun o => bind (ret []) fun os => ret (o :: os)) fun os => ret (o :: os)) fun os => ret (o :: os)))) :=
  (pe_tupRg3 hc hg hm hg2 hm2 na nb nc hp h h2 h3).irw fun σ H Q h => by
  obtain ⟨l, Z, r, l', A, e, q⟩ := rP_three h
  refine ⟨l, Z, r, l', A, e, fun v H' Z' P R => ?_⟩
  obtain ⟨l2, Z2, r2, l3, A2, e2, q2⟩ := q v H' Z' P R
  refine ⟨l2, Z2, r2, l3, A2, e2, fun w H3 Z3 P3 R3 => ?_⟩
  obtain ⟨l4, Z4, r4, l5, A4, e4, q4⟩ := q2 w H3 Z3 P3 R3
  refine ⟨l4, Z4, r4, l5, A4, e4, fun x H5 Z5 P5 R5 => ?_⟩
  obtain ⟨Z6, ts, res, zd, pk, e6, q6⟩ := q4 x H5 Z5 P5 R5
  replace e6 : prTrng3 ts = some res := e6
  unfold prTrng3 at e6
  split at e6
  · rename_i a b c
    obtain ⟨⟨c1, c2, c3, c4⟩, rfl⟩ := if_some e6
    cases pk with
    | cons k1 ks =>
      cases ks with
      | cons k2 ks =>
        cases ks with
        | cons k3 ks =>
          cases ks
          exact ⟨a, b, c, _, k1.int, k2.int, k3.int, rgc_of c1 c2 c3 c4, Nat.le_trans (rg3_n c1 c2 c3).1 (by decide), fin_tup zd q6 (rg3_list a b c)⟩
  · cases e6
end
end Ir

set_option Elab.async false
set_option linter.all false
set_option maxRecDepth 20000
/-! x[::-1] of tuples and texts -/
namespace HT
open PySem PySem.Spec PyProof.Rows
section
variable {prog : Program} {w : World} {A : Around} {E : Value → Shared → Prop} {s : Shared}
theorem adjust_back (n : Nat) : Builtin.Slice.sliceAdjust none none (-1) (n : Int) = ((n : Int) - 1, -1) := by
  unfold Builtin.Slice.sliceAdjust
  simp
theorem places_back (n : Nat) : Builtin.Slice.slicePlaces ((n : Int) - 1) (-1) (-1) = n := by
  unfold Builtin.Slice.slicePlaces
  simp
  split <;> omega
theorem applied_back {sl : Addr} {vk : Value} {n : Nat} {Q : Int × Int × Nat → Shared → Prop} (hs : s.heap.IsSliceOf sl .none .none vk) (pk : IsPart vk (some (-1)))
    (h : Q ((n : Int) - 1, -1, n) s) : wpAny (model prog w) A (Builtin.Slice.sliceApplied (.ref sl) (pure (n : Int))) Q E s := by
  obtain ⟨os, hos, hcs, hds⟩ := id hs
  unfold Builtin.Slice.sliceApplied Builtin.Slice.sliceFields
  refine wpAny_bind (wpAny_bind (wpAny_field hos hds (x := .none) rfl (wpAny_bind (wpAny_field hos hds (x := .none) rfl (wpAny_bind (wpAny_field hos hds (x := vk) rfl (wpAny_pure ?_)))))))
  refine wpAny_bind (slicePart_ pk ?_)
  show wpAny _ _ (if ((-1 : Int) == 0) = true then _ else _) _ _ s
  rw [if_neg (by decide)]
  refine wpAny_bind (slicePart_none (wpAny_bind (slicePart_none (wpAny_bind (wpAny_pure ?_)))))
  show wpAny _ _ (match Builtin.Slice.sliceAdjust none none (-1) (n : Int) with | (lo, hi) => pure (lo, (-1 : Int), Builtin.Slice.slicePlaces lo hi (-1))) _ _ s
  rw [adjust_back]
  show wpAny _ _ (pure ((n : Int) - 1, (-1 : Int), Builtin.Slice.slicePlaces ((n : Int) - 1) (-1) (-1))) _ _ s
  rw [places_back]
  exact wpAny_pure h
theorem pick_back (xs : Array Value) : ((List.range xs.size).filterMap fun (m : Nat) => xs[((xs.size : Int) - 1 + (m : Int) * (-1)).toNat]?).toArray = xs.toList.reverse.toArray := by
  have e1 : (List.range xs.size).map (fun (m : Nat) => ((xs.size : Int) - 1 + (m : Int) * (-1)).toNat) = (List.range xs.size).map fun k => xs.size - 1 - k := by
    apply List.map_congr_left
    intro k hk
    have := List.mem_range.mp hk
    omega
  have e2 : (List.range xs.size).filterMap (fun (m : Nat) => xs[((xs.size : Int) - 1 + (m : Int) * (-1)).toNat]?) = ((List.range xs.size).map (fun (m : Nat) => ((xs.size : Int) - 1 + (m : Int) * (-1)).toNat)).filterMap (xs[·]?) := by
    rw [List.filterMap_map]; rfl
  rw [e2, e1, PySem.W.krv_range, List.filterMap_reverse, PySem.W.krv_all]
theorem getItem_tuple_back {t sl : Addr} {items : Array Value} {vk : Value} {Q : Value → Shared → Prop} (ht : IsTup s.heap t items) (hs : s.heap.IsSliceOf sl .none .none vk) (pk : IsPart vk (some (-1)))
    (h : Q (.ref s.heap.objs.size) { s with heap := s.heap.push { cls := .type "tuple", data := .seq items.toList.reverse.toArray } })
    (hsz : items.size ≤ sizeLine) : wpAny (model prog w) A (getItem (.ref t) (.ref sl)) Q E s := by
  have htake : sizeOk (.seq items.toList.reverse.toArray) := by
    show items.toList.reverse.toArray.size ≤ sizeLine
    rw [List.size_toArray, List.length_reverse, Array.length_toList]
    exact hsz
  obtain ⟨os, hos, hcs, hds⟩ := id hs
  have hTs : s.TypeIs (.ref sl) "slice" := ⟨os, hos, hcs⟩
  unfold getItem
  try with_reducible refine wpAny_holding ?_
  first | refine wpAny_bind (wpAny_pure ?_) | skip
  refine wpAny_bind (wpAny_sequenceKey ht.typeIs (by decide) ?_)
  refine wpAny_bind (wpAny_callSpecial?_slot (name := Str.ofString "__getitem__") ht.typeIs PyProof.Rows.slot_tuple_getitem
    (wpAny_call_entry PyProof.Rows.slot_tuple_getitem ht.typeIs entry_tuple_getitem ?_ (args_tuple_getitem _ _)))
  show wpAny _ _ (Builtin.Tuple.tupleItemsOf (.ref t) >>= _) _ _ s
  refine wpAny_bind (tupleItemsOf_ ht ?_)
  refine wpAny_bind (wpAny_typeOf hTs ?_)
  rw [if_pos (by decide)]
  refine wpAny_bind (applied_back hs pk ?_)
  have hno : ¬ ((((items.size : Int) - 1) == 0 && (-1 : Int) == 1 && items.size == items.size) = true) := by
    intro q
    simp at q
  show wpAny _ _ (if (((items.size : Int) - 1) == 0 && (-1 : Int) == 1 && items.size == items.size) = true then _ else _) _ _ s
  rw [if_neg hno, pick_back]
  first
    | exact wpAny_bind (m := Builtin.Tuple.tupleExact _) (wpAny_newObj_type (wpAny_pure ⟨_, rfl, wpAny_pure h⟩) htake)
    | exact wpAny_bind (m := Builtin.Tuple.tupleExact _) (wpAny_newObj_type (wpAny_bind (wpAny_pure (wpAny_pure ⟨_, rfl, wpAny_pure h⟩))) htake)
    | exact wpAny_bind (wpAny_bind (m := Builtin.Tuple.tupleExact _) (wpAny_newObj_type (wpAny_pure (wpAny_pure ⟨_, rfl, wpAny_pure h⟩)) htake))
    | exact wpAny_bind (wpAny_bind (m := Builtin.Tuple.tupleExact _) (wpAny_newObj_type (wpAny_pure ⟨_, rfl, wpAny_pure h⟩) htake))
end
end HT

namespace Ir
open PySem PySem.Spec L2 PyProof.Rows
section
variable {X : L2.Cx} {K : PySem.W.Frag} {H H0 H' H1 H2 : Hp} {Z Z0 Z' Z1 Z2 : Addr → Prop} {t : T} {ts xs fin : List T} {v x y : V} {vs : List V} {a b : Addr} {Q : VK} {p : Pr} {res : Vl} {e e2 e3 : Expr} {es : List Expr} {pos p1 p2 p3 p4 : Pos} {σ : L2.St} {m n : M Vl} {mo : M Op} {l l1 l2 l' : Loc}
theorem str_back (z : Str) : ((Builtin.Str.strSliceIndices none none (-1) z.length).filterMap (z.cps[·]?)) = z.cps.toList.reverse := by
  have e : Builtin.Str.strSliceIndices none none (-1) z.length = sliceRange ((z.length : Int) - 1) (-1) (-1) := by
    unfold Builtin.Str.strSliceIndices
    simp
  rw [e, PySem.W.krv_sliceRange, PySem.W.krv_range, List.filterMap_reverse]
  exact congrArg List.reverse (PySem.W.krv_all z.cps)
/-- a value turned round -/
theorem get_back {pins : List (Addr × Obj)} {s : Shared} {v vk : Value} {sl : Addr} (I : L2.Inv X pins σ H s) (rx : RelV x v) (hs : s.heap.IsSliceOf sl .none .none vk) (pk : IsPart vk (some (-1)))
    (zd : ∀ b, Z b → H b ≠ none) (k : PK X.K H Z t x) (e : prRev [t] = some res) (q : Fin X.K H Z res Q) :
    ∃ T id, typeLookup (.type T) "__getitem__" = pure (some (.builtin id)) ∧ s.TypeIs v T ∧ PySem.wpAny (PySem.model X.prog X.w) X.A (getItem v (.ref sl)) (EP X pins σ Q) X.xe s := by
  unfold prRev at e
  split at e
  · rename_i xs h
    cases h
    cases e
    obtain ⟨a, vs, rfl, k1, k2⟩ := k.lst
    cases rx
    obtain ⟨its, r, ht, hz⟩ := I.list k1.sq
    have hlen := r.length
    refine ⟨"list", _, PySem.slot_list_getitem.lookup, ht.isList.typeIs, ?_⟩
    refine wpAny_getItem_list_slice ht.isList hs .none .none pk (by decide) ?_ (by rw [List.size_toArray]; omega)
    rw [PySem.W.krv_pick]
    refine ⟨.ref _, _, I.laid (t' := s.toks) (o := .lst vs.reverse) (fun b ob q => Heap.get?_push_of_some _ q) (Nat.le_refl _) ?_, rfl, fin_lst zd q k2.reverse _ (I.hok.fresh (Nat.le_refl _))⟩
    exact ⟨by rw [List.length_reverse]; exact hz, _, 0, r.reverse, Heap.get?_push_size _ rfl⟩
  · rename_i xs h
    cases h
    cases e
    obtain ⟨a, vs, rfl, k1, k2⟩ := k.tup
    cases rx
    obtain ⟨its, r, ht, hz⟩ := I.tuple k1
    have hlen := r.length
    refine ⟨"tuple", _, PyProof.Rows.slot_tuple_getitem.lookup, ht.typeIs, ?_⟩
    refine HT.getItem_tuple_back ht hs pk ?_ (by rw [List.size_toArray]; omega)
    refine ⟨.ref s.heap.objs.size, _, I.laid (t' := s.toks) (o := .tup vs.reverse) (fun b ob q => Heap.get?_push_of_some _ q) (Nat.le_refl _) ?_, rfl, fin_tup zd q k2.reverse _ (I.hok.fresh (Nat.le_refl _))⟩
    exact ⟨by rw [List.length_reverse]; exact hz, _, r.reverse, IsTup.new _ _⟩
  · rename_i xs h
    cases h
    obtain ⟨c, rfl⟩ := if_some e
    obtain ⟨z, rfl, k1⟩ := k.str
    obtain ⟨t, rfl⟩ := rx
    obtain ⟨os, hos, hcs, hds⟩ := hs
    obtain ⟨u, rfl, hu⟩ := IsPart.raw pk
    cases u with
    | none => cases hu
    | some u =>
      obtain ⟨ui, ut⟩ := u
      cases hu
      refine ⟨"str", _, F.slot_str_getitem.lookup, typeIs_str _ _ _, ?_⟩
      refine wpAny_getItem_str_slice (l := none) (u := none) (st := some (Int.negSucc 0, ut)) ⟨os, hos, hcs, hds⟩ rfl ?_
      have hq := fin_str (z := ⟨z.cps.toList.reverse.toArray⟩) zd q (by rw [← k1])
      have hb := str_back z
      show Made.post (if ((-1 : Int) == 1 && (Builtin.Str.strSliceIndices none none (-1) z.length).length == z.length) = true then Made.val (.str z t)
        else Made.str ⟨((Builtin.Str.strSliceIndices none none (-1) z.length).filterMap (z.cps[·]?)).toArray⟩) (EP X pins σ Q) s
      rw [if_neg (by simp), hb]
      refine ⟨?_, .str _, H, I.tok _, ⟨_, rfl⟩, hq⟩
      show (z.cps.toList.reverse.toArray).size ≤ sizeLine
      rw [List.size_toArray, List.length_reverse, k1]
      exact c
  · cases e
/-- x[::-1] by a reading of x -/
def rBack (K : PySem.W.Frag) : V → Hp → VK → Prop := fun x H Q => ∃ Z t res, (∀ b, Z b → H b ≠ none) ∧ PK K H Z t x ∧ prRev [t] = some res ∧ Fin K H Z res Q
theorem pe_back {te : TE} {kn : Nat} (he : PE X e te) : PE X (.Subscript e (.Slice none none (some (.UnaryOp .USub (.Constant (.int 1) kn p1) p2)) p3) pos) (fun σ H Q => te σ H fun x H1 => rBack X.K x H1 Q) := by
  refine ⟨fun pins s σ H Q I h => ?_⟩
  refine Subscript_ (thn (he.run pins s σ H _ I h) fun v s1 ⟨x, H1, I1, r1, q1⟩ => ?_)
  obtain ⟨Z, t, res, zd, k, er, q⟩ := q1
  have hst : PO X (some (.UnaryOp .USub (.Constant (.int 1) kn p1) p2)) (tPart (tUn (rU fun i => .int (-i)) (tC (.int 1)))) := po_some (pe_un un_neg pe_int)
  refine wpAny_Slice (thn (po_none.run pins s1 σ H1 (fun o H2 => o = none ∧ H2 = H1) I1 ⟨rfl, rfl⟩) fun vl s2 ⟨l, H2, I2, pl, el, e2⟩ => ?_)
  subst el e2
  refine thn (po_none.run pins s2 σ H2 (fun o H3 => o = none ∧ H3 = H2) I2 ⟨rfl, rfl⟩) fun vu s3 ⟨u, H3, I3, pu, eu, e3⟩ => ?_
  subst eu e3
  refine thn (hst.run pins s3 σ H3 (fun o H4 => o = some (-1) ∧ H4 = H3) I3 ⟨1, rfl, -1, rfl, rfl, rfl⟩) fun vs s4 ⟨o, H4, I4, ps, eo, e4⟩ => ?_
  subst eo e4
  cases pl
  cases pu
  have I5 : Inv X pins σ H4 { s4 with heap := s4.heap.push { cls := .type "slice", data := .fields #[.none, .none, vs] } } := I4.kept (t' := s4.toks) fun b ob q => Heap.get?_push_of_some _ q
  obtain ⟨T, id, hT, ht, hg⟩ := get_back (s := { s4 with heap := s4.heap.push { cls := .type "slice", data := .fields #[.none, .none, vs] } }) I5 r1 (Heap.IsSliceOf.new ..) ps zd k er q
  show wpAny (model X.prog X.w) X.A (subscriptTail e (.Slice none none (some (.UnaryOp .USub (.Constant (.int 1) kn p1) p2)) p3) v (.ref s4.heap.objs.size)) (EP X pins σ Q) X.xe { s4 with heap := s4.heap.push { cls := .type "slice", data := .fields #[.none, .none, vs] } }
  exact tail_any (ops := [v, .ref s4.heap.objs.size]) ht hT hg (by with_unfolding_all rfl)
theorem pE_rev {kn : Nat} (h : PE X e (rO X.K mo)) : PE X (.Subscript e (.Slice none none (some (.UnaryOp .USub (.Constant (.int 1) kn p1) p2)) p3) pos) (rE X.K (prM .rev (bind mo fun o => bind (ret []) fun os => ret (o :: os)))) :=
  (pe_back h).irw fun σ H Q h => by
  obtain ⟨l, Z, r, l', A, e, q⟩ := rP_one h
  refine ⟨l, Z, r, l', A, e, fun v H' Z' P R => ?_⟩
  obtain ⟨Z4, ts, res, zd, pk, e4, q4⟩ := q v H' Z' P R
  have e5 : prRev ts = some res := e4
  have h1 : ∃ t, ts = [t] := by
    unfold prRev at e5
    split at e5
    · exact ⟨_, rfl⟩
    · exact ⟨_, rfl⟩
    · exact ⟨_, rfl⟩
    · cases e5
  obtain ⟨t, rfl⟩ := h1
  obtain ⟨t', e6, h1⟩ := pk.one
  cases e6
  exact ⟨Z4, t, res, zd, h1, e5, q4⟩
end
end Ir

set_option Elab.async false
set_option linter.all false
set_option maxRecDepth 20000
namespace Ir
open PySem L2
/-! ### sorted: of a tuple's ints, of pairs -/
section
open PyProof.Rows
variable {prog : Program} {w : World} {A : Around} {E : Value → Shared → Prop} {s : Shared}
/-- what list(t) lays, t a tuple -/
theorem lay_tup {a : Addr} {us : List Value} {Q : List Value → Shared → Prop} (ht : s.heap.IsTuple a us.toArray) (hz : us.length ≤ sizeLine)
    (q : Q us { s with heap := (s.heap.push (seqObj "list" #[] 0)).update s.heap.objs.size (Obj.mapSeq (· ++ us.toArray)) }) : wpAny (model prog w) A (collect (.ref a)) Q E s := by
  have ⟨ob, g1, g2, m, g3⟩ := ht
  have g4 : (s.heap.push (seqObj "list" #[] 0)).get? a = some ob := Heap.get?_push_of_some _ g1
  have g5 : (s.heap.push (seqObj "list" #[] 0)).get? s.heap.objs.size = some (seqObj "list" #[] 0) := Heap.get?_push_size _ rfl
  unfold collect
  refine wpAny_bind (wpAny_runValue (codeAny_builtin entry_proto_collect' (wpAny_bind (wpAny_newList (wpAny_pure ⟨Code.quiet_builtin _ (by decide +kernel), codeAny_builtin entry_list_iadd' ?_⟩)))))
  show wpAny _ _ (Builtin.List.listExtendWith (.ref s.heap.objs.size) (.ref a) (.ref s.heap.objs.size)) _ _ { s with heap := s.heap.push (seqObj "list" #[] 0) }
  unfold Builtin.List.listExtendWith
  refine wpAny_bind (wpAny_typeOf (T := "tuple") ⟨ob, g4, g2⟩ ?_)
  rw [if_pos (by rw [show (Value.type "tuple" == Value.type "tuple") = true by rfl]; simp)]
  refine wpAny_bind (listItems_at g4 g3 (wpAny_bind (listItems_at g5 rfl ?_)))
  rw [if_neg (by simp)]
  have z : (#[] ++ us.toArray : Array Value).size ≤ sizeLine + 1 := by simp only [Array.size_append, List.size_toArray, List.length_nil]; omega
  refine wpAny_bind (listUpdate_at g5 rfl (wpAny_pure ?_) (Nat.zero_le _) z)
  refine wpAny_bind (m := load s.heap.objs.size) (wpAny_load (get?_update_seq g5 _) ?_)
  have e : ((#[] : Array Value) ++ us.toArray).toList = us := by simp
  show wpAny _ _ (pure ((#[] : Array Value) ++ us.toArray).toList) Q E _
  rw [e]
  exact wpAny_pure q
open SrtO in
/-- sorted(t), t a tuple -/
theorem sorted_tup {a : Addr} {us : List Value} {lt : Value → Value → Bool} {Q : Value → Shared → Prop} (O : Swo lt) (ht : s.heap.IsTuple a us.toArray) (hz : us.length ≤ sizeLine)
    (hS : 2 ≤ us.length → ∀ (h1 : Heap) (p : Addr), SortableO prog w A.in1.in1 { s with heap := h1 } p us lt)
    (q : ∀ out : List Value, Srtd lt out → Stb lt out us → Q (.ref (s.heap.objs.size + 1)) { s with heap := sortedAll s.heap us out.toArray }) : wpAny (model prog w) A (call (.builtin "sorted") [.ref a]) Q E s := by
  refine Calls.call_function_entry kind_sorted plain_sorted entry_sorted (args_sorted1 _) ?_
  unfold Builtin.«sorted»
  refine wpAny_bind (m := checkCount "sorted" 1 1 _) (wpAny_pure (wpAny_bind (lay_tup ht hz (wpAny_bind (wpAny_newList ?_ hz)))))
  have sz : ((s.heap.push (seqObj "list" #[] 0)).update s.heap.objs.size (Obj.mapSeq (· ++ us.toArray))).objs.size = s.heap.objs.size + 1 := by rw [Heap.size_update, size_push']
  have at1 : (((s.heap.push (seqObj "list" #[] 0)).update s.heap.objs.size (Obj.mapSeq (· ++ us.toArray))).push (seqObj "list" us.toArray 0)).get? (s.heap.objs.size + 1) = some (seqObj "list" us.toArray 0) := by
    have := Heap.get?_push_size ((s.heap.push (seqObj "list" #[] 0)).update s.heap.objs.size (Obj.mapSeq (· ++ us.toArray))) (o := seqObj "list" us.toArray 0) rfl
    rwa [sz] at this
  show wpAny _ _ _ _ _ { s with heap := ((s.heap.push (seqObj "list" #[] 0)).update s.heap.objs.size (Obj.mapSeq (· ++ us.toArray))).push (seqObj "list" us.toArray 0) }
  rw [sz]
  refine wpAny_bind (wpAny_holding (wpAny_call_entry slot_list_sort ⟨_, at1, rfl⟩ entry_list_sort ?_ (args_list_sort _)))
  exact list_sort_ord O at1 hz (fun h2 => hS h2 _ _) fun out k1 k2 => ⟨_, rfl, wpAny_pure ⟨_, rfl, q out k1 k2⟩⟩
end
section
variable {X : L2.Cx} {K : PySem.W.Frag} {H H0 H' H1 H2 : Hp} {Z Z0 Z' Z1 Z2 : Addr → Prop} {t : T} {ts xs fin : List T} {v x y : V} {vs : List V} {a b : Addr} {Q : VK} {p : Pr} {res : Vl}
def rSortedTI (K : PySem.W.Frag) : List V → Hp → VK → Prop := fun vs H Q => ∃ (a : Addr) (ns : List Int), vs = [V.ref a] ∧ SqT K H a (ns.map V.int) ∧
  ∀ (ms : List Int) (p : Addr), ms.Perm ns → ms.Pairwise (· ≤ ·) → H p = none → Q (.ref p) (upd H p (.lst (ms.map V.int)))
theorem cr_sortedTI : L2.CallR X (.builtin "sorted") (rSortedTI X.K) := by
  intro pins s σ H vs us Q I r ⟨a, ns, e, hs, q⟩
  subst e
  obtain ⟨its, rv, ht, hz⟩ := I.tuple hs
  have hi := rv.ints
  rw [Vals.ref1 r]
  refine sorted_tup SrtO.swo_int ht (by rw [← rv.length]; exact hz) (fun h2 h1 p => SrtO.ints_sortable hi h2) fun out k1 k2 => ?_
  obtain ⟨g1, g2, g3⟩ := SrtO.ints_out hi k1 k2
  obtain ⟨ep, g4⟩ := PyProof.Rows.sortedAll_at s.heap its out.toArray
  have hl : ((out.map SrtO.iv).map V.int).length ≤ sizeLine := by
    rw [List.length_map] at hz ⊢
    rw [g2.length_eq]
    exact hz
  have J := I.laid (t' := s.toks) (fun _ _ => PyProof.Rows.sortedAll_old) (Nat.le_succ _) (o := .lst ((out.map SrtO.iv).map V.int)) ⟨hl, out, ep, vals_of_ints g1, g4⟩
  exact ⟨.ref _, _, J, rfl, q _ _ g2 g3 (I.hok.fresh (Nat.le_succ _))⟩
/-- sorted(xs), pairs of ints -/
def rSortedQ (K : PySem.W.Frag) : List V → Hp → VK → Prop := fun vs H Q => ∃ (a : Addr) (L : List (Addr × Int × Int)), vs = [V.ref a] ∧ SqL K H a (L.map fun q => V.ref q.1) ∧ (∀ q ∈ L, SqT K H q.1 [.int q.2.1, .int q.2.2]) ∧
  ∀ (M : List (Addr × Int × Int)) (p : Addr), M.Perm L → M.Pairwise (fun x y => leP x.2 y.2 = true) → H p = none → Q (.ref p) (upd H p (.lst (M.map fun q => V.ref q.1)))
/-- the two ints of a pair that lies in the heap -/
def pairIn (h : Heap) (u : Value) : Int × Int := match u with
  | .ref a => match h.get? a with
    | some o => match o.data with
      | .seq xs _ => match xs.toList with
        | [.int i _, .int j _] => (i, j)
        | _ => (0, 0)
      | _ => (0, 0)
    | none => (0, 0)
  | _ => (0, 0)
def adr : Value → Addr
  | .ref a => a
  | _ => 0
theorem refs_vals : ∀ {as : List Addr} {us : List Value}, Vals (as.map V.ref) us → us = as.map Value.ref
  | [], _, .nil => rfl
  | a :: as, _, .cons r t => by
    cases r
    rw [refs_vals t]
    rfl
theorem cr_sortedQ : L2.CallR X (.builtin "sorted") (rSortedQ X.K) := by
  intro pins s σ H vs us Q I r ⟨a, L, e, hs, hx, q⟩
  subst e
  obtain ⟨its, rv, hl, hz⟩ := I.list hs
  rw [Vals.ref1 r]
  rw [show (L.map fun q => V.ref q.1) = (L.map (·.1)).map V.ref by rw [List.map_map]; rfl] at rv
  have e1 := refs_vals rv
  have key : ∀ x ∈ L, (∃ (o : Obj) (t1 t2 : Tok) (n : Nat), s.heap.get? x.1 = some o ∧ o.cls = .type "tuple" ∧ o.data = .seq #[.int x.2.1 t1, .int x.2.2 t2] n) ∧ pairIn s.heap (.ref x.1) = x.2 := fun x m => by
    obtain ⟨its2, r2, ⟨o, ho, hc, n, hd⟩, _⟩ := I.tuple (hx x m)
    obtain ⟨u1, u2, rfl, ⟨t1, rfl⟩, ⟨t2, rfl⟩⟩ := vals2 r2
    refine ⟨⟨o, t1, t2, n, ho, hc, hd⟩, ?_⟩
    simp only [pairIn, ho, hd]
  have eL : (its.map fun u => (adr u, pairIn s.heap u)) = L := by
    rw [e1, List.map_map, List.map_map]
    conv => rhs; rw [← List.map_id L]
    refine List.map_congr_left fun x m => ?_
    show (x.1, pairIn s.heap (.ref x.1)) = x
    rw [(key x m).2]
  refine SrtO.sorted_pairsO (k := pairIn s.heap) hl.isList (by rw [e1]; rw [List.length_map] at hz; simpa using hz) (fun v hv => ?_) fun h' d out g1 g2 kp hd hx3 => ?_
  · rw [e1, List.map_map] at hv
    obtain ⟨x, m, rfl⟩ := List.mem_map.mp hv
    obtain ⟨⟨o, t1, t2, n, h1, h2, h3⟩, h4⟩ := key x m
    refine ⟨x.1, o, t1, t2, n, rfl, h1, h2, ?_⟩
    show o.data = .seq #[.int (pairIn s.heap (.ref x.1)).1 t1, .int (pairIn s.heap (.ref x.1)).2 t2] n
    rw [h4, h3]
  · obtain ⟨n, hn⟩ := hx3
    have g3 : ∀ u ∈ out, ∃ a, u = Value.ref a := fun u hu => by
      have := g2.perm.mem_iff.mp hu
      rw [e1] at this
      obtain ⟨a, _, rfl⟩ := List.mem_map.mp this
      exact ⟨a, rfl⟩
    have pm := g2.perm.map fun u => (adr u, pairIn s.heap u)
    rw [eL] at pm
    have vo : Vals ((out.map fun u => (adr u, pairIn s.heap u)).map fun q => V.ref q.1) out := by
      rw [List.map_map]
      clear g1 g2 pm hn
      induction out with
      | nil => exact .nil
      | cons u out ih =>
        obtain ⟨b, rfl⟩ := g3 u List.mem_cons_self
        exact .cons rfl (ih fun v hv => g3 v (List.mem_cons_of_mem _ hv))
    have J := I.laid (t' := s.toks) kp hd (o := .lst ((out.map fun u => (adr u, pairIn s.heap u)).map fun q => V.ref q.1)) ⟨by rw [List.length_map, pm.length_eq]; rw [List.length_map] at hz; exact hz, out, n, vo, hn⟩
    refine ⟨.ref d, _, J, rfl, q _ d pm (List.pairwise_map.mpr (g1.imp fun {x y} h => ?_)) (I.hok.fresh hd)⟩
    have h := SrtO.lexB_no.mp h
    show leP (pairIn s.heap x) (pairIn s.heap y) = true
    unfold leP
    simp only [Bool.or_eq_true, Bool.and_eq_true, decide_eq_true_eq]
    omega
theorem prs_of : ∀ {ts : List T} {ps : List (Int × Int)}, T.prs ts = some ps → ts = ps.map prT
  | [], ps, e => by cases e; rfl
  | t :: r, ps, e => by
    unfold T.prs at e
    split at e
    · rename_i h; cases h
    · rename_i i j r' h
      cases h
      split at e
      · rename_i qs h
        cases e
        rw [prs_of h]
        rfl
      · cases e
    · cases e
theorem RFs.prs {ps : List (Int × Int)} (h : RFs K H Z (ps.map prT) vs) : ∃ L : List (Addr × Int × Int), vs = L.map (fun q => V.ref q.1) ∧ L.map (·.2) = ps ∧ ∀ q ∈ L, SqT K H q.1 [.int q.2.1, .int q.2.2] := by
  induction ps generalizing vs with
  | nil => cases h; exact ⟨[], rfl, rfl, fun q h => by cases h⟩
  | cons p ps ih =>
    cases h with
    | cons r rs =>
      obtain ⟨L, rfl, e, g⟩ := ih rs
      cases r with
      | tup h1 h2 =>
        rename_i a ws
        have : ws = [.int p.1, .int p.2] := by
          cases h2 with
          | cons a1 a2 =>
            cases a2 with
            | cons b1 b2 =>
              cases b2
              cases a1
              cases b1
              rfl
        subst this
        refine ⟨(a, p) :: L, rfl, by simp [e], fun q hq => ?_⟩
        rcases List.mem_cons.mp hq with rfl | hq
        · exact h1
        · exact g q hq
theorem RFs.ofPrs : ∀ {L : List (Addr × Int × Int)}, (∀ q ∈ L, SqT K H q.1 [.int q.2.1, .int q.2.2]) → RFs K H Z ((L.map (·.2)).map prT) (L.map fun q => V.ref q.1)
  | [], _ => .nil
  | q :: L, h => .cons (.tup (h q List.mem_cons_self) (.cons (.int _) (.cons (.int _) .nil))) (RFs.ofPrs fun x hx => h x (List.mem_cons_of_mem _ hx))
theorem leP_trans (a b c : Int × Int) : leP a b = true → leP b c = true → leP a c = true := by
  unfold leP; simp only [Bool.or_eq_true, Bool.and_eq_true, decide_eq_true_eq]; omega
theorem leP_total (a b : Int × Int) : (leP a b || leP b a) = true := by
  unfold leP; simp only [Bool.or_eq_true, Bool.and_eq_true, decide_eq_true_eq]; omega
theorem leP_anti (a b : Int × Int) : leP a b = true → leP b a = true → a = b := by
  unfold leP; simp only [Bool.or_eq_true, Bool.and_eq_true, decide_eq_true_eq]
  intro h1 h2
  exact Prod.ext (by omega) (by omega)
theorem c_min3 (hc : X.calm = true) : CR X (.builtin "min") .min3 := by
  intro pins s σ H vs us Q I rs ⟨Z, ts, res, zd, pk, e, q⟩
  replace e : prMin3 ts = some res := e
  unfold prMin3 at e
  split at e
  · rename_i i j k
    cases some_res e
    cases pk with
    | cons h1 pk =>
      cases pk with
      | cons h2 pk =>
        cases pk with
        | cons h3 pk =>
          cases pk
          obtain rfl := h1.int
          obtain rfl := h2.int
          obtain rfl := h3.int
          refine call_min3Nu hc pins s σ H _ us Q I rs ⟨.int i, .int j, .int k, _, rfl, ?_, fin_int zd q⟩
          simp only [nuMin3, nuMin2, nuLt, nuCB, Option.map_some, Option.bind_some, decide_eq_true_eq]
          by_cases c1 : j < i
          · simp only [c1, if_true]
            by_cases c2 : k < j <;> simp [c2]
          · simp only [c1, if_false]
            by_cases c2 : k < i <;> simp [c2]
  · cases e
end
end Ir

set_option Elab.async false
set_option linter.all false
set_option maxRecDepth 100000
set_option maxHeartbeats 4000000
namespace Ir
open PySem L2 PyProof.Rows
section
theorem mem_insU {z k : Int} : ∀ {r : List Int}, k ∈ insU z r ↔ k = z ∨ k ∈ r
  | [] => by simp [insU]
  | y :: r => by
    unfold insU
    split
    · simp
    · split
      · rename_i h; subst h; simp
      · rw [List.mem_cons, mem_insU, List.mem_cons]; grind
theorem srt_insU {z : Int} : ∀ {r : List Int}, r.Pairwise (· < ·) → (insU z r).Pairwise (· < ·)
  | [], _ => by simp [insU]
  | y :: r, h => by
    obtain ⟨h1, h2⟩ := List.pairwise_cons.mp h
    unfold insU
    split
    · rename_i c
      refine List.pairwise_cons.mpr ⟨fun k hk => ?_, h⟩
      rcases List.mem_cons.mp hk with rfl | hk
      · exact c
      · exact Int.lt_trans c (h1 k hk)
    · split
      · exact h
      · refine List.pairwise_cons.mpr ⟨fun k hk => ?_, srt_insU h2⟩
        rcases mem_insU.mp hk with rfl | hk
        · omega
        · exact h1 k hk
theorem mem_srtU {k : Int} : ∀ {is : List Int}, k ∈ srtU is ↔ k ∈ is
  | [] => Iff.rfl
  | z :: r => by
    show k ∈ insU z (srtU r) ↔ _
    rw [mem_insU, mem_srtU, List.mem_cons]
theorem srt_srtU : ∀ {is : List Int}, (srtU is).Pairwise (· < ·)
  | [] => List.Pairwise.nil
  | z :: r => srt_insU srt_srtU
end
/-- a set of some of the ints has no more members than there are different ints -/
theorem setR_few {w : World} {h : Heap} {a : Addr} {S : Int → Bool} {ns : List Int} {c : Nat} (R : SetR w h a S c) (hS : ∀ j, S j = true → j ∈ ns) : c ≤ (srtU ns).length := by
  obtain ⟨o, es, ep, t, ho, ex, dt, good, nod, mem, small, fits, sz, rises, led⟩ := R
  have p : (es.toList.map keyOf).Perm ((srtU ns).filter fun k => decide (k ∈ es.toList.map keyOf)) := by
    refine (List.perm_ext_iff_of_nodup nod ((srt_srtU.imp fun {a b} h => Int.ne_of_lt h).filter _)).mpr fun k => ?_
    rw [List.mem_filter, decide_eq_true_eq, mem_srtU]
    exact ⟨fun h => ⟨hS k ((mem k).mpr h), h⟩, fun h => h.2⟩
  have := p.length_eq
  rw [List.length_map, Array.length_toList, sz] at this
  rw [this]
  exact List.length_filter_le _ _
section
variable {P : Program} {w : World} {A : Around} {E : Value → Shared → Prop} {s : Shared}
/-- the update loop over ints of which few are different -/
theorem set_update_few {I : Addr} {fp wr : List Addr} {G : Array GenState → Array GenState → Prop} {n : Nat} {Pv : Nat → Value → Prop} {St : Nat → Shared → Prop} {R : Result → Shared → Prop}
    (W : WalksS P w A.in1 I fp wr G n Pv St) (S : Addr) (out : S ∉ fp) (ns : List Int) (hn : n = ns.length) (hb : (srtU ns).length + 1 < scanBound) (val : ∀ i v, Pv i v → ∃ k t, ns[i]? = some k ∧ v = .int k t)
    (k : Nat) : ∀ (i : Nat) (s : Shared), n - i = k → i ≤ n → St i s → (∃ c, SetR w s.heap S (fun j => decide (j ∈ ns.take i)) c) →
      (∀ s' c, Moved (S :: wr) G s s' → SetR w s'.heap S (fun j => decide (j ∈ ns)) c → R (.ok (.ret .none)) s') →
      codeAny (model P w) A (.builtin "set.update.loop" ⟨[.ref S, .ref I], []⟩) R s := by
  have nw : S ∉ wr := fun h => out (W.sub _ h)
  have up : ∀ b ∈ wr, b ∈ S :: wr := fun b hb => List.mem_cons_of_mem _ hb
  induction k with
  | zero =>
    intro i s e1 e2 st ⟨c, r⟩ q
    obtain rfl : i = n := by omega
    rw [List.take_of_length_le (by omega)] at r
    refine codeAny_builtin F.entry_set_update_loop ?_
    rw [Around.under_plainId F.plain_set_update_loop _]
    show wpAny _ A.in1 (pyNext (.ref I) >>= _) _ _ s
    refine wpAny_bind (W.done s _ _ st fun s' m => ?_)
    exact wpAny_pure (q s' c (m.mono up) (r.at fun o e => m.heap S o nw e))
  | succ k ih =>
    intro i s e1 e2 st ⟨c, r⟩ q
    have lt : i < n := by omega
    refine codeAny_builtin F.entry_set_update_loop ?_
    rw [Around.under_plainId F.plain_set_update_loop _]
    show wpAny _ A.in1 (pyNext (.ref I) >>= _) _ _ s
    refine wpAny_bind (W.item i s _ _ lt st fun v s' pv st' m => ?_)
    obtain ⟨z, t, hz, rfl⟩ := val i v pv
    have r' : SetR w s'.heap S (fun j => decide (j ∈ ns.take i)) c := r.at fun o e => m.heap S o nw e
    have few := setR_few r' (ns := ns) fun j h => List.mem_of_mem_take (of_decide_eq_true h)
    show wpAny _ A.in1 (holding [Value.int z t] (setAdd S (.int z t)) >>= _) _ _ s'
    refine wpAny_bind (wpAny_holding ?_)
    unfold setAdd
    refine wpAny_holding (wpAny_bind ((intKind P w).pyHash (k := z) (intKind_is _ _ _ _) ?_))
    refine setR_add_hashed (s := { s' with toks := s'.toks + 1 }) r' (by omega) fun h' kept r2 => ?_
    have r3 : SetR w h' S (fun j => decide (j ∈ ns.take (i + 1))) (if decide (z ∈ ns.take i) = true then c else c + 1) := r2.congr fun j => by
      rw [List.take_add_one, hz]
      simp [List.mem_append]
    refine wpAny_pure ⟨plainId_quiet F.plain_set_update_loop _, ih (i + 1) _ (by omega) lt (W.frame _ s' _ _ st' (Nat.le_succ _) fun b hb o e => ?_) ⟨_, r3⟩ fun s2 c2 m2 r4 => ?_⟩
    · rw [kept.2 b (fun h : b = S => out (by rw [← h]; exact hb))]; exact e
    · refine q s2 c2 (Moved.trans W.gtrans ((m.mono up).then_heap (Nat.le_succ _) fun b o hb e => ?_) m2) r4
      rw [kept.2 b (fun h : b = S => hb (by rw [h]; exact List.mem_cons_self))]; exact e
end
/-! ### sorted(set(xs)) -/
/-- an empty set, as it is laid -/
abbrev eset (w : World) : Obj := { cls := .type "set", dict := none, data := .set #[] 0 (.fresh 0 0 (!w.params.followText "set-order")) }
section
variable {P : Program} {w : World} {A : Around} {E : Value → Shared → Prop} {s : Shared}
/-- an empty set takes a list's ints -/
theorem init_set {S l : Addr} {us : Array Value} (ns : List Int) {Q : PySem.Fin → Shared → Prop} (hd : A.handled = none) (hS : s.heap.get? S = some (eset w)) (hl : s.heap.IsList l us) (hi : IntsAre us.toList ns) (hb : (srtU ns).length + 1 < scanBound)
    (q : ∀ (s' : Shared) (c : Nat), (∀ b o, b ≠ S → s.heap.get? b = some o → s'.heap.get? b = some o) → s'.gens = s.gens → s'.drawn = s.drawn → s'.os = s.os → SetR w s'.heap S (fun j => decide (j ∈ ns)) c → Q (.done (.ret .none)) s') :
    wpAny (model P w) A (Builtin.«set.__init__» ⟨[.ref S, .ref l], []⟩) Q E s := by
  have sz : us.size = ns.length := by rw [← IntsAre.length hi, Array.length_toList]
  have hT : s.TypeIs (.ref S) "set" := ⟨_, hS, rfl⟩
  obtain ⟨⟨ocls, odict, odata, oslots⟩, h1, h2, nl, h3⟩ := id hl
  simp only at h2 h3
  subst h2; subst h3
  have h4 := F.sub_list_set
  have h5 := F.sub_list_frozenset
  have h6 : (Value.type "list" == Value.type "dict") = false := by decide
  unfold Builtin.«set.__init__» noKeywords Builtin.Frozenset.updateFrom
  generalize hPI : pyIter = PI
  wp_walk
  subst hPI
  refine wpAny_pyIter_list hl ?_
  have ns' : s.heap.objs.size ≠ S := fun e => absurd (Heap.lt_size hS) (by rw [e]; exact Nat.lt_irrefl _)
  have nl' : l ≠ s.heap.objs.size := Nat.ne_of_lt (Heap.lt_size h1)
  have nSl : S ≠ l := fun e => by
    rw [e, h1] at hS
    have := congrArg (fun o : Option Obj => o.map (·.cls)) hS
    simp at this
  refine wpAny_bind (wpAny_runValue ?_)
  have out : S ∉ [s.heap.objs.size, l] := by simp [Ne.symm ns', nSl]
  have val : ∀ (i : Nat) (v : Value), us[i]? = some v → ∃ k t, ns[i]? = some k ∧ v = .int k t := fun i v hv => by
    have hk : i < ns.length := by rw [← sz]; exact (Array.getElem?_eq_some_iff.mp hv).1
    obtain ⟨t, e⟩ := IntsAre.int_at hi i v (by rw [Array.getElem?_toList]; exact hv)
    exact ⟨ns[i], t, List.getElem?_eq_getElem hk, by rw [e, List.getD_eq_getElem?_getD, List.getElem?_eq_getElem hk]; rfl⟩
  refine set_update_few ((Walks.list (by simp [hd]) _ l nl' us).toS) S out ns sz hb val (us.size - 0) 0 _ (by omega) (Nat.zero_le _) ⟨⟨_, Heap.get?_push_size _ rfl, rfl, rfl⟩, hl.push _⟩ ⟨0, setR_new_at (Heap.get?_push_of_some _ hS)⟩ fun s' c m R => ?_
  refine wpAny_pure (wpAny_pure (q s' c (fun b o hb e => ?_) m.gens m.drawn m.os R))
  refine m.heap b o ?_ (Heap.get?_push_of_some _ e)
  simp only [List.mem_cons, List.not_mem_nil, or_false, not_or]
  exact ⟨hb, Nat.ne_of_lt (Heap.lt_size e)⟩
/-- set(xs), ints -/
theorem set_of_ints {l : Addr} {us : Array Value} (ns : List Int) {Q : Value → Shared → Prop} (hd : A.handled = none) (hl : s.heap.IsList l us) (hi : IntsAre us.toList ns) (hb : (srtU ns).length + 1 < scanBound)
    (q : ∀ (h' : Heap) (tk c : Nat), SetR w h' s.heap.objs.size (fun j => decide (j ∈ ns)) c → (∀ b o, s.heap.get? b = some o → h'.get? b = some o) → Q (.ref s.heap.objs.size) { s with heap := h', toks := tk }) :
    wpAny (model P w) A (call (.type "set") [.ref l]) Q E s := by
  obtain ⟨c, tl, m1⟩ := F.called_set.mro
  have m2 := F.called_set.made
  have m3 := F.called_set.sub
  have m4 := F.called_set.notType
  have m5 := F.called_set.canCreate
  have m6 := F.typeCall_set_1 (.ref l)
  have m7 := F.called_set.init.lookup
  have m8 := F.called_set.init.bind (.ref s.heap.objs.size)
  have at1 : (s.heap.push (eset w)).get? s.heap.objs.size = some (eset w) := Heap.get?_push_size _ rfl
  refine wpAny_call (codeAny_of_tree ?_)
  show wpAny _ _ (callAny (.type "set") _) _ _ _
  refine wpAny_pure ⟨Code.quiet_builtin _ (by decide +kernel), codeAny_builtin F.entry_type_call ?_⟩
  rw [Around.under_plain (weight_type_call_type "set" [.ref l] []) rfl]
  repeat (any_goals (first | assumption | wp_step))
  refine codeAny_mono (code_set_led1 (.ref l) (E := E) (Q₁ := fun obj s₁ => obj = .ref s.heap.objs.size ∧ s₁ = { s with heap := s.heap.push (eset w) }) ⟨rfl, rfl⟩) fun r s₁ hr => ?_
  rcases r with e | f
  · exact hr
  cases f with
  | ret v =>
    obtain ⟨rfl, rfl⟩ := hr
    have hT : Shared.TypeIs { s with heap := s.heap.push (eset w) } (.ref s.heap.objs.size) "set" := ⟨_, at1, rfl⟩
    repeat (any_goals (first | assumption | wp_step))
    refine codeAny_mono (codeAny_call_builtin (R := wants (fun r s₂ => r = .none ∧ ∃ h' tk c, s₂ = { s with heap := h', toks := tk } ∧ SetR w h' s.heap.objs.size (fun j => decide (j ∈ ns)) c ∧ ∀ b o, s.heap.get? b = some o → h'.get? b = some o) E) F.called_set.init.plain F.entry_set_init (check_set_init_1 hT ?_)) fun r₂ s₂ hr₂ => ?_
    · refine init_set (s := { s with heap := s.heap.push (eset w) }) ns (by simp [hd]) at1 (hl.push _) hi hb fun s' c k1 g1 g2 g3 R => ?_
      obtain ⟨h', g, d, tk, os⟩ := s'
      simp only at g1 g2 g3
      subst g1; subst g2; subst g3
      exact ⟨rfl, h', tk, c, rfl, R, fun b o e => k1 b o (Nat.ne_of_lt (Heap.lt_size e)) (Heap.get?_push_of_some _ e)⟩
    · rcases r₂ with e | f
      · exact hr₂
      cases f with
      | ret r =>
        obtain ⟨rfl, h', tk, c', rfl, k1, k2⟩ := hr₂
        repeat (any_goals (first | assumption | wp_step))
        exact q h' tk c' k1 k2
      | _ => exact hr₂.elim
  | _ => exact hr.elim
/-- sorted of a set of ints, of any number -/
theorem sorted_of_set {a : Addr} {S : Int → Bool} {n : Nat} {Q : Value → Shared → Prop} (R : SetR w s.heap a S n) (hd : A.handled = none)
    (q : ∀ (s' : Shared) (p : Addr) (out : List Value) (c : Nat) (ns : List Int), (∀ b o, s.heap.get? b = some o → s'.heap.get? b = some o) → s'.gens = s.gens → s'.os = s.os → s.heap.objs.size ≤ p →
      s'.heap.get? p = some (seqObj "list" out.toArray c) → IntsAre out ns → out.length ≤ sizeLine → ns.Pairwise (· < ·) → (∀ k, k ∈ ns ↔ S k = true) → Q (.ref p) s') :
    wpAny (model P w) A (call (.builtin "sorted") [.ref a]) Q E s := by
  obtain ⟨o, es, ep, t, ho, ex, dt, good, nod, mem, small, fits, _, rises, led⟩ := R
  have lim : es.size ≤ sizeLine := fits_of_scanBound small
  refine Calls.call_function_entry kind_sorted plain_sorted entry_sorted (args_sorted1 _) ?_
  unfold Builtin.«sorted»
  refine wpAny_bind (m := checkCount "sorted" 1 1 _) (wpAny_pure (wpAny_bind (collect_set (A := A.in1) hd ⟨o, ho, ex.1, dt⟩ fits small rises led fun s1 vs old size1 gens1 os1 perm => ?_)))
  have lenV : vs.length ≤ sizeLine := by rw [perm.length_eq, List.length_map, Array.length_toList]; exact lim
  have are : IntsAre vs (vs.map Builtin.Re.reRawOf) := L2.ints_of vs fun v hv => by
    obtain ⟨e, he, rfl⟩ := List.mem_map.mp (perm.mem_iff.mp hv)
    obtain ⟨k, tk, h1, _⟩ := good e he
    exact ⟨k, tk, h1⟩
  have keys : (vs.map Builtin.Re.reRawOf).Perm (es.toList.map keyOf) := by
    have := perm.map Builtin.Re.reRawOf
    rwa [List.map_map] at this
  have at1 : (s1.heap.push (seqObj "list" vs.toArray 0)).get? s1.heap.objs.size = some (seqObj "list" vs.toArray 0) := Heap.get?_push_size _ rfl
  refine wpAny_bind (wpAny_newList (wpAny_bind (wpAny_holding (wpAny_call_entry slot_list_sort ⟨_, at1, rfl⟩ entry_list_sort (list_sort_treeAny at1 are lenV fun out ns p1 p2 p3 => ⟨_, rfl, wpAny_pure ⟨_, rfl, ?_⟩⟩) (args_list_sort _)))) lenV)
  obtain ⟨c, hc⟩ := sortedHeap_at (vs := vs) (out := out) at1
  have pn := p2.trans keys
  refine q _ s1.heap.objs.size out.toList c ns (fun b u e => ?_) gens1 os1 size1 (by rw [Array.toArray_toList]; exact hc) p1 ?_ (lt_of_le_nodup ns p3 (pn.nodup_iff.mpr nod)) fun k => by rw [pn.mem_iff, ← mem k]
  · have lt := Heap.lt_size (old b u e)
    show (sortedHeap (s1.heap.push (seqObj "list" vs.toArray 0)) s1.heap.objs.size vs out).get? b = some u
    rw [sortedHeap_old (Nat.ne_of_lt lt) (by rw [PyProof.Rows.size_push']; exact Nat.lt_succ_of_lt lt)]
    exact Heap.get?_push_of_some _ (old b u e)
  · rw [IntsAre.length p1, p2.length_eq, List.length_map]; exact lenV
end
end Ir

namespace Ir
open PySem L2 PyProof.Rows
section
variable {X : L2.Cx} {K : PySem.W.Frag} {H H0 H' H1 H2 : Hp} {Z Z0 Z' Z1 Z2 : Addr → Prop} {t : T} {ts xs fin : List T} {v x y : V} {vs : List V} {a b : Addr} {Q : VK} {p : Pr} {res : Vl} {e e2 e3 : Expr} {es : List Expr} {pos p1 p2 p3 p4 : Pos} {σ : L2.St} {m n : M Vl} {mo : M Op} {l l1 l2 l' : Loc}
theorem one_srt {xs ys : List Int} (hx : xs.Pairwise (· < ·)) (hy : ys.Pairwise (· < ·)) (h : ∀ a, a ∈ xs ↔ a ∈ ys) : xs = ys := by
  refine List.Perm.eq_of_pairwise (fun a b _ _ h1 h2 => Int.le_antisymm h1 h2) (hx.imp Int.le_of_lt) (hy.imp Int.le_of_lt) ?_
  exact (List.perm_ext_iff_of_nodup (hx.imp fun {a b} h => Int.ne_of_lt h) (hy.imp fun {a b} h => Int.ne_of_lt h)).mpr h
/-- what a set of the ints leads to -/
def tSetI (K : PySem.W.Frag) (ta : TE) (r : List Int → Hp → VK → Prop) : TE := fun σ H Q => ta σ H fun x H1 => ∃ a is, x = .ref a ∧ ((SqL K H1 a (is.map V.int) ∧ (srtU is).length ≤ 4000) ∨ (SqT K H1 a (is.map V.int) ∧ is.length ≤ 4000)) ∧ r is H1 Q
theorem boot_srt : bootBuiltins "sorted" = some (.builtin "sorted") := by decide +kernel
/-- the set in the middle -/
theorem mid_set {pins : List (Addr × Obj)} {s1 : Shared} {R : Value → Shared → Prop} {is : List Int} (hc : X.calm = true) (I1 : Inv X pins σ H1 s1) (hs : (SqL X.K H1 a (is.map V.int) ∧ (srtU is).length ≤ 4000) ∨ (SqT X.K H1 a (is.map V.int) ∧ is.length ≤ 4000))
    (q : ∀ (s2 : Shared) (c : Nat), SetR X.w s2.heap s1.heap.objs.size (fun j => decide (j ∈ is)) c → Inv X pins σ H1 s2 → R (.ref s1.heap.objs.size) s2) :
    wpAny (model X.prog X.w) X.A (call (.type "set") [.ref a]) R X.xe s1 := by
  rcases hs with ⟨hs, hl⟩ | ⟨hs, hl⟩
  · obtain ⟨its, r, pl, hz⟩ := I1.list hs
    exact set_of_ints is (I1.ok.hd hc) pl.isList (by simpa using r.ints) (by unfold scanBound; omega) fun h' tk c S k => q _ c S (I1.kept k)
  · obtain ⟨its, r, pl, hz⟩ := I1.tuple hs
    exact call_set_tupI is (I1.ok.hd hc) pl (by simpa using r.ints) (by unfold scanBound; omega) fun h' tk c S _ k => q _ c S (I1.kept k)
theorem pe_sset {ta : TE} (hc : X.calm = true) (hg : Gl X "sorted") (hm : X.mg "sorted" = none) (hg2 : Gl X "set") (hm2 : X.mg "set" = none) (na : starEach [e] X.env = (false, eval e X.env) :: starEach [] X.env) (ha : PE X e ta) :
    PE X (.Call (.Name "sorted" p1) [.Call (.Name "set" p2) [e] [] p3] [] pos) (tSetI X.K ta fun is H Q => ∀ p, H p = none → Q (.ref p) (upd H p (.lst ((srtU is).map V.int)))) := by
  refine ⟨fun pins s σ H Q I h => ?_⟩
  refine Call_ (ld_blt I hg hm boot_srt ?_)
  refine callWith_builtin1 (args_cons ?_ rfl) rfl rfl
  refine Call_ (ld_blt I hg2 hm2 boot_set ?_)
  refine callWith_type1 (args_cons (thn (ha.run pins s σ H _ I h) fun v s1 ⟨x, H1, I1, r1, q1⟩ => args_nil ?_) na) na rfl
  obtain ⟨a, is, rfl, hs, q⟩ := q1
  cases r1
  refine mid_set hc I1 hs fun s2 c S I2 => args_nil ?_
  refine sorted_of_set S (I2.ok.hd hc) fun s' p out c2 ns k1 g1 o1 hp at1 are len asc mem => ?_
  have e1 : ns = srtU is := one_srt asc srt_srtU fun k => by rw [mem k, mem_srtU, decide_eq_true_eq]
  subst e1
  have n := I2.hok.fresh hp
  have J : Inv X pins σ (upd H1 p (.lst ((srtU is).map V.int))) { s2 with heap := s'.heap, gens := s'.gens, drawn := s'.drawn, toks := s'.toks } :=
    I2.call (ch := []) (Un.laid k1 hp n) (I2.hok.laid k1 hp ⟨by rw [List.length_map, ← IntsAre.length are]; exact len, out, c2, vals_of_ints are, at1⟩) (by rw [g1]; exact I2.bare) (fun _ z => nomatch z)
  have e2 : s' = { s2 with heap := s'.heap, gens := s'.gens, drawn := s'.drawn, toks := s'.toks } := by
    cases s'
    cases s2
    cases o1
    rfl
  rw [e2]
  exact ⟨.ref p, _, J, rfl, q p n⟩
theorem pe_lset {ta : TE} (hc : X.calm = true) (hg : Gl X "len") (hm : X.mg "len" = none) (hg2 : Gl X "set") (hm2 : X.mg "set" = none) (na : starEach [e] X.env = (false, eval e X.env) :: starEach [] X.env) (ha : PE X e ta) :
    PE X (.Call (.Name "len" p1) [.Call (.Name "set" p2) [e] [] p3] [] pos) (tSetI X.K ta fun is H Q => Q (.int ((srtU is).length : Int)) H) := by
  refine ⟨fun pins s σ H Q I h => ?_⟩
  refine Call_ (ld_blt I hg hm boot_len ?_)
  refine callWith_builtin1 (args_cons ?_ rfl) rfl rfl
  refine Call_ (ld_blt I hg2 hm2 boot_set ?_)
  refine callWith_type1 (args_cons (thn (ha.run pins s σ H _ I h) fun v s1 ⟨x, H1, I1, r1, q1⟩ => args_nil ?_) na) na rfl
  obtain ⟨a, is, rfl, hs, q⟩ := q1
  cases r1
  refine mid_set hc I1 hs fun s2 c S I2 => args_nil ?_
  obtain ⟨o, es, ep, t, ho, ex, dt, good, nod, mem, small, fits, _, rises, led⟩ := S
  have e1 : es.size = (srtU is).length := by
    have : (es.toList.map keyOf).Perm (srtU is) := (List.perm_ext_iff_of_nodup nod (srt_srtU.imp fun {a b} h => Int.ne_of_lt h)).mpr fun k => by rw [← mem k, mem_srtU, decide_eq_true_eq]
    rw [← this.length_eq, List.length_map, Array.length_toList]
  refine call_len_set ho ex dt fits (by unfold scanBound at small; omega) ⟨.int ((srtU is).length : Int), H1, I2.tok _, ⟨_, by rw [e1]⟩, q⟩
theorem set_arg {f : List Int → Vl} (pk : PKs K H Z ts [v]) (e : prSetI f ts = some res) : ∃ a is, v = .ref a ∧ ((SqL K H a (is.map V.int) ∧ (srtU is).length ≤ 4000) ∨ (SqT K H a (is.map V.int) ∧ is.length ≤ 4000)) ∧ res = f is := by
  unfold prSetI at e
  split at e
  · cases pk with
    | cons h hh =>
      cases hh
      obtain ⟨a, ws, rfl, h1, h2⟩ := h.lst
      split at e
      · rename_i is e0
        have e1 := ints_of e0
        subst e1
        rw [h2.ints] at h1
        split at e
        · rename_i c
          cases e
          exact ⟨a, is, rfl, .inl ⟨h1.sq, c⟩, rfl⟩
        · cases e
      · cases e
  · cases pk with
    | cons h hh =>
      cases hh
      obtain ⟨a, ws, rfl, h1, h2⟩ := h.tup
      split at e
      · rename_i is e0
        have e1 := ints_of e0
        subst e1
        rw [h2.ints] at h1
        split at e
        · rename_i c
          cases e
          exact ⟨a, is, rfl, .inr ⟨h1, c⟩, rfl⟩
        · cases e
      · cases e
  · cases e
theorem pE_sset (hc : X.calm = true) (hg : Gl X "sorted") (hm : X.mg "sorted" = none) (hg2 : Gl X "set") (hm2 : X.mg "set" = none) (na : starEach [e] X.env = (false, eval e X.env) :: starEach [] X.env)
    (h : PE X e (rO X.K mo)) : PE X (.Call (.Name "sorted" p1) [.Call (.Name "set" p2) [e] [] p3] [] pos) (rE X.K (prM .sset (bind mo fun o => bind (ret []) fun os => ret (o :: os)))) :=
  (pe_sset hc hg hm hg2 hm2 na h).irw fun σ H Q h => by
  obtain ⟨l, Z, r, l', A, e, q⟩ := rP_one h
  refine ⟨l, Z, r, l', A, e, fun v H' Z' P R => ?_⟩
  obtain ⟨Z4, ts, res, zd, pk, e4, q4⟩ := q v H' Z' P R
  obtain ⟨a, is, rfl, h1, rfl⟩ := set_arg pk (show prSetI _ ts = some res from e4)
  exact ⟨a, is, rfl, h1, fin_lst zd q4 (RFs.ofInts _)⟩
theorem pE_lset (hc : X.calm = true) (hg : Gl X "len") (hm : X.mg "len" = none) (hg2 : Gl X "set") (hm2 : X.mg "set" = none) (na : starEach [e] X.env = (false, eval e X.env) :: starEach [] X.env)
    (h : PE X e (rO X.K mo)) : PE X (.Call (.Name "len" p1) [.Call (.Name "set" p2) [e] [] p3] [] pos) (rE X.K (prM .lset (bind mo fun o => bind (ret []) fun os => ret (o :: os)))) :=
  (pe_lset hc hg hm hg2 hm2 na h).irw fun σ H Q h => by
  obtain ⟨l, Z, r, l', A, e, q⟩ := rP_one h
  refine ⟨l, Z, r, l', A, e, fun v H' Z' P R => ?_⟩
  obtain ⟨Z4, ts, res, zd, pk, e4, q4⟩ := q v H' Z' P R
  obtain ⟨a, is, rfl, h1, rfl⟩ := set_arg pk (show prSetI _ ts = some res from e4)
  exact ⟨a, is, rfl, h1, fin_int zd q4⟩
end
end Ir

namespace Ir
open PySem L2
section
variable {X : L2.Cx}
theorem o_shl : OpR X (binaryOp .LShift) (rP2 X.K .shl) := by
  intro pins s σ H x y v u Q I rx ry ⟨Z, ts, res, zd, pk, e, q⟩
  replace e : prShl ts = some res := e
  unfold prShl at e
  split at e
  · rename_i a b
    obtain ⟨⟨c1, c2, c3⟩, rfl⟩ := if_some e
    obtain ⟨rfl, rfl⟩ := rP2_int pk
    refine op_shlW pins s σ H _ _ v u Q I rx ry ⟨_, _, rfl, rfl, ⟨c1, ?_⟩, fin_int zd q⟩
    have : PySem.Builtin.Int.intBits a ≤ a.natAbs.log2 + 1 := by
      unfold PySem.Builtin.Int.intBits
      split <;> omega
    omega
  · cases e
theorem o_shr : OpR X (binaryOp .RShift) (rP2 X.K .shr) := by
  intro pins s σ H x y v u Q I rx ry ⟨Z, ts, res, zd, pk, e, q⟩
  replace e : prShr ts = some res := e
  unfold prShr at e
  split at e
  · obtain ⟨c, rfl⟩ := if_some e
    obtain ⟨rfl, rfl⟩ := rP2_int pk
    exact op_shr pins s σ H _ _ v u Q I rx ry ⟨_, _, rfl, rfl, c, fin_int zd q⟩
  · cases e
theorem o_band : OpR X (binaryOp .BitAnd) (rP2 X.K .band) := by
  intro pins s σ H x y v u Q I rx ry ⟨Z, ts, res, zd, pk, e, q⟩
  replace e : prBand ts = some res := e
  unfold prBand at e
  split at e
  · rename_i a b
    obtain ⟨⟨c1, c2⟩, rfl⟩ := if_some e
    obtain ⟨rfl, rfl⟩ := rP2_int pk
    refine op_and pins s σ H _ _ v u Q I rx ry ⟨_, _, rfl, rfl, ?_⟩
    have e2 : PySem.Builtin.bitAnd a b = ((a.toNat &&& b.toNat : Nat) : Int) := by simp [PySem.Builtin.bitAnd, c1, c2]
    show Q (.int (PySem.Builtin.bitAnd a b)) H
    rw [e2]
    exact fin_int zd q
  · cases e
theorem o_bor : OpR X (binaryOp .BitOr) (rP2 X.K .bor) := by
  intro pins s σ H x y v u Q I rx ry ⟨Z, ts, res, zd, pk, e, q⟩
  replace e : prBor ts = some res := e
  unfold prBor at e
  split at e
  · rename_i a b
    obtain ⟨⟨c1, c2⟩, rfl⟩ := if_some e
    obtain ⟨rfl, rfl⟩ := rP2_int pk
    refine op_or pins s σ H _ _ v u Q I rx ry ⟨_, _, rfl, rfl, ?_⟩
    show Q (.int (PySem.Builtin.bitOr a b)) H
    rw [bitOr_nn c1 c2]
    exact fin_int zd q
  · cases e
end
end Ir

namespace Ir
open PySem L2
/-! ### max and min of a tuple's ints -/
theorem reads_ints {h : Heap} : ∀ {us : List Value} {ns : List Int}, PyProof.Rows.IntsAre us ns → ReadsAll h us (ns.map PyData.int) []
  | _, _, .nil => .nil
  | _, _, .cons n t r => .cons (as := []) (bs := []) (.int n t) (reads_ints r)
theorem depth_ints : ∀ ns : List Int, PyData.depthAll (ns.map PyData.int) = 0
  | [] => rfl
  | n :: ns => by
    show max 0 (PyData.depthAll (ns.map PyData.int)) = 0
    rw [depth_ints ns]; rfl
theorem alike_ints (ns : List Int) : PySem.W.AlikeAll (ns.map PyData.int) := by
  refine ⟨fun x hx y hy => ?_, fun x hx e => ?_⟩
  · obtain ⟨a, _, rfl⟩ := List.mem_map.mp hx
    obtain ⟨b, _, rfl⟩ := List.mem_map.mp hy
    rfl
  · obtain ⟨a, _, rfl⟩ := List.mem_map.mp hx
    cases e
theorem fold_max (n : Int) : ∀ ns : List Int, (ns.foldl max n ∈ n :: ns) ∧ ∀ y ∈ n :: ns, y ≤ ns.foldl max n := by
  intro ns
  induction ns generalizing n with
  | nil => exact ⟨by simp, by simp⟩
  | cons k r ih =>
    obtain ⟨h1, h2⟩ := ih (max n k)
    refine ⟨?_, fun y hy => ?_⟩
    · rw [List.foldl_cons]
      rcases List.mem_cons.mp h1 with e | e
      · rw [e]
        rcases (show max n k = n ∨ max n k = k by omega) with e | e <;> rw [e] <;> simp
      · simp [e]
    · rw [List.foldl_cons]
      have h3 := h2 (max n k) List.mem_cons_self
      rcases List.mem_cons.mp hy with rfl | hy
      · omega
      · rcases List.mem_cons.mp hy with rfl | hy
        · omega
        · exact h2 y (List.mem_cons_of_mem _ hy)
theorem fold_min (n : Int) : ∀ ns : List Int, (ns.foldl min n ∈ n :: ns) ∧ ∀ y ∈ n :: ns, ns.foldl min n ≤ y := by
  intro ns
  induction ns generalizing n with
  | nil => exact ⟨by simp, by simp⟩
  | cons k r ih =>
    obtain ⟨h1, h2⟩ := ih (min n k)
    refine ⟨?_, fun y hy => ?_⟩
    · rw [List.foldl_cons]
      rcases List.mem_cons.mp h1 with e | e
      · rw [e]
        rcases (show min n k = n ∨ min n k = k by omega) with e | e <;> rw [e] <;> simp
      · simp [e]
    · rw [List.foldl_cons]
      have h3 := h2 (min n k) List.mem_cons_self
      rcases List.mem_cons.mp hy with rfl | hy
      · omega
      · rcases List.mem_cons.mp hy with rfl | hy
        · omega
        · exact h2 y (List.mem_cons_of_mem _ hy)
section
variable {X : L2.Cx} {K : PySem.W.Frag} {H H0 H' H1 H2 : Hp} {Z Z0 Z' Z1 Z2 : Addr → Prop} {t : T} {ts xs fin : List T} {v x y : V} {vs : List V} {a b : Addr} {Q : VK} {p : Pr} {res : Vl}
theorem c_maxT (hc : X.calm = true) (hu : X.A.units + 65 < cLine) : CR X (.builtin "max") .max1 := by
  intro pins s σ H vs us Q I rs ⟨Z, ts, res, zd, pk, e, q⟩
  obtain ⟨is, e1, e2⟩ := onInts_inv (show onInts true (fun is => (maxL is).map fun m => .fr (.int m)) ts = some res from e)
  obtain ⟨m, hm, rfl⟩ := Option.map_eq_some_iff.mp e2
  obtain ⟨a, rfl, h | h⟩ := pk_ints e1 pk
  · refine cr_max hc pins s σ H _ us Q I rs ⟨a, is, rfl, h, ?_, fun M h1 h2 => ?_⟩
    · cases is with
      | nil => cases hm
      | cons _ _ => simp
    · rw [maxL_spec hm M h1 h2]
      exact fin_int zd q
  · obtain ⟨its, rv, ht, hz⟩ := I.tuple h.2
    have hi := rv.ints
    rw [Vals.ref1 rs]
    cases is with
    | nil => cases hm
    | cons n ns =>
      refine PySem.W.max_tuple_data (I.ok.hd hc) ht (x := .int n) (xs := ns.map .int) (reads_ints (by simpa using hi)) (alike_ints (n :: ns)) (by have := depth_ints (n :: ns); rw [List.map_cons] at this; rw [this]; omega) fun i v h' tk bs hv r k => ?_
      rw [PySem.W.maxD_ints] at r
      obtain ⟨k1, k2⟩ := fold_max n ns
      rw [maxL_spec hm _ k1 k2] at r
      cases r
      exact ⟨.int m, H, I.kept k, ⟨_, rfl⟩, fin_int zd q⟩
theorem c_minI (hc : X.calm = true) (hu : X.A.units + 65 < cLine) {pins : List (Addr × Obj)} {s : Shared} {σ : L2.St} {us : List Value} (I : L2.Inv X pins σ H s) (rs : Vals vs us) (zd : ∀ b, Z b → H b ≠ none) (pk : PKs X.K H Z ts vs) (e : onInts true (fun is => (minL is).map fun m => .fr (.int m)) ts = some res) (q : Fin X.K H Z res Q) :
    wpAny (model X.prog X.w) X.A (call (.builtin "min") us) (EP X pins σ Q) X.xe s := by
  obtain ⟨is, e1, e2⟩ := onInts_inv e
  obtain ⟨m, hm, rfl⟩ := Option.map_eq_some_iff.mp e2
  obtain ⟨a, rfl, h | h⟩ := pk_ints e1 pk
  · refine cr_min hc pins s σ H _ us Q I rs ⟨a, is, rfl, h, ?_, fun M h1 h2 => ?_⟩
    · cases is with
      | nil => cases hm
      | cons _ _ => simp
    · rw [minL_spec hm M h1 h2]
      exact fin_int zd q
  · obtain ⟨its, rv, ht, hz⟩ := I.tuple h.2
    have hi := rv.ints
    rw [Vals.ref1 rs]
    cases is with
    | nil => cases hm
    | cons n ns =>
      refine PySem.W.min_tuple_data (I.ok.hd hc) ht (x := .int n) (xs := ns.map .int) (reads_ints (by simpa using hi)) (alike_ints (n :: ns)) (by have := depth_ints (n :: ns); rw [List.map_cons] at this; rw [this]; omega) fun i v h' tk bs hv r k => ?_
      rw [PySem.W.minD_ints] at r
      obtain ⟨k1, k2⟩ := fold_min n ns
      rw [minL_spec hm _ k1 k2] at r
      cases r
      exact ⟨.int m, H, I.kept k, ⟨_, rfl⟩, fin_int zd q⟩
theorem tps_of : ∀ {ts : List T} {ls : List (List Int)}, T.tps ts = some ls → ts = ls.map fun is => T.tup (is.map .int)
  | [], ls, e => by cases e; rfl
  | t :: r, ls, e => by
    unfold T.tps at e
    split at e
    · rename_i h; cases h
    · rename_i xs r' h
      cases h
      split at e
      · rename_i is q h1 h2
        cases e
        rw [ints_of h1, tps_of h2]
        rfl
      · cases e
    · cases e
theorem tps_addr {ls : List (List Int)} (h : RFs K H Z (ls.map fun is => T.tup (is.map .int)) vs) : ∃ L : List (Addr × List Int), vs = L.map (fun q => V.ref q.1) ∧ L.map (·.2) = ls ∧ ∀ q ∈ L, SqT K H q.1 (q.2.map V.int) := by
  induction ls generalizing vs with
  | nil => cases h; exact ⟨[], rfl, rfl, fun q h => by cases h⟩
  | cons l ls ih =>
    cases h with
    | cons r rs =>
      obtain ⟨L, rfl, e, g⟩ := ih rs
      cases r with
      | tup h1 h2 =>
        rename_i a ws
        rw [h2.ints] at h1
        refine ⟨(a, l) :: L, rfl, by simp [e], fun q hq => ?_⟩
        rcases List.mem_cons.mp hq with rfl | hq
        · exact h1
        · exact g q hq
abbrev tD (is : List Int) : PyData := .tuple (is.map .int)
theorem alike_intsL : ∀ a b : List Int, PySem.W.alikeAll (a.map PyData.int) (b.map PyData.int) = true
  | [], _ => by simp [PySem.W.alikeAll]
  | _ :: _, [] => by simp [PySem.W.alikeAll]
  | x :: a, y :: b => by
    rw [List.map_cons, List.map_cons, PySem.W.alikeAll, alike_intsL a b]
    simp [PySem.W.alike]
theorem alike_tps (ls : List (List Int)) : PySem.W.AlikeAll (ls.map tD) := by
  refine ⟨fun x hx y hy => ?_, fun x hx e => ?_⟩
  · obtain ⟨a, _, rfl⟩ := List.mem_map.mp hx
    obtain ⟨b, _, rfl⟩ := List.mem_map.mp hy
    show PySem.W.alike (.tuple _) (.tuple _) = true
    rw [PySem.W.alike]
    exact alike_intsL a b
  · obtain ⟨a, _, rfl⟩ := List.mem_map.mp hx
    cases e
theorem depth_tps : ∀ ls : List (List Int), PyData.depthAll (ls.map tD) ≤ 1
  | [] => by decide
  | l :: ls => by
    have h := depth_tps ls
    show max (PyData.depthAll (l.map PyData.int) + 1) (PyData.depthAll (ls.map tD)) ≤ 1
    rw [depth_ints l]
    omega
theorem minD_tps (x : List Int) : ∀ xs : List (List Int), PySem.W.minD (tD x) (xs.map tD) = tD (minT x xs) := by
  intro xs
  unfold PySem.W.minD minT
  induction xs generalizing x with
  | nil => rfl
  | cons k r ih =>
    rw [List.map_cons, List.foldl_cons, List.foldl_cons, ← ih]
    congr 1
    have e : PySem.W.dataLt (tD k) (tD x) = decide (k < x) := by
      rw [PySem.W.dataLt_tuple]
      exact PySem.W.dataLt_ints k x
    rw [e]
    by_cases hk : k < x
    · rw [if_pos (decide_eq_true hk), if_pos hk]
    · rw [if_neg (by simpa using hk), if_neg hk]
theorem reads_tps {pins : List (Addr × Obj)} {s : Shared} {σ : L2.St} (I : L2.Inv X pins σ H s) : ∀ {L : List (Addr × List Int)} {us : List Value}, (∀ q ∈ L, SqT X.K H q.1 (q.2.map V.int)) → Vals (L.map fun q => V.ref q.1) us → ReadsAll s.heap us (L.map fun q => tD q.2) []
  | [], _, _, .nil => .nil
  | q :: L, _, h, .cons r t => by
    cases r
    obtain ⟨its, rv, ⟨o, h1, h2, n, h3⟩, _⟩ := I.tuple (h q List.mem_cons_self)
    refine .cons (as := []) (bs := []) (.tuple h1 h2 h3 ?_) (reads_tps I (fun x hx => h x (List.mem_cons_of_mem _ hx)) t)
    exact reads_ints (by simpa using rv.ints)
theorem c_minT (hc : X.calm = true) (hu : X.A.units + 65 < cLine) : CR X (.builtin "min") .min1 := by
  intro pins s σ H vs us Q I rs ⟨Z, ts, res, zd, pk, e, q⟩
  have e : prMin1 ts = some res := e
  unfold prMin1 at e
  split at e
  · rename_i r h
    cases e
    exact c_minI hc hu I rs zd pk h q
  · unfold prMinT at e
    split at e
    · cases pk with
      | cons h hh =>
        cases hh
        obtain ⟨a, ws, rfl, h1, h2⟩ := h.lst
        split at e
        · rename_i l r he
          cases e
          have e1 := tps_of he
          subst e1
          obtain ⟨L, rfl, g2, g3⟩ := tps_addr h2
          obtain ⟨its, rv, hl, hz⟩ := I.list h1.sq
          rw [Vals.ref1 rs]
          have rd := reads_tps I g3 rv
          rw [show (L.map fun q => tD q.2) = (L.map (·.2)).map tD by rw [List.map_map]; rfl, g2, List.map_cons] at rd
          refine PySem.W.min_list_data (I.ok.hd hc) hl.isList (by simpa using rd) (alike_tps (l :: r)) (by have := depth_tps (l :: r); rw [List.map_cons] at this; omega) fun i v h' tk bs hv rr k => ?_
          rw [minD_tps] at rr
          have li : i < its.length := by simpa using (Array.getElem?_eq_some_iff.mp hv).1
          have ll : L.length = its.length := by rw [← rv.length, List.length_map]
          have hp : L[i]? = some (L[i]'(by omega)) := List.getElem?_eq_getElem (by omega)
          generalize L[i]'(by omega) = p at hp
          obtain ⟨w, hw, rw1⟩ := rv.get (i := i) (x := V.ref p.1) (by rw [List.getElem?_map, hp]; rfl)
          have ew : v = w := by
            have h5 : its[i]? = some v := by simpa using hv
            rw [h5] at hw
            exact Option.some.inj hw
          subst ew
          cases rw1
          have pm : p ∈ L := List.mem_of_getElem? hp
          obtain ⟨its2, rv2, ⟨o, h6, h7, n, h8⟩, _⟩ := I.tuple (g3 p pm)
          have r2 : Reads h' (.ref p.1) (tD p.2) [] := PySem.W.reads_keeps k (.tuple h6 h7 h8 (reads_ints (by simpa using rv2.ints)))
          have e5 := (PySem.Reads.unique r2 _ _ rr).1
          have e6 : p.2 = minT l r := by
            have e7 : p.2.map PyData.int = (minT l r).map PyData.int := by injection e5
            exact (List.map_inj_right (fun a b h => by injection h)).mp e7
          refine ⟨.ref p.1, H, I.kept k, rfl, fin_fr zd q (.tup (g3 p pm) ?_)⟩
          rw [e6]
          exact RFs.ofInts _
        · cases e
    · cases e
theorem tps0_of : ∀ {ts : List T} {ls : List (List Int)}, T.tps0 ts = some ls → (ts = ls.map fun is => T.tup (is.map .int)) ∧ ∀ l ∈ ls, l ≠ []
  | [], ls, e => by cases e; exact ⟨rfl, fun l h => by cases h⟩
  | t :: r, ls, e => by
    unfold T.tps0 at e
    split at e
    · rename_i h; cases h
    · rename_i xs r' h
      cases h
      split at e
      · rename_i is q h1 h2
        split at e
        · cases e
        · rename_i hne
          cases e
          obtain ⟨g1, g2⟩ := tps0_of h2
          refine ⟨by rw [ints_of h1, g1]; rfl, fun l hl => ?_⟩
          rcases List.mem_cons.mp hl with rfl | hl
          · exact hne
          · exact g2 l hl
      · cases e
    · cases e
theorem RFs.ofTps : ∀ {L : List (Addr × List Int)}, (∀ q ∈ L, SqT K H q.1 (q.2.map V.int)) → RFs K H Z ((L.map (·.2)).map fun is => T.tup (is.map .int)) (L.map fun q => V.ref q.1)
  | [], _ => .nil
  | q :: L, h => .cons (.tup (h q List.mem_cons_self) (RFs.ofInts _)) (RFs.ofTps fun x hx => h x (List.mem_cons_of_mem _ hx))
/-- sorted(xs), tuples of ints -/
def rSortedL (K : PySem.W.Frag) : List V → Hp → VK → Prop := fun vs H Q => ∃ (a : Addr) (L : List (Addr × List Int)), vs = [V.ref a] ∧ SqL K H a (L.map fun q => V.ref q.1) ∧ (∀ q ∈ L, SqT K H q.1 (q.2.map V.int)) ∧ (∀ q ∈ L, q.2 ≠ []) ∧
  ∀ (M : List (Addr × List Int)) (p : Addr), M.Perm L → M.map (·.2) = (L.map (·.2)).mergeSort leL → H p = none → Q (.ref p) (upd H p (.lst (M.map fun q => V.ref q.1)))
theorem each_refs : ∀ {L : List (Addr × List Int)} {us : List Value}, Vals (L.map fun q => V.ref q.1) us → PySem.W.EachIs (fun v (q : Addr × List Int) => v = Value.ref q.1) us L
  | [], _, .nil => .nil
  | q :: L, _, .cons r t => by cases r; exact .cons rfl (each_refs t)
theorem refs_each : ∀ {L : List (Addr × List Int)} {us : List Value}, PySem.W.EachIs (fun v (q : Addr × List Int) => v = Value.ref q.1) us L → Vals (L.map fun q => V.ref q.1) us
  | _, _, .nil => .nil
  | _, _, .cons r t => by subst r; exact .cons rfl (refs_each t)
theorem dataLe_tps : PySem.W.dataLe false (fun q : Addr × List Int => tD q.2) = fun p q => leL p.2 q.2 := by
  funext p q
  show (!PySem.W.dataLt (tD q.2) (tD p.2)) = _
  rw [PySem.W.dataLt_tuple]
  show (!PySem.W.rowLt (q.2.map .int) (p.2.map .int)) = _
  rw [PySem.W.dataLt_ints]
  unfold leL
  by_cases h : q.2 < p.2
  · have h' : ¬ p.2 ≤ q.2 := fun r => List.not_lt.mpr r h
    simp [h, h']
  · have h' : p.2 ≤ q.2 := List.not_lt.mp h
    simp [h, h']
theorem cr_sortedL (hu : X.A.units + 65 < cLine) : L2.CallR X (.builtin "sorted") (rSortedL X.K) := by
  intro pins s σ H vs us Q I r ⟨a, L, e, hs, hx, hne, q⟩
  subst e
  obtain ⟨its, rv, hl, hz⟩ := I.list hs
  rw [Vals.ref1 r]
  have rd := reads_tps I hx rv
  refine PySem.W.sorted_data (enc := fun q : Addr × List Int => tD q.2) (bs := L) hl.isList (each_refs rv) (PySem.W.readsAll_each _ rd) (PySem.W.AllAlike.of fun b b' => by
    show PySem.W.alike (.tuple _) (.tuple _) = true
    rw [PySem.W.alike]
    exact alike_intsL _ _) (.inl fun d hd => ?_) (by rw [List.length_map] at hz; exact hz) (fun b _ => ?_) fun out _ ho => ?_
  · obtain ⟨b, hb, rfl⟩ := List.mem_map.mp hd
    cases hb2 : b.2 with
    | nil => exact absurd hb2 (hne b hb)
    | cons x r => exact ⟨.int x, r.map .int, rfl⟩
  · show X.A.units + 2 + (PyData.depthAll (b.2.map PyData.int) + 1) < cLine
    rw [depth_ints]; omega
  · rw [dataLe_tps] at ho
    obtain ⟨ep, g4⟩ := PyProof.Rows.sortedAll_at s.heap its out.toArray
    have pm : (L.mergeSort fun p q => leL p.2 q.2).Perm L := List.mergeSort_perm _ _
    have J := I.laid (t' := s.toks) (fun _ _ => PyProof.Rows.sortedAll_old) (Nat.le_succ _) (o := .lst ((L.mergeSort fun p q => leL p.2 q.2).map fun q => V.ref q.1)) ⟨by rw [List.length_map, pm.length_eq]; rw [List.length_map] at hz; exact hz, out, ep, refs_each ho, g4⟩
    exact ⟨.ref _, _, J, rfl, q _ _ pm (List.map_mergeSort fun _ _ _ _ => rfl) (I.hok.fresh (Nat.le_succ _))⟩
/-! ### sorted(d), d a dict of ints or of texts -/
theorem strs_each : ∀ {us : List Value} {ks : List PySem.Str}, us.length = ks.length → (∀ (j : Nat) (v : Value), us[j]? = some v → ∃ (y : PySem.Str) (t : Tok), ks[j]? = some y ∧ v = .str y t) → PyProof.Rows.StrsAre us ks
  | [], [], _, _ => .nil
  | u :: us, k :: ks, hl, h => by
    obtain ⟨y, t, e1, e2⟩ := h 0 u rfl
    have e1' : k = y := Option.some.inj e1
    subst e1'
    subst e2
    refine .cons _ _ (strs_each (by simpa using hl) fun j v e => ?_)
    obtain ⟨x, t, a, b⟩ := h (j + 1) v (by simpa using e)
    exact ⟨x, t, by simpa using a, b⟩
  | [], _ :: _, hl, _ => by simp at hl
  | _ :: _, [], hl, _ => by simp at hl
theorem cr_sortedDI (hcalm : X.calm = true) : L2.CallR X (.builtin "sorted") (fun xs H Q => ∃ (a : Addr) (kvs : List (Key × V)) (ks : List Int), xs = [.ref a] ∧ Rd H a (.dK kvs) ∧ kvs.map (·.1) = ks.map Sum.inl ∧
    ∀ (ys : List Int) (p : Addr), ys.Perm ks → ys.Pairwise (· ≤ ·) → H p = none → Q (.ref p) (upd H p (.lst (ys.map V.int)))) := by
  intro pins s σ H xs us Q I r q
  obtain ⟨a, kvs, ks, ex, hd, hks, q⟩ := q
  subst ex
  obtain ⟨u, eu, rx⟩ := vals1 r
  subst eu
  cases rx
  obtain ⟨z, lo, vs, rel, dd⟩ := dk_rd I.hok hd
  obtain ⟨ep, hat⟩ := dd.dictAt
  have hkeys : vs.map (·.1) = ks.map Sum.inl := rel.keys.symm.trans hks
  have hl : vs.length = ks.length := by
    have e := congrArg List.length hkeys
    rw [List.length_map, List.length_map] at e
    exact e
  have hkz : kvs.length = ks.length := by
    have e := congrArg List.length hks
    rw [List.length_map, List.length_map] at e
    exact e
  have h16 : vs.length ≤ sizeLine := by omega
  refine Calls.call_function_entry PyProof.Rows.kind_sorted PyProof.Rows.plain_sorted PyProof.Rows.entry_sorted (PyProof.Rows.args_sorted1 _) ?_
  unfold Builtin.«sorted»
  refine wpAny_bind (m := checkCount "sorted" 1 1 _) (wpAny_pure ?_)
  refine wpAny_bind (PySem.W.kdu_collect (A := X.A.in1) (PySem.W.kdl_dict (knd := mixKind X.prog X.w) (kvs := vs) (ep := ep) lo) (I.ok.hd hcalm) hat h16 fun h' tk acc hk hacc => ?_)
  have hal : acc.toList.length = ks.length := by rw [Array.length_toList, hacc.1, hl]
  have hS : PyProof.Rows.IntsAre acc.toList ks := ints_each hal fun j v e => by
    obtain ⟨k, x, e1, e2⟩ := hacc.2 j v (by rw [← Array.getElem?_toList]; exact e)
    have e3 : (vs.map (·.1))[j]? = some k := by rw [List.getElem?_map, e1]; rfl
    rw [hkeys, List.getElem?_map] at e3
    cases e4 : ks[j]? with
    | none => rw [e4] at e3; cases e3
    | some y =>
      rw [e4] at e3
      have e5 : Sum.inl y = k := Option.some.inj e3
      subst e5
      rcases keyIs_shape (show keyIs (Sum.inl y) v = true from e2) with ⟨i, t, ek, ev⟩ | ⟨z, t, ek, ev⟩
      · cases ek
        exact ⟨y, t, rfl, ev⟩
      · cases ek
  have I1 : Inv X pins σ H { s with heap := h', toks := tk } := I.kept hk
  refine wpAny_bind (wpAny_newList ?_ (by rw [hal]; omega))
  have hoL : (h'.push (PyProof.Rows.seqObj "list" acc.toList.toArray 0)).get? h'.objs.size = some (PyProof.Rows.seqObj "list" acc.toList.toArray 0) := Heap.get?_push_size _ rfl
  show wpAny _ _ _ _ _ { s with heap := h'.push (PyProof.Rows.seqObj "list" acc.toList.toArray 0), toks := tk }
  refine wpAny_bind (wpAny_holding (wpAny_call_entry PyProof.Rows.slot_list_sort ⟨_, hoL, rfl⟩ PyProof.Rows.entry_list_sort
    (PyProof.Rows.list_sort_treeAny (s := { s with heap := h'.push (PyProof.Rows.seqObj "list" acc.toList.toArray 0), toks := tk }) hoL hS (by rw [hal]; omega) fun out ys g1 g2 g3 => ⟨_, rfl, ?_⟩) (PyProof.Rows.args_list_sort _)))
  obtain ⟨e', he'⟩ := PyProof.Rows.sortedHeap_at (vs := acc.toList) (out := out) hoL
  have hlen : (ys.map V.int).length ≤ sizeLine := by
    rw [List.length_map, g2.length_eq]
    omega
  refine wpAny_pure ⟨_, rfl, .ref h'.objs.size, upd H h'.objs.size (.lst (ys.map V.int)), I1.laid (t' := tk) (fun b u e => ?_) (Nat.le_refl _)
    (show ObjOk X.prog X.w _ _ _ (.lst (ys.map V.int)) from ⟨hlen, out.toList, e', vals_of_ints g1, by rw [Array.toArray_toList]; exact he'⟩), rfl, q ys _ g2 g3 (I1.hok.fresh (Nat.le_refl _))⟩
  have hb : b < h'.objs.size := Heap.lt_size e
  rw [PyProof.Rows.sortedHeap_old (Nat.ne_of_lt hb) (by rw [PyProof.Rows.size_push']; exact Nat.lt_succ_of_lt hb)]
  exact Heap.get?_push_of_some _ e
open PyProof.Rows in
theorem list_sort_strsAny0 {prog : Program} {w : World} {A : Around} {E : Value → Shared → Prop} {s : Shared} {a : Addr} {vs : List Value} {ns : List PySem.Str} {n : Nat} {P : PySem.Fin → Shared → Prop} (ho : s.heap.get? a = some (seqObj "list" vs.toArray n))
    (hI : StrsAre vs ns) (hL : vs.length ≤ sizeLine)
    (h : ∀ (out : Array Value) (ns' : List PySem.Str), StrsAre out.toList ns' → ns'.Perm ns → sortedS ns' = true → P (.done (.ret .none)) { s with heap := sortedHeap s.heap a vs out }) :
    wpAny (model prog w) A (Builtin.«list.sort» ⟨[.ref a], []⟩) P E s := by
  refine list_sort_treeKAny strKind_oneLt ho hI.keysOf (fun v₁ v₂ rest e => keyKind_strs (by rw [← e]; exact hI)) hL fun st' hp hs => ?_
  obtain ⟨ss', h1, h2, h3⟩ := sorted_out_str hI hp hs
  exact h _ ss' h1 h2 h3
theorem cr_sortedDS (hcalm : X.calm = true) : L2.CallR X (.builtin "sorted") (fun xs H Q => ∃ (a : Addr) (kvs : List (Key × V)) (ks : List PySem.Str), xs = [.ref a] ∧ Rd H a (.dK kvs) ∧ kvs.map (·.1) = ks.map Sum.inr ∧
    ∀ (ys : List PySem.Str) (p : Addr), ys.Perm ks → PyProof.Rows.sortedS ys = true → H p = none → Q (.ref p) (upd H p (.lst (ys.map V.str)))) := by
  intro pins s σ H xs us Q I r q
  obtain ⟨a, kvs, ks, ex, hd, hks, q⟩ := q
  subst ex
  obtain ⟨u, eu, rx⟩ := vals1 r
  subst eu
  cases rx
  obtain ⟨z, lo, vs, rel, dd⟩ := dk_rd I.hok hd
  obtain ⟨ep, hat⟩ := dd.dictAt
  have hkeys : vs.map (·.1) = ks.map Sum.inr := rel.keys.symm.trans hks
  have hl : vs.length = ks.length := by
    have e := congrArg List.length hkeys
    rw [List.length_map, List.length_map] at e
    exact e
  have hkz : kvs.length = ks.length := by
    have e := congrArg List.length hks
    rw [List.length_map, List.length_map] at e
    exact e
  have h16 : vs.length ≤ sizeLine := by omega
  refine Calls.call_function_entry PyProof.Rows.kind_sorted PyProof.Rows.plain_sorted PyProof.Rows.entry_sorted (PyProof.Rows.args_sorted1 _) ?_
  unfold Builtin.«sorted»
  refine wpAny_bind (m := checkCount "sorted" 1 1 _) (wpAny_pure ?_)
  refine wpAny_bind (PySem.W.kdu_collect (A := X.A.in1) (PySem.W.kdl_dict (knd := mixKind X.prog X.w) (kvs := vs) (ep := ep) lo) (I.ok.hd hcalm) hat h16 fun h' tk acc hk hacc => ?_)
  have hal : acc.toList.length = ks.length := by rw [Array.length_toList, hacc.1, hl]
  have hS : PyProof.Rows.StrsAre acc.toList ks := strs_each hal fun j v e => by
    obtain ⟨k, x, e1, e2⟩ := hacc.2 j v (by rw [← Array.getElem?_toList]; exact e)
    have e3 : (vs.map (·.1))[j]? = some k := by rw [List.getElem?_map, e1]; rfl
    rw [hkeys, List.getElem?_map] at e3
    cases e4 : ks[j]? with
    | none => rw [e4] at e3; cases e3
    | some y =>
      rw [e4] at e3
      have e5 : Sum.inr y = k := Option.some.inj e3
      subst e5
      rcases keyIs_shape (show keyIs (Sum.inr y) v = true from e2) with ⟨i, t, ek, ev⟩ | ⟨z, t, ek, ev⟩
      · cases ek
      · cases ek
        exact ⟨y, t, rfl, ev⟩
  have I1 : Inv X pins σ H { s with heap := h', toks := tk } := I.kept hk
  refine wpAny_bind (wpAny_newList ?_ (by rw [hal]; omega))
  have hoL : (h'.push (PyProof.Rows.seqObj "list" acc.toList.toArray 0)).get? h'.objs.size = some (PyProof.Rows.seqObj "list" acc.toList.toArray 0) := Heap.get?_push_size _ rfl
  show wpAny _ _ _ _ _ { s with heap := h'.push (PyProof.Rows.seqObj "list" acc.toList.toArray 0), toks := tk }
  refine wpAny_bind (wpAny_holding (wpAny_call_entry PyProof.Rows.slot_list_sort ⟨_, hoL, rfl⟩ PyProof.Rows.entry_list_sort
    (list_sort_strsAny0 (s := { s with heap := h'.push (PyProof.Rows.seqObj "list" acc.toList.toArray 0), toks := tk }) hoL hS (by rw [hal]; omega) fun out ys g1 g2 g3 => ⟨_, rfl, ?_⟩) (PyProof.Rows.args_list_sort _)))
  obtain ⟨e', he'⟩ := PyProof.Rows.sortedHeap_at (vs := acc.toList) (out := out) hoL
  have hlen : (ys.map V.str).length ≤ sizeLine := by
    rw [List.length_map, g2.length_eq]
    omega
  refine wpAny_pure ⟨_, rfl, .ref h'.objs.size, upd H h'.objs.size (.lst (ys.map V.str)), I1.laid (t' := tk) (fun b u e => ?_) (Nat.le_refl _)
    (show ObjOk X.prog X.w _ _ _ (.lst (ys.map V.str)) from ⟨hlen, out.toList, e', vals_of_strs g1, by rw [Array.toArray_toList]; exact he'⟩), rfl, q ys _ g2 g3 (I1.hok.fresh (Nat.le_refl _))⟩
  have hb : b < h'.objs.size := Heap.lt_size e
  rw [PyProof.Rows.sortedHeap_old (Nat.ne_of_lt hb) (by rw [PyProof.Rows.size_push']; exact Nat.lt_succ_of_lt hb)]
  exact Heap.get?_push_of_some _ e
theorem kT_ints {kvs : List (Key × V)} {is : List Int} (h : kvs.map (fun p => kT p.1) = is.map T.int) : kvs.map (·.1) = is.map Sum.inl := by
  induction kvs generalizing is with
  | nil => cases is with
    | nil => rfl
    | cons i is => cases h
  | cons p kvs ih =>
    cases is with
    | nil => cases h
    | cons i is =>
      simp only [List.map_cons, List.cons.injEq] at h ⊢
      obtain ⟨h1, h2⟩ := h
      refine ⟨?_, ih h2⟩
      cases hp : p.1 with
      | inl j => rw [hp] at h1; injection h1 with h1; rw [h1]
      | inr x => rw [hp] at h1; cases h1
theorem kT_strs {kvs : List (Key × V)} {ss : List (List Nat)} (h : kvs.map (fun p => kT p.1) = ss.map T.str) : ∃ zs : List PySem.Str, kvs.map (·.1) = zs.map Sum.inr ∧ ss = zs.map fun z : PySem.Str => z.cps.toList := by
  induction kvs generalizing ss with
  | nil => cases ss with
    | nil => exact ⟨[], rfl, rfl⟩
    | cons i is => cases h
  | cons p kvs ih =>
    cases ss with
    | nil => cases h
    | cons i is =>
      simp only [List.map_cons, List.cons.injEq] at h
      obtain ⟨h1, h2⟩ := h
      obtain ⟨zs, e1, e2⟩ := ih h2
      cases hp : p.1 with
      | inl j => rw [hp] at h1; cases h1
      | inr x =>
        rw [hp] at h1
        injection h1 with h1
        exact ⟨x :: zs, by simp [hp, e1], by simp [e2, ← h1]⟩
theorem PK.dk {ks ts : List T} {v : V} (h : PK K H Z (.dct false ks ts) v) : ∃ a kvs, v = .ref a ∧ Rd H a (.dK kvs) ∧ kvs.map (fun p => kT p.1) = ks := by
  rcases h with h | ⟨a, rfl, h⟩
  · cases h with
    | dK h1 h2 h3 h4 h5 => exact ⟨_, _, rfl, h1, h3⟩
  · cases h with
    | dK h1 h2 h3 h4 => exact ⟨_, _, rfl, .inl h1, h2⟩
theorem c_sorted (hc : X.calm = true) (hu : X.A.units + 65 < cLine) : CR X (.builtin "sorted") .sorted := by
  intro pins s σ H vs us Q I rs ⟨Z, ts, res, zd, pk, e, q⟩
  have e : prSorted ts = some res := e
  unfold prSorted at e
  split at e
  · rename_i xs
    cases pk with
    | cons h hh =>
      cases hh
      obtain ⟨a, ws, rfl, h1, h2⟩ := h.lst
      split at e
      · rename_i is e0
        cases e
        have e1 := ints_of e0
        subst e1
        rw [h2.ints] at h1
        refine cr_sortedI pins s σ H _ us Q I rs ⟨a, is, rfl, h1.sq, fun ns' p h1 h2 n => ?_⟩
        have e3 : ns' = is.mergeSort leI := (h1.trans (List.mergeSort_perm is leI).symm).eq_of_pairwise (fun a b _ _ h1 h2 => Int.le_antisymm h1 h2) h2 (leI_sorted is)
        rw [e3]
        exact fin_lst zd q (RFs.ofInts _) p n
      · split at e
        · rename_i ss e0
          cases e
          have e1 := strs_of e0
          subst e1
          obtain ⟨zs, rfl, g3⟩ := h2.strs
          cases g3
          refine cr_sortedSA pins s σ H _ us Q I rs ⟨a, zs, rfl, h1.sq, fun ys p h1 h2 n => ?_⟩
          have e3 : ys.map (fun z : PySem.Str => z.cps.toList) = (zs.map fun z : PySem.Str => z.cps.toList).mergeSort leS :=
            ((h1.map _).trans (List.mergeSort_perm _ leS).symm).eq_of_pairwise (fun a b _ _ h1 h2 => leS_anti a b h1 h2) (List.pairwise_map.mpr (sortedS_le ys h2)) (leS_sorted _)
          rw [← e3] at q
          exact fin_lst zd q (RFs.ofStrs _) p n
        · split at e
          · rename_i ps e0
            cases e
            have e1 := prs_of e0
            subst e1
            obtain ⟨L, rfl, g2, g3⟩ := h2.prs
            refine cr_sortedQ pins s σ H _ us Q I rs ⟨a, L, rfl, h1.sq, g3, fun M p k1 k2 n => ?_⟩
            have e3 : M.map (·.2) = ps.mergeSort leP := by
              rw [← g2]
              exact ((k1.map _).trans (List.mergeSort_perm _ leP).symm).eq_of_pairwise (fun a b _ _ h1 h2 => leP_anti a b h1 h2) (List.pairwise_map.mpr k2) (List.pairwise_mergeSort leP_trans leP_total _)
            rw [← e3] at q
            exact fin_lst zd q (RFs.ofPrs fun x hx => g3 x (k1.mem_iff.mp hx)) p n
          · split at e
            · rename_i ls e0
              cases e
              obtain ⟨e1, ne⟩ := tps0_of e0
              subst e1
              obtain ⟨L, rfl, g2, g3⟩ := tps_addr h2
              refine cr_sortedL hu pins s σ H _ us Q I rs ⟨a, L, rfl, h1.sq, g3, fun q hq => ne _ (by rw [← g2]; exact List.mem_map.mpr ⟨q, hq, rfl⟩), fun M p k1 k2 n => ?_⟩
              rw [g2] at k2
              rw [← k2] at q
              exact fin_lst zd q (RFs.ofTps fun x hx => g3 x (k1.mem_iff.mp hx)) p n
            · cases e
  · rename_i xs
    cases pk with
    | cons h hh =>
      cases hh
      obtain ⟨a, ws, rfl, h1, h2⟩ := h.tup
      split at e
      · rename_i is e0
        cases e
        have e1 := ints_of e0
        subst e1
        rw [h2.ints] at h1
        refine cr_sortedTI pins s σ H _ us Q I rs ⟨a, is, rfl, h1, fun ns' p h1 h2 n => ?_⟩
        have e3 : ns' = is.mergeSort leI := (h1.trans (List.mergeSort_perm is leI).symm).eq_of_pairwise (fun a b _ _ h1 h2 => Int.le_antisymm h1 h2) h2 (leI_sorted is)
        rw [e3]
        exact fin_lst zd q (RFs.ofInts _) p n
      · cases e
  · rename_i ks ts0
    cases pk with
    | cons h hh =>
      cases hh
      obtain ⟨a, kvs, rfl, h1, h2⟩ := PK.dk h
      split at e
      · rename_i is e0
        cases e
        have e1 := ints_of e0
        subst e1
        refine cr_sortedDI hc pins s σ H _ us Q I rs ⟨a, kvs, is, rfl, h1, kT_ints h2, fun ns' p h1 h2 n => ?_⟩
        have e3 : ns' = is.mergeSort leI := (h1.trans (List.mergeSort_perm is leI).symm).eq_of_pairwise (fun a b _ _ h1 h2 => Int.le_antisymm h1 h2) h2 (leI_sorted is)
        rw [e3]
        exact fin_lst zd q (RFs.ofInts _) p n
      · split at e
        · rename_i ss e0
          cases e
          have e1 := strs_of e0
          subst e1
          obtain ⟨zs, g1, rfl⟩ := kT_strs h2
          refine cr_sortedDS hc pins s σ H _ us Q I rs ⟨a, kvs, zs, rfl, h1, g1, fun ys p h1 h2 n => ?_⟩
          have e3 : ys.map (fun z : PySem.Str => z.cps.toList) = (zs.map fun z : PySem.Str => z.cps.toList).mergeSort leS :=
            ((h1.map _).trans (List.mergeSort_perm _ leS).symm).eq_of_pairwise (fun a b _ _ h1 h2 => leS_anti a b h1 h2) (List.pairwise_map.mpr (sortedS_le ys h2)) (leS_sorted _)
          rw [← e3] at q
          exact fin_lst zd q (RFs.ofStrs _) p n
        · cases e
  · cases e
end
end Ir

set_option Elab.async false
set_option linter.all false
namespace Ir
open PySem L2

section
variable {X : L2.Cx} {K : PySem.W.Frag} {H H0 H' H1 H2 H3 : Hp} {Z Z0 Z' Z1 Z2 Z3 Zc F : Addr → Prop} {l l0 l1 l2 l3 l' : Loc} {σ σ0 σ1 σ2 σ' : St} {t x : T} {ts xs fin : List T} {v y : V} {vs : List V} {a b : Addr} {o : Op} {os : List Op} {ks fg : List Nat} {k : Nat} {e e2 e3 : Expr} {es : List Expr} {pos apos cpos : Pos} {st : Stmt} {sts : List Stmt} {m n : M Vl} {mo no : M Op} {D : Ends}

/-- k[i], by values -/
def rGetL : V → V → Hp → VK → Prop := fun x y H Q => ∃ p xs i v, x = .ref p ∧ y = .int i ∧ H p = some (.lst xs) ∧ L2.atI xs i = some v ∧ Q v H
theorem get_list : PGet X rGetL := by
  intro pins s σ H x y v u Q I rx ry h
  obtain ⟨p, xs, i, z, rfl, rfl, hq, he, q⟩ := h
  cases rx
  obtain ⟨t, rfl⟩ := ry
  obtain ⟨its, r, pl, hz⟩ := I.list (SqL.of hq)
  obtain ⟨j, h1, h2, h3, h4, h5⟩ := atI_get he
  obtain ⟨w, ew, rw'⟩ := r.get h2
  have hl := r.length
  have hn := line63
  have fin : EP X pins σ Q w s := ⟨z, H, I, rw', q⟩
  by_cases h0 : 0 ≤ i
  · have hj : i.toNat = j := by
      rw [seqIndex_of h0 h5] at h1
      exact Option.some.inj h1
    exact wpAny_getItem_list pl.isList h0 (by omega) (by rw [hj]; simpa using ew) fin
  · have hj : (i + (its.toArray.size : Int)).toNat = j := by
      rw [seqIndex_neg (by omega) h4] at h1
      rw [List.size_toArray, ← hl]
      exact Option.some.inj h1
    exact wpAny_getItem_list_neg pl.isList (by omega) (by rw [List.size_toArray] <;> omega) (by omega) (by rw [hj]; simpa using ew) fin
/-- k[i] op= e -/
theorem pS_augi {op : Operator} {p : Pr} (hk : PE X e (tVar k)) (hi : PE X e3 (rE X.K m)) (he : PE X e2 (rO X.K mo)) (ho : PIp X op (rIp X.K p))
    (ha : ∀ ov iv new, augStore e3 ov iv new = (do holding [new, ov, iv] (setItem ov iv new); release [new, ov, iv] []; pure .next)) :
    PS X (.AugAssign (.Subscript e e3 apos) op e2 pos) (rS X.K F (augiM k m p mo)) := (ps_augS hk hi get_list he ho set_list ha).irw fun D σ H ⟨l, Z, f, l', A, f1, f2, e, q⟩ => by
  obtain ⟨t0, l0, g1, g2⟩ := bind_some.mp e
  obtain ⟨g0, s, g3, g4, g5⟩ := own_get g1
  subst g0
  obtain ⟨a, hka, _⟩ := A.ow k s t0 g3 g4
  obtain ⟨w, l1, e1, c1⟩ := bind_some.mp g2
  obtain ⟨i, l2, e2, c2⟩ := bind_some.mp c1
  obtain ⟨rfl, rfl⟩ := intOf_some e2
  obtain ⟨t, l3, e3, c3⟩ := bind_some.mp c2
  split at c3
  case h_2 => cases c3
  rename_i xs
  split at c3
  case h_2 => cases c3
  rename_i old hold
  obtain ⟨o, l4, e4, c4⟩ := bind_some.mp c3
  split at c4
  case h_2 => cases c4
  rename_i u hu
  split at c4
  case h_2 => cases c4
  rename_i nw hnw
  split at c4
  case isFalse => cases c4
  rename_i hok
  obtain ⟨_, l5, e5, e6⟩ := bind_some.mp c4
  obtain ⟨rfl, rfl⟩ := ret_some.mp e6
  refine ⟨_, hka, _, Z, _, l1, A, e1, fun iv H1 Z1 P1 R1 => ?_⟩
  cases R1
  obtain ⟨e0, a', vs, q1, q2, r2⟩ := own_list P1.po.al e3
  subst e0
  obtain rfl := own_inj hka q1
  obtain ⟨ov, g6, g7⟩ := get_T r2 hold
  refine ⟨a, vs, i, ov, rfl, rfl, q2, g6, _, Z1, o, l4, P1.po.al, e4, fun y H2 Z2 P2 R2 => ?_⟩
  have g8 : RF X.K H2 Z2 old ov := g7.ex P2.po.ex (W_sub P1.po.al)
  refine .inl ⟨Z2, old, u, nw, .inl g8, R2.peek P2.po.al hu, hnw, hok, P2.po.al.zd, fun v H3 Z3 ex r => ?_⟩
  have P3 := PostE.new P2.po.al ex
  exact setAt_post P3.po.al e5 (.int _) r hka fun ws PP => q σ _ Z3 ((P1.trans P2).trans (P3.trans PP)).po
end
end Ir

set_option Elab.async false
set_option linter.all false
set_option maxRecDepth 20000
/-! x[::2] and x[1::2] -/
namespace Ir
theorem ev2_range {α : Type} : ∀ (ys : List α), (List.range ((ys.length + 1) / 2)).filterMap (fun k => ys[2 * k]?) = ev2 ys
  | [] => by simp [ev2]
  | [x] => by simp [ev2]
  | x :: y :: r => by
    have e : ((x :: y :: r).length + 1) / 2 = (r.length + 1) / 2 + 1 := by simp only [List.length_cons]; omega
    rw [e, List.range_succ_eq_map, List.filterMap_cons]
    simp only [Nat.mul_zero, List.getElem?_cons_zero, ev2]
    rw [List.filterMap_map, ← ev2_range r]
    congr 1
theorem ev2_len {α : Type} : ∀ (ys : List α), (ev2 ys).length = (ys.length + 1) / 2
  | [] => by simp [ev2]
  | [x] => by simp [ev2]
  | x :: y :: r => by
    simp only [ev2, List.length_cons, ev2_len r]; omega
/-- every second one from a place on -/
theorem ev2_drop {α : Type} (xs : List α) (a m : Nat) (f : Nat → Nat) (hm : m = (xs.length - a + 1) / 2) (hf : ∀ k, k < m → f k = a + 2 * k) : (List.range m).filterMap (fun k => xs[f k]?) = ev2 (xs.drop a) := by
  rw [← ev2_range, List.length_drop, ← hm]
  have e1 : (List.range m).filterMap (fun k => xs[f k]?) = ((List.range m).map f).filterMap (xs[·]?) := by rw [List.filterMap_map]; rfl
  have e2 : (List.range m).filterMap (fun k => (xs.drop a)[2 * k]?) = ((List.range m).map fun k => a + 2 * k).filterMap (xs[·]?) := by
    rw [List.filterMap_map]
    congr 1
    funext k
    rw [List.getElem?_drop]; rfl
  rw [e1, e2]
  congr 1
  exact List.map_congr_left fun k hk => hf k (List.mem_range.mp hk)
end Ir
namespace HT
open PySem PySem.Spec PyProof.Rows
section
variable {prog : Program} {w : World} {A : Around} {E : Value → Shared → Prop} {s : Shared}
/-- where it begins -/
def beg (lo : Option Int) (n : Nat) : Nat := match lo with
  | none => 0
  | some _ => min 1 n
theorem adjust_two {lo : Option Int} (hlo : lo = none ∨ lo = some 1) (n : Nat) : Builtin.Slice.sliceAdjust lo none 2 (n : Int) = (((beg lo n : Nat) : Int), (n : Int)) := by
  unfold Builtin.Slice.sliceAdjust beg
  rcases hlo with rfl | rfl
  · simp
  · simp; omega
theorem places_two {lo : Option Int} (hlo : lo = none ∨ lo = some 1) (n : Nat) : Builtin.Slice.slicePlaces ((beg lo n : Nat) : Int) (n : Int) 2 = (n - beg lo n + 1) / 2 := by
  unfold Builtin.Slice.slicePlaces
  rw [if_pos (by decide)]
  have : beg lo n ≤ n := by unfold beg; split <;> omega
  split <;> omega
theorem applied_two {sl : Addr} {vl vk : Value} {lo : Option Int} (hlo : lo = none ∨ lo = some 1) {n : Nat} {Q : Int × Int × Nat → Shared → Prop} (hs : s.heap.IsSliceOf sl vl .none vk) (pl : IsPart vl lo) (pk : IsPart vk (some 2))
    (h : Q (((beg lo n : Nat) : Int), 2, (n - beg lo n + 1) / 2) s) : wpAny (model prog w) A (Builtin.Slice.sliceApplied (.ref sl) (pure (n : Int))) Q E s := by
  obtain ⟨os, hos, hcs, hds⟩ := id hs
  unfold Builtin.Slice.sliceApplied Builtin.Slice.sliceFields
  refine wpAny_bind (wpAny_bind (wpAny_field hos hds (x := vl) rfl (wpAny_bind (wpAny_field hos hds (x := .none) rfl (wpAny_bind (wpAny_field hos hds (x := vk) rfl (wpAny_pure ?_)))))))
  refine wpAny_bind (slicePart_ pk ?_)
  show wpAny _ _ (if ((2 : Int) == 0) = true then _ else _) _ _ s
  rw [if_neg (by decide)]
  refine wpAny_bind (slicePart_ pl (wpAny_bind (slicePart_none (wpAny_bind (wpAny_pure ?_)))))
  show wpAny _ _ (match Builtin.Slice.sliceAdjust lo none 2 (n : Int) with | (lo, hi) => pure (lo, (2 : Int), Builtin.Slice.slicePlaces lo hi 2)) _ _ s
  rw [adjust_two hlo]
  show wpAny _ _ (pure (((beg lo n : Nat) : Int), (2 : Int), Builtin.Slice.slicePlaces ((beg lo n : Nat) : Int) (n : Int) 2)) _ _ s
  rw [places_two hlo]
  exact wpAny_pure h
theorem pick_two (xs : Array Value) (a : Nat) : ((List.range ((xs.size - a + 1) / 2)).filterMap fun (m : Nat) => xs[((a : Int) + (m : Int) * 2).toNat]?).toArray = (Ir.ev2 (xs.toList.drop a)).toArray := by
  congr 1
  have := Ir.ev2_drop xs.toList a ((xs.size - a + 1) / 2) (fun m => ((a : Int) + (m : Int) * 2).toNat) (by simp) (fun k _ => by omega)
  simpa using this
theorem getItem_tuple_two {t sl : Addr} {items : Array Value} {vl vk : Value} {lo : Option Int} (hlo : lo = none ∨ lo = some 1) {Q : Value → Shared → Prop} (ht : IsTup s.heap t items) (hs : s.heap.IsSliceOf sl vl .none vk) (pl : IsPart vl lo) (pk : IsPart vk (some 2))
    (h : Q (.ref s.heap.objs.size) { s with heap := s.heap.push { cls := .type "tuple", data := .seq (Ir.ev2 (items.toList.drop (beg lo items.size))).toArray } })
    (hsz : items.size ≤ sizeLine) : wpAny (model prog w) A (getItem (.ref t) (.ref sl)) Q E s := by
  have htake : sizeOk (.seq (Ir.ev2 (items.toList.drop (beg lo items.size))).toArray) := by
    show (Ir.ev2 (items.toList.drop (beg lo items.size))).toArray.size ≤ sizeLine
    rw [List.size_toArray, Ir.ev2_len, List.length_drop, Array.length_toList]
    omega
  obtain ⟨os, hos, hcs, hds⟩ := id hs
  have hTs : s.TypeIs (.ref sl) "slice" := ⟨os, hos, hcs⟩
  unfold getItem
  try with_reducible refine wpAny_holding ?_
  first | refine wpAny_bind (wpAny_pure ?_) | skip
  refine wpAny_bind (wpAny_sequenceKey ht.typeIs (by decide) ?_)
  refine wpAny_bind (wpAny_callSpecial?_slot (name := Str.ofString "__getitem__") ht.typeIs PyProof.Rows.slot_tuple_getitem
    (wpAny_call_entry PyProof.Rows.slot_tuple_getitem ht.typeIs entry_tuple_getitem ?_ (args_tuple_getitem _ _)))
  show wpAny _ _ (Builtin.Tuple.tupleItemsOf (.ref t) >>= _) _ _ s
  refine wpAny_bind (tupleItemsOf_ ht ?_)
  refine wpAny_bind (wpAny_typeOf hTs ?_)
  rw [if_pos (by decide)]
  refine wpAny_bind (applied_two hlo hs pl pk ?_)
  have hno : ¬ ((((beg lo items.size : Nat) : Int) == 0 && (2 : Int) == 1 && (items.size - beg lo items.size + 1) / 2 == items.size) = true) := by
    intro q
    simp at q
  show wpAny _ _ (if (((beg lo items.size : Nat) : Int) == 0 && (2 : Int) == 1 && (items.size - beg lo items.size + 1) / 2 == items.size) = true then _ else _) _ _ s
  rw [if_neg hno, pick_two]
  first
    | exact wpAny_bind (m := Builtin.Tuple.tupleExact _) (wpAny_newObj_type (wpAny_pure ⟨_, rfl, wpAny_pure h⟩) htake)
    | exact wpAny_bind (m := Builtin.Tuple.tupleExact _) (wpAny_newObj_type (wpAny_bind (wpAny_pure (wpAny_pure ⟨_, rfl, wpAny_pure h⟩))) htake)
    | exact wpAny_bind (wpAny_bind (m := Builtin.Tuple.tupleExact _) (wpAny_newObj_type (wpAny_pure (wpAny_pure ⟨_, rfl, wpAny_pure h⟩)) htake))
    | exact wpAny_bind (wpAny_bind (m := Builtin.Tuple.tupleExact _) (wpAny_newObj_type (wpAny_pure ⟨_, rfl, wpAny_pure h⟩) htake))
/-- of a range by two -/
theorem range_two (a n : Nat) (h : a ≤ n) : sliceRange (a : Int) (n : Int) 2 = (List.range ((n - a + 1) / 2)).map fun k => a + 2 * k := by
  unfold sliceRange
  rw [if_pos (by decide)]
  have e : (if (a : Int) < (n : Int) then ((n : Int) - (a : Int) + 2 - 1) / 2 else 0).toNat = (n - a + 1) / 2 := by split <;> omega
  dsimp only
  rw [e]
  apply List.map_congr_left
  intro k _
  omega
theorem beg_le {lo : Option Int} (n : Nat) : beg lo n ≤ n := by unfold beg; split <;> omega
theorem bounds_two {lo : Option Int} (hlo : lo = none ∨ lo = some 1) (n : Nat) : sliceBounds lo none (some 2) n = (((beg lo n : Nat) : Int), (n : Int), 2) := by
  unfold sliceBounds beg
  rcases hlo with rfl | rfl
  · simp
  · simp; omega
theorem listPick_two {lo : Option Int} (hlo : lo = none ∨ lo = some 1) (items : Array Value) : slicePick items lo none (some 2) = (Ir.ev2 (items.toList.drop (beg lo items.size))).toArray := by
  unfold slicePick
  rw [bounds_two hlo]
  simp only
  rw [range_two _ _ (beg_le _), List.filterMap_map]
  congr 1
  have := Ir.ev2_drop items.toList (beg lo items.size) ((items.size - beg lo items.size + 1) / 2) (fun k => beg lo items.size + 2 * k) (by simp) (fun k _ => rfl)
  simpa [Function.comp_def] using this
theorem str_two {lo : Option Int} (hlo : lo = none ∨ lo = some 1) (z : Str) : ((Builtin.Str.strSliceIndices lo none 2 z.length).filterMap (z.cps[·]?)) = Ir.ev2 (z.cps.toList.drop (beg lo z.length)) := by
  have e : Builtin.Str.strSliceIndices lo none 2 z.length = sliceRange ((beg lo z.length : Nat) : Int) (z.length : Int) 2 := by
    unfold Builtin.Str.strSliceIndices beg
    rcases hlo with rfl | rfl
    · simp
    · simp; congr 1; omega
  rw [e, range_two _ _ (beg_le _), List.filterMap_map]
  have := Ir.ev2_drop z.cps.toList (beg lo z.length) ((z.length - beg lo z.length + 1) / 2) (fun k => beg lo z.length + 2 * k) (by simp [Str.length]) (fun k _ => rfl)
  simpa [Function.comp_def] using this
end
end HT

namespace Ir
open PySem PySem.Spec L2 PyProof.Rows
section
variable {X : L2.Cx} {K : PySem.W.Frag} {H H0 H' H1 H2 : Hp} {Z Z0 Z' Z1 Z2 : Addr → Prop} {t : T} {ts xs fin : List T} {v x y : V} {vs : List V} {a b : Addr} {Q : VK} {p : Pr} {res : Vl} {e e2 e3 : Expr} {es : List Expr} {pos p1 p2 p3 p4 : Pos} {σ : L2.St} {m n : M Vl} {mo : M Op} {l l1 l2 l' : Loc}
def onum (lo : Option Int) : Nat := if lo = none then 0 else 1
theorem drop_beg {α : Type} (xs : List α) {lo : Option Int} (hlo : lo = none ∨ lo = some 1) : xs.drop (HT.beg lo xs.length) = xs.drop (onum lo) := by
  rcases hlo with rfl | rfl
  · rfl
  · unfold HT.beg onum
    cases xs with
    | nil => rfl
    | cons a r => simp
theorem Vals.ev2 {vs : List V} {us : List Value} (h : Vals vs us) : Vals (Ir.ev2 vs) (Ir.ev2 us) := by
  match vs, us, h with
  | _, _, .nil => exact .nil
  | _, _, .cons r .nil => exact .cons r .nil
  | _, _, .cons r (.cons _ q) => exact .cons r (Vals.ev2 q)
theorem Vals.drop {vs : List V} {us : List Value} (h : Vals vs us) (n : Nat) : Vals (vs.drop n) (us.drop n) := by
  induction h generalizing n with
  | nil => simp; exact .nil
  | cons r rr ih => cases n with
    | zero => exact .cons r rr
    | succ n => exact ih n
/-- every second one -/
theorem get_two {pins : List (Addr × Obj)} {s : Shared} {v vl vk : Value} {sl : Addr} {lo : Option Int} (hlo : lo = none ∨ lo = some 1) (I : L2.Inv X pins σ H s) (rx : RelV x v) (hs : s.heap.IsSliceOf sl vl .none vk) (pl : IsPart vl lo) (pk : IsPart vk (some 2))
    (zd : ∀ b, Z b → H b ≠ none) (k : PK X.K H Z t x) (e : prEv (onum lo) [t] = some res) (q : Fin X.K H Z res Q) :
    ∃ T id, typeLookup (.type T) "__getitem__" = pure (some (.builtin id)) ∧ s.TypeIs v T ∧ PySem.wpAny (PySem.model X.prog X.w) X.A (getItem v (.ref sl)) (EP X pins σ Q) X.xe s := by
  unfold prEv at e
  split at e
  · rename_i xs h
    cases h
    cases e
    obtain ⟨a, vs, rfl, k1, k2⟩ := k.lst
    cases rx
    obtain ⟨its, r, ht, hz⟩ := I.list k1.sq
    have hlen := r.length
    refine ⟨"list", _, PySem.slot_list_getitem.lookup, ht.isList.typeIs, ?_⟩
    refine wpAny_getItem_list_slice ht.isList hs pl .none pk (by decide) ?_ (by rw [List.size_toArray]; omega)
    rw [HT.listPick_two hlo]
    refine ⟨.ref _, _, I.laid (t' := s.toks) (o := .lst (Ir.ev2 (vs.drop (onum lo)))) (fun b ob q => Heap.get?_push_of_some _ q) (Nat.le_refl _) ?_, rfl, fin_lst zd q (k2.drop _).ev2 _ (I.hok.fresh (Nat.le_refl _))⟩
    refine ⟨by rw [ev2_len, List.length_drop]; omega, _, 0, Vals.ev2 (Vals.drop r (onum lo)), ?_⟩
    have e1 : (Ir.ev2 (its.toArray.toList.drop (HT.beg lo its.toArray.size))) = Ir.ev2 (its.drop (onum lo)) := by
      rw [← drop_beg its hlo]; simp
    rw [e1]
    exact Heap.get?_push_size _ rfl
  · rename_i xs h
    cases h
    cases e
    obtain ⟨a, vs, rfl, k1, k2⟩ := k.tup
    cases rx
    obtain ⟨its, r, ht, hz⟩ := I.tuple k1
    have hlen := r.length
    refine ⟨"tuple", _, PyProof.Rows.slot_tuple_getitem.lookup, ht.typeIs, ?_⟩
    refine HT.getItem_tuple_two hlo ht hs pl pk ?_ (by rw [List.size_toArray]; omega)
    refine ⟨.ref s.heap.objs.size, _, I.laid (t' := s.toks) (o := .tup (Ir.ev2 (vs.drop (onum lo)))) (fun b ob q => Heap.get?_push_of_some _ q) (Nat.le_refl _) ?_, rfl, fin_tup zd q (k2.drop _).ev2 _ (I.hok.fresh (Nat.le_refl _))⟩
    refine ⟨by rw [ev2_len, List.length_drop]; omega, _, Vals.ev2 (Vals.drop r (onum lo)), ?_⟩
    have e1 : (Ir.ev2 (its.toArray.toList.drop (HT.beg lo its.toArray.size))) = Ir.ev2 (its.drop (onum lo)) := by
      rw [← drop_beg its hlo]; simp
    rw [e1]
    exact IsTup.new _ _
  · rename_i xs h
    cases h
    obtain ⟨c, rfl⟩ := if_some e
    obtain ⟨z, rfl, k1⟩ := k.str
    obtain ⟨t, rfl⟩ := rx
    obtain ⟨os, hos, hcs, hds⟩ := hs
    obtain ⟨u, rfl, hu⟩ := IsPart.raw pk
    obtain ⟨ul, rfl, hul⟩ := IsPart.raw pl
    cases u with
    | none => cases hu
    | some u =>
      obtain ⟨ui, ut⟩ := u
      cases hu
      refine ⟨"str", _, F.slot_str_getitem.lookup, typeIs_str _ _ _, ?_⟩
      refine wpAny_getItem_str_slice (l := ul) (u := none) (st := some (Int.ofNat 2, ut)) ⟨os, hos, hcs, hds⟩ rfl ?_
      have hq := fin_str (z := ⟨(Ir.ev2 (z.cps.toList.drop (onum lo))).toArray⟩) zd q (by rw [← k1])
      have hb := HT.str_two hlo z
      have e1 : Ir.ev2 (z.cps.toList.drop (HT.beg lo z.length)) = Ir.ev2 (z.cps.toList.drop (onum lo)) := by
        rw [← drop_beg _ hlo, Str.len rfl]
      rw [e1] at hb
      show Made.post (if ((2 : Int) == 1 && (Builtin.Str.strSliceIndices (ul.map (·.1)) none 2 z.length).length == z.length) = true then Made.val (.str z t)
        else Made.str ⟨((Builtin.Str.strSliceIndices (ul.map (·.1)) none 2 z.length).filterMap (z.cps[·]?)).toArray⟩) (EP X pins σ Q) s
      rw [hul, if_neg (by simp), hb]
      refine ⟨?_, .str _, H, I.tok _, ⟨_, rfl⟩, hq⟩
      show ((Ir.ev2 (z.cps.toList.drop (onum lo))).toArray).size ≤ sizeLine
      rw [List.size_toArray, ev2_len, List.length_drop, k1]
      have : xs.length ≤ sizeLine := c
      omega
  · cases e
/-- x[::2], x[1::2] by a reading of x -/
def rTwo (K : PySem.W.Frag) (lo : Option Int) : V → Hp → VK → Prop := fun x H Q => ∃ Z t res, (∀ b, Z b → H b ≠ none) ∧ PK K H Z t x ∧ prEv (onum lo) [t] = some res ∧ Fin K H Z res Q
theorem pe_two {te : TE} {kn : Nat} {low : Option Expr} {lo : Option Int} (hlo : lo = none ∨ lo = some 1) (hl : ∀ (pins : List (Addr × Obj)) s σ H (Q : Option Int → Hp → Prop), Inv X pins σ H s → Q lo H → PySem.wpAny (PySem.model X.prog X.w) X.A (evalPart low X.env) (fun v s' => ∃ o H', Inv X pins σ H' s' ∧ IsPart v o ∧ Q o H') X.xe s) (he : PE X e te) : PE X (.Subscript e (.Slice low none (some (.Constant (.int 2) kn p1)) p3) pos) (fun σ H Q => te σ H fun x H1 => rTwo X.K lo x H1 Q) := by
  refine ⟨fun pins s σ H Q I h => ?_⟩
  refine Subscript_ (thn (he.run pins s σ H _ I h) fun v s1 ⟨x, H1, I1, r1, q1⟩ => ?_)
  obtain ⟨Z, t, res, zd, k, er, q⟩ := q1
  have hst : PO X (some (.Constant (.int 2) kn p1)) (tPart (tC (.int 2))) := po_some pe_int
  refine wpAny_Slice (thn (hl pins s1 σ H1 (fun o H2 => o = lo ∧ H2 = H1) I1 ⟨rfl, rfl⟩) fun vl s2 ⟨l, H2, I2, pl, el, e2⟩ => ?_)
  subst el e2
  refine thn (po_none.run pins s2 σ H2 (fun o H3 => o = none ∧ H3 = H2) I2 ⟨rfl, rfl⟩) fun vu s3 ⟨u, H3, I3, pu, eu, e3⟩ => ?_
  subst eu e3
  refine thn (hst.run pins s3 σ H3 (fun o H4 => o = some 2 ∧ H4 = H3) I3 ⟨2, rfl, rfl, rfl⟩) fun vs s4 ⟨o, H4, I4, ps, eo, e4⟩ => ?_
  subst eo e4
  cases pu
  have I5 : Inv X pins σ H4 { s4 with heap := s4.heap.push { cls := .type "slice", data := .fields #[vl, .none, vs] } } := I4.kept (t' := s4.toks) fun b ob q => Heap.get?_push_of_some _ q
  obtain ⟨T, id, hT, ht, hg⟩ := get_two hlo (s := { s4 with heap := s4.heap.push { cls := .type "slice", data := .fields #[vl, .none, vs] } }) I5 r1 (Heap.IsSliceOf.new ..) pl ps zd k er q
  show wpAny (model X.prog X.w) X.A (subscriptTail e (.Slice low none (some (.Constant (.int 2) kn p1)) p3) v (.ref s4.heap.objs.size)) (EP X pins σ Q) X.xe { s4 with heap := s4.heap.push { cls := .type "slice", data := .fields #[vl, .none, vs] } }
  exact tail_any (ops := [v, .ref s4.heap.objs.size]) ht hT hg (by with_unfolding_all rfl)
theorem two_read {lo : Option Int} {pr : Pr} (hp : ∀ ts, prS pr ts = prEv (onum lo) ts) (σ : L2.St) (H : Hp) (Q : VK) (h : rE K (prM pr (bind mo fun o => bind (ret []) fun os => ret (o :: os))) σ H Q) : rO K mo σ H fun x H1 => rTwo K lo x H1 Q := by
  obtain ⟨l, Z, r, l', A, e, q⟩ := rP_one h
  refine ⟨l, Z, r, l', A, e, fun v H' Z' P R => ?_⟩
  obtain ⟨Z4, ts, res, zd, pk, e4, q4⟩ := q v H' Z' P R
  rw [hp] at e4
  have h1 : ∃ t, ts = [t] := by
    unfold prEv at e4
    split at e4
    · exact ⟨_, rfl⟩
    · exact ⟨_, rfl⟩
    · exact ⟨_, rfl⟩
    · cases e4
  obtain ⟨t, rfl⟩ := h1
  obtain ⟨t', e6, h1⟩ := pk.one
  cases e6
  exact ⟨Z4, t, res, zd, h1, e4, q4⟩
theorem pE_ev {kn : Nat} (h : PE X e (rO X.K mo)) : PE X (.Subscript e (.Slice none none (some (.Constant (.int 2) kn p1)) p3) pos) (rE X.K (prM .ev (bind mo fun o => bind (ret []) fun os => ret (o :: os)))) :=
  (pe_two (.inl rfl) (fun pins s σ H Q I q => po_none.run pins s σ H Q I q) h).irw (two_read (lo := none) fun _ => rfl)
theorem pE_od {kn k2 : Nat} (h : PE X e (rO X.K mo)) : PE X (.Subscript e (.Slice (some (.Constant (.int 1) k2 p2)) none (some (.Constant (.int 2) kn p1)) p3) pos) (rE X.K (prM .od (bind mo fun o => bind (ret []) fun os => ret (o :: os)))) :=
  (pe_two (.inr rfl) (fun pins s σ H Q I q => (po_some (pe_int (i := 1))).run pins s σ H Q I ⟨1, rfl, q⟩) h).irw (two_read (lo := some 1) fun _ => rfl)
end
end Ir

set_option Elab.async false
set_option linter.all false
set_option maxRecDepth 20000
namespace Ir
open PySem L2

/-! ### looks at the text -/
def noStar : Expr → Bool
  | .Starred _ _ => false
  | _ => true
def noSet : Expr → Bool
  | .Set _ _ _ => false
  | _ => true
def noCall : Expr → Bool
  | .Call _ _ _ _ => false
  | _ => true
def noLc : Expr → Bool
  | .ListComp _ _ _ _ => false
  | .SetComp _ _ _ _ => false
  | .DictComp _ _ _ _ _ => false
  | _ => true
def plainT : Expr → Bool
  | .UnaryOp .Not _ _ => false
  | .BoolOp _ _ _ => false
  | .IfExp _ _ _ _ => false
  | .Compare _ _ _ _ => false
  | _ => true
def plainI : Expr → Bool
  | .Slice _ _ _ _ => false
  | _ => true
section
variable {e e2 e3 : Expr} {es : List Expr} {env : Env} {pos : Pos}
theorem star_of (h : noStar e = true) : starEach (e :: es) env = (false, eval e env) :: starEach es env := by
  cases e <;> first | rfl | cases h
theorem base_of {n : Str} (h : noCall e = true) : attributeBase e n env (eval e env) = eval e env := by
  cases e <;> first | rfl | cases h
theorem behind_of {op : CmpOp} (h : noSet e = true) : behindInMarks op e = false := by
  cases e <;> first | rfl | cases h
theorem fold_of (h : noSet e = true) : ∀ x, foldedSetIterable e env x = pure x := by
  intro x
  cases e <;> first | rfl | cases h
theorem swap_of {t : Option Expr} {n : Nat} (h : noLc e = true) : swapsWith e t n env = pure false := by
  cases e <;> first | rfl | cases h
theorem plain_of (h : plainT e = true) : ∀ whole, isTrue e env whole = (do let v ← whole; standAt e.pos; holding [v] (truthy v)) := by
  intro w
  cases e with
  | UnaryOp op x p => cases op <;> first | rfl | cases h
  | _ => first | rfl | cases h
theorem ix_of (h : plainI e = true) : PlainIx e := by
  intro o i
  cases e <;> first | rfl | cases h
theorem last_of {op op2 : CmpOp} (h : noSet e2 = true) : lastMarks [op, op2] [e, e2] = false := by
  show behindInMarks op2 e2 = false
  exact behind_of h
theorem back1 (h : noStar e = true) : (backTo pos (starEach [e] env)).any (·.1) = false := by
  rw [star_of h]
  rfl
theorem all1 (h : noStar e = true) : ((backTo pos (starEach [e] env)).all (fun x => !x.1) && (backToKw pos (keywordEach [] env)).all (fun x => x.1.isSome) && decide ([e].length + ([] : List Keyword).length + (if ([] : List Keyword).isEmpty then 0 else 1) < 30)) = true := by
  rw [star_of h]
  rfl
theorem all2 (h : noStar e = true) (h2 : noStar e2 = true) : ((backTo pos (starEach [e, e2] env)).all (fun x => !x.1) && (backToKw pos (keywordEach [] env)).all (fun x => x.1.isSome) && decide ([e, e2].length + ([] : List Keyword).length + (if ([] : List Keyword).isEmpty then 0 else 1) < 30)) = true := by
  rw [star_of h, star_of h2]
  rfl
theorem back_any (h : ∀ e ∈ es, noStar e = true) : (backTo pos (starEach es env)).any (·.1) = false := by
  induction es with
  | nil => rfl
  | cons e es ih =>
    rw [star_of (h e List.mem_cons_self)]
    exact ih fun x hx => h x (List.mem_cons_of_mem _ hx)
end
/-- the operators -/
def binOf : Pr → Option Operator
  | .add => some .Add
  | .sub => some .Sub
  | .mul => some .Mult
  | .fdv => some .FloorDiv
  | .mod => some .Mod
  | .pow => some .Pow
  | .shl => some .LShift
  | .shr => some .RShift
  | .band => some .BitAnd
  | .bor => some .BitOr
  | _ => none
def augOf : Pr → Option Operator
  | .add => some .Add
  | .sub => some .Sub
  | .mul => some .Mult
  | .fdv => some .FloorDiv
  | .mod => some .Mod
  | _ => none
def cmpOf : Pr → Option CmpOp
  | .eq => some .Eq
  | .ne => some .NotEq
  | .lt => some .Lt
  | .le => some .LtE
  | .gt => some .Gt
  | .ge => some .GtE
  | .inn => some .In
  | .nin => some .NotIn
  | _ => none
/-- a built-in's name, whether it is a type -/
def bltOf : Pr → Option (Str × Bool)
  | .len => some ("len", false)
  | .abs => some ("abs", false)
  | .int => some ("int", true)
  | .tuple => some ("tuple", true)
  | .list => some ("list", true)
  | .sum => some ("sum", false)
  | .min1 => some ("min", false)
  | .max1 => some ("max", false)
  | .min2 => some ("min", false)
  | .max2 => some ("max", false)
  | .all => some ("all", false)
  | .any => some ("any", false)
  | .sorted => some ("sorted", false)
  | .min3 => some ("min", false)
  | _ => none
/-- the names of built-ins that the text may use -/
def bltNames : List Str := ["len", "abs", "int", "tuple", "list", "sum", "min", "max", "all", "any", "sorted", "range", "isinstance", "bool", "str", "set"]
section
variable {X : L2.Cx} {p : Pr}
theorem bin_ok {op : Operator} (h : binOf p = some op) : OpR X (binaryOp op) (rP2 X.K p) := by
  cases p <;> first | (cases h; done) | skip
  · cases h; exact o_add
  · cases h; exact o_sub
  · cases h; exact o_mul
  · cases h; exact o_fdv
  · cases h; exact o_mod
  · cases h; exact o_pow
  · cases h; exact o_shl
  · cases h; exact o_shr
  · cases h; exact o_band
  · cases h; exact o_bor
theorem aug_ok {op : Operator} (h : augOf p = some op) : PIp X op (rIp X.K p) := by
  cases p <;> first | (cases h; done) | skip
  · cases h; exact a_add
  · cases h; exact a_sub
  · cases h; exact a_mul
  · cases h; exact a_fdv
  · cases h; exact a_mod
theorem cmp_ok {op : CmpOp} (hu : X.A.units + 65 < cLine) (h : cmpOf p = some op) : OpR X (compareOp op) (rP2 X.K p) := by
  cases p <;> first | (cases h; done) | skip
  · cases h; exact o_eq hu
  · cases h; exact o_ne hu
  · cases h; exact o_lt
  · cases h; exact o_le
  · cases h; exact o_gt
  · cases h; exact o_ge
  · cases h; exact o_inn hu
  · cases h; exact o_nin hu
theorem blt_mem {x : Str} {b : Bool} (h : bltOf p = some (x, b)) : x ∈ bltNames := by
  cases p <;> first | (cases h; done) | (cases h; decide +kernel)
/-- a call of a built-in -/
theorem pE_blt {x : Str} {b : Bool} {m : M (List Op)} {e : Expr} {es : List Expr} {p1 pos : Pos} (hc : X.calm = true) (hu : X.A.units + 65 < cLine) (hg : Gl X x) (hm : X.mg x = none) (h : bltOf p = some (x, b)) (ha : PA X (e :: es) (rOs X.K m))
    (he : starEach (e :: es) X.env = (false, eval e X.env) :: starEach es X.env) (hpl : (backTo pos (starEach es X.env)).any (·.1) = false) : PE X (.Call (.Name x p1) (e :: es) [] pos) (rE X.K (prM p m)) := by
  have fin : ∀ {σ H Q}, rE X.K (prM p m) σ H Q → tCB (fun vs H Q => rP X.K p vs H Q) (rOs X.K m) σ H Q := fun h => rP_args h
  cases p <;> first | (cases h; done) | skip
  · cases h; exact (pe_callB c_len hg hm (by rfl) ha (by decide +kernel) (by decide +kernel) he hpl).irw fun σ H Q h => fin h
  · cases h; exact (pe_callB c_abs hg hm (by rfl) ha (by decide +kernel) (by decide +kernel) he hpl).irw fun σ H Q h => fin h
  · cases h; exact (pe_callTy c_int hg hm (by rfl) ha (by decide +kernel) (by decide +kernel) he hpl).irw fun σ H Q h => fin h
  · cases h; exact (pe_callTy c_tuple hg hm (by rfl) ha (by decide +kernel) (by decide +kernel) he hpl).irw fun σ H Q h => fin h
  · cases h; exact (pe_callTy c_list hg hm (by rfl) ha (by decide +kernel) (by decide +kernel) he hpl).irw fun σ H Q h => fin h
  · cases h; exact (pe_callB (c_sum hc) hg hm (by rfl) ha (by decide +kernel) (by decide +kernel) he hpl).irw fun σ H Q h => fin h
  · cases h; exact (pe_callB (c_minT hc hu) hg hm (by rfl) ha (by decide +kernel) (by decide +kernel) he hpl).irw fun σ H Q h => fin h
  · cases h; exact (pe_callB (c_maxT hc hu) hg hm (by rfl) ha (by decide +kernel) (by decide +kernel) he hpl).irw fun σ H Q h => fin h
  · cases h; exact (pe_callB (c_min2 hc) hg hm (by rfl) ha (by decide +kernel) (by decide +kernel) he hpl).irw fun σ H Q h => fin h
  · cases h; exact (pe_callB (c_max2 hc) hg hm (by rfl) ha (by decide +kernel) (by decide +kernel) he hpl).irw fun σ H Q h => fin h
  · cases h; exact (pe_callB (c_all hc) hg hm (by rfl) ha (by decide +kernel) (by decide +kernel) he hpl).irw fun σ H Q h => fin h
  · cases h; exact (pe_callB (c_any hc) hg hm (by rfl) ha (by decide +kernel) (by decide +kernel) he hpl).irw fun σ H Q h => fin h
  · cases h; exact (pe_callB (c_sorted hc hu) hg hm (by rfl) ha (by decide +kernel) (by decide +kernel) he hpl).irw fun σ H Q h => fin h
  · cases h; exact (pe_callB (c_min3 hc) hg hm (by rfl) ha (by decide +kernel) (by decide +kernel) he hpl).irw fun σ H Q h => fin h
end
end Ir

set_option Elab.async false
set_option linter.all false
set_option maxRecDepth 20000
namespace Ir
open PySem L2

section
variable {X : L2.Cx} {K : PySem.W.Frag} {H H0 H' H1 H2 : Hp} {Z Z0 Z' Z1 Z2 : Addr → Prop} {t : T} {ts xs fin : List T} {v x y : V} {vs : List V} {a b : Addr} {Q : VK} {p : Pr} {res : Vl} {e e2 e3 : Expr} {es : List Expr} {pos p1 p2 p3 p4 apos : Pos} {σ : St} {m n : M Vl} {mo ma : M Op} {l l1 l2 l' : Loc}

/-! ### isinstance -/
/-- the built-in type that a test asks for -/
def isiOf : Pr → Option Str
  | .isB => some "bool"
  | .isI => some "int"
  | .isS => some "str"
  | .isT => some "tuple"
  | _ => none
def isiS : Pr → String
  | .isB => "bool"
  | .isI => "int"
  | .isS => "str"
  | _ => "tuple"
def isiB : Pr → T → Bool
  | .isB, t => isBl t
  | .isI, t => isIn t
  | .isS, t => isSt t
  | _, t => isTu t
/-- what the kit says of its class -/
theorem PK.kit (h : PK K H Z t v) (hp : isiOf p ≠ none) (hd : isDc t = false) : ∃ c, TyX K H v c ∧ PySem.W.kitOne K c (.type (isiS p)) = some (isiB p t) := by
  have tup : ∀ {a vs}, SqT K H a vs → TyX K H (.ref a) (.type "tuple") := fun h => by
    rcases h with (h | ⟨o, h⟩) | ⟨o, its, n, h1, h2, _⟩
    · exact .base (.tup h)
    · exact .fTuple h
    · exact .kTuple h1 h2
  have lst : ∀ {a vs}, LsT K H a vs → TyX K H (.ref a) (.type "list") := fun h => by
    rcases h with (h | ⟨o, h⟩) | ⟨_, us, n, _, e⟩
    · exact .base (.lst h)
    · exact .base (.frz h)
    · exact .kList e rfl
  cases t with
  | non => rw [h.non]; exact ⟨_, .base .non, by cases p <;> first | rfl | exact absurd rfl hp⟩
  | bl b => rw [h.bl]; exact ⟨_, .base (.bl _), by cases p <;> first | rfl | exact absurd rfl hp⟩
  | int i => rw [h.int]; exact ⟨_, .base (.int _), by cases p <;> first | rfl | exact absurd rfl hp⟩
  | str s => obtain ⟨z, rfl, _⟩ := h.str; exact ⟨_, .base (.str _), by cases p <;> first | rfl | exact absurd rfl hp⟩
  | tup xs => obtain ⟨a, vs, rfl, k, _⟩ := h.tup; exact ⟨_, tup k, by cases p <;> first | rfl | exact absurd rfl hp⟩
  | lst xs => obtain ⟨a, vs, rfl, k, _⟩ := h.lst; exact ⟨_, lst k, by cases p <;> first | rfl | exact absurd rfl hp⟩
  | set ks => rcases h with h | ⟨a, rfl, h⟩ <;> cases h
  | dct tk ks vs => cases hd
theorem isi_inv (hp : isiOf p ≠ none) (e : prS p ts = some res) : ∃ t, ts = [t] ∧ isDc t = false ∧ bool (isiB p t) = some res := by
  have key : ∀ f : T → Bool, prIsi f ts = some res → ∃ t, ts = [t] ∧ isDc t = false ∧ bool (f t) = some res := fun f e => by
    clear hp
    unfold prIsi at e
    split at e
    · rename_i a _
      cases hd : isDc a with
      | true => rw [hd] at e; cases e
      | false => rw [hd] at e; exact ⟨_, rfl, hd, e⟩
    · cases e
  cases p <;> first | exact absurd rfl hp | skip
  all_goals exact key _ e
theorem isi_boot {c : Str} (hp : isiOf p = some c) : bootBuiltins c = some (.type (isiS p)) := by
  cases p <;> first | (cases hp; done) | (cases hp; rfl)
theorem isi_name {c : Str} (hp : isiOf p = some c) : c ≠ "__name__" ∧ (c == ("__debug__" : Str)) = false := by
  cases p <;> first | (cases hp; done) | (cases hp; decide +kernel)
theorem isi_mem {c : Str} (hp : isiOf p = some c) : c ∈ bltNames := by
  cases p <;> first | (cases hp; done) | (cases hp; decide +kernel)
theorem pE_isi {c : Str} (hp : isiOf p = some c) (hg : Gl X "isinstance") (hm : X.mg "isinstance" = none) (hg2 : Gl X c) (hm2 : X.mg c = none) (h : PE X e (rO X.K mo)) (hs : noStar e = true) :
    PE X (.Call (.Name "isinstance" p1) [e, .Name c p2] [] pos) (rE X.K (prM p (bind mo fun o => bind (ret []) fun os => ret (o :: os)))) := by
  have hp' : isiOf p ≠ none := by rw [hp]; simp
  obtain ⟨n1, n2⟩ := isi_name hp
  have hc : PE X (.Name c p2) (tC (.ty (isiS p))) := pe_bltn hg2 hm2 (isi_boot hp) rfl n1 n2
  refine (pe_callB call_isi hg hm (by rfl) (pa_cons h (pa_cons hc pa_nil rfl) (star_of hs)) (by decide +kernel) (by decide +kernel) (star_of hs) rfl).irw fun σ H Q h => ?_
  obtain ⟨l, Z, r, l', A, e, q⟩ := rP_one h
  refine ⟨l, Z, r, l', A, e, fun v H' Z' P R => ?_⟩
  obtain ⟨Z2, ts, res, zd, pk, e2, q2⟩ := q v H' Z' P R
  obtain ⟨t, rfl, e5, e3⟩ := isi_inv hp' e2
  obtain ⟨t', e4, h4⟩ := pk.one
  cases e4
  obtain ⟨cv, k1, k2⟩ := h4.kit hp' e5
  exact ⟨v, .ty (isiS p), cv, .type (isiS p), _, rfl, .ty _, k1, k2, fin_bool zd e3 q2⟩

/-! ### join -/
theorem glued_joinS (z : PySem.Str) : ∀ (zs : List PySem.Str), (PySem.Txt.join z zs).cps.toList = joinS z.cps.toList (zs.map fun z => z.cps.toList) := by
  have key : ∀ (zs : List PySem.Str), (Str.join z zs).cps.toList = joinS z.cps.toList (zs.map fun z => z.cps.toList) := by
    intro zs
    induction zs with
    | nil => rfl
    | cons x zs ih =>
      cases zs with
      | nil => rfl
      | cons y zs =>
        show ((x.cps ++ z.cps) ++ (Str.join z (y :: zs)).cps).toList = x.cps.toList ++ z.cps.toList ++ joinS z.cps.toList ((y :: zs).map fun z => z.cps.toList)
        rw [← ih, Array.toList_append, Array.toList_append]
  intro zs
  rw [show PySem.Txt.join z zs = Str.join z zs from PySem.StrLaws.glued_eq_join z zs]
  exact key zs
theorem map_len {zs : List PySem.Str} : zs.map (·.length) = (zs.map fun z => z.cps.toList).map List.length := by
  rw [List.map_map]
  refine List.map_congr_left fun z _ => ?_
  show z.cps.size = z.cps.toList.length
  simp
theorem pE_join {kn : Nat} {z : PySem.Str} (h : PE X e (rO X.K mo)) (hs : noStar e = true) (hline : (apos.endLine == pos.line) = true) :
    PE X (.Call (.Attribute (.Constant (.str z) kn p1) "join" apos) [e] [] pos) (rE X.K (prM .join (bind (ret (.vl (.fr (.str z.cps.toList)))) fun o => bind (bind mo fun o => bind (ret []) fun os => ret (o :: os)) fun os => ret (o :: os)))) :=
  (pe_join pe_str h (star_of hs) rfl hline).irw fun σ H Q h => by
  refine ⟨⟨_, rfl⟩, ?_⟩
  obtain ⟨l, Z, r, l1, A, e, q⟩ := rP_two h
  obtain ⟨rfl, rfl⟩ := ret_some.mp e
  obtain ⟨l2, Z2, r2, l3, A2, e2, q2⟩ := q (.str z) H Z (PostE.refl A) (.str z)
  refine ⟨l2, Z2, r2, l3, A2, e2, fun v H3 Z3 P3 R3 => ?_⟩
  obtain ⟨Z4, ts, res, zd, pk, e4, q4⟩ := q2 v H3 Z3 P3 R3
  obtain ⟨t1, t2, rfl, k1, k2⟩ := pk.two
  replace e4 : prJoin [t1, t2] = some res := e4
  unfold prJoin at e4
  split at e4
  · rename_i h
    cases h
    split at e4
    · rename_i xs hx
      split at e4
      · rename_i ss hss
        obtain ⟨c, rfl⟩ := if_some e4
        have e5 := strs_of hss
        subst e5
        obtain ⟨w, e6, e7⟩ := k1.str
        cases e6
        have key : ∃ (a : Addr) (zs : List PySem.Str), v = .ref a ∧ (SqL X.K H3 a (zs.map V.str) ∨ SqT X.K H3 a (zs.map V.str)) ∧ zs.map (fun z : PySem.Str => z.cps.toList) = ss := by
          cases t2 with
          | lst ys =>
            cases hx
            obtain ⟨a, vs, rfl, g1, g2⟩ := k2.lst
            obtain ⟨zs, rfl, g3⟩ := g2.strs
            exact ⟨a, zs, rfl, .inl g1.sq, g3⟩
          | tup ys =>
            cases hx
            obtain ⟨a, vs, rfl, g1, g2⟩ := k2.tup
            obtain ⟨zs, rfl, g3⟩ := g2.strs
            exact ⟨a, zs, rfl, .inr g1, g3⟩
          | _ => cases hx
        obtain ⟨a, zs, rfl, g1, g2⟩ := key
        subst g2
        refine ⟨z, a, zs, rfl, rfl, g1, ?_, fin_str zd q4 ?_⟩
        · rw [map_len]
          have : z.length = z.cps.toList.length := by simp [Str.length]
          rw [this]
          rw [List.length_map] at c
          rw [← e7] at c
          exact c
        · rw [glued_joinS, e7]
      · cases e4
    · cases e4
  · cases e4

/-! ### count -/
theorem cnt_count (c : Nat) : ∀ l : List Nat, PyProof.Rows.cnt c l = (l.count c : Nat)
  | [] => rfl
  | n :: l => by
    rw [PyProof.Rows.cnt_cons, cnt_count c l, List.count_cons]
    by_cases h : n = c
    · subst h; simp; omega
    · simp [h]
theorem pE_count {kn : Nat} {z : PySem.Str} (h : PE X e (rO X.K mo)) (hb : noCall e = true) (hl : (apos.endLine == pos.line) = true) :
    PE X (.Call (.Attribute e "count" apos) [.Constant (.str z) kn p1] [] pos) (rE X.K (prM .count (bind mo fun o => bind (bind (ret (.vl (.fr (.str z.cps.toList)))) fun o => bind (ret []) fun os => ret (o :: os)) fun os => ret (o :: os)))) := by
  refine (pe_bm PySem.F.plainAttrs_str PySem.F.slot_str_count PySem.F.type_str_count mt_count h (pa_cons pe_str pa_nil rfl) (base_of hb) rfl hl rfl rfl).irw fun σ H Q h => ?_
  obtain ⟨l, Z, r, l', A, e, q⟩ := rP_two h
  refine ⟨l, Z, r, l', A, e, fun v H' Z' P R => ?_⟩
  obtain ⟨l2, Z2, r2, l3, A2, e2, q2⟩ := q v H' Z' P R
  obtain ⟨rfl, rfl⟩ := ret_some.mp e2
  obtain ⟨Z4, ts, res, zd, pk, e4, q4⟩ := q2 (.str z) H' Z2 (PostE.refl A2) (.str z)
  obtain ⟨t1, t2, rfl, k1, k2⟩ := pk.two
  replace e4 : prCount [t1, t2] = some res := e4
  unfold prCount at e4
  split at e4
  · rename_i s c h
    cases h
    obtain ⟨_, rfl⟩ := if_some e4
    obtain ⟨w, rfl, e5⟩ := k1.str
    obtain ⟨w2, e6, e7⟩ := k2.str
    cases e6
    subst e5
    have ez : z = ⟨#[c]⟩ := by
      obtain ⟨⟨cs⟩⟩ := z
      have : cs = [c] := e7
      rw [this]
    refine ⟨rfl, w, z, rfl, rfl, ?_⟩
    rw [ez, PyProof.Rows.count_cnt, cnt_count]
    exact fin_int zd q4
  · cases e4

/-! ### index -/
theorem datas_get : ∀ {ys : List T} {j : Nat} {z : PyData}, (T.data.datas ys)[j]? = some z → ∃ y, ys[j]? = some y ∧ z = y.data
  | [], j, z, h => by simp [T.data.datas] at h
  | y :: ys, 0, z, h => by
    simp [T.data.datas] at h
    exact ⟨y, rfl, h.symm⟩
  | y :: ys, j + 1, z, h => by
    simp [T.data.datas] at h
    obtain ⟨w, h1, h2⟩ := datas_get h
    exact ⟨w, by simpa using h1, h2⟩
theorem get_datas : ∀ {ys : List T} {j : Nat} {y : T}, ys[j]? = some y → (T.data.datas ys)[j]? = some y.data
  | [], j, y, h => by simp at h
  | z :: ys, 0, y, h => by simp at h; subst h; simp [T.data.datas]
  | z :: ys, j + 1, y, h => by
    simp at h
    simpa [T.data.datas] using get_datas h
theorem shps_mem {n : Nat} : ∀ {ys : List T}, shps n ys = true → ∀ y ∈ ys, y.shp n = true
  | [], _, y, h => by cases h
  | x :: xs, h, y, hy => by
    simp only [shps, Bool.and_eq_true] at h
    rcases List.mem_cons.mp hy with rfl | hy
    · exact h.1
    · exact shps_mem h.2 y hy
theorem prIndex_inv (e : prIndex ts = some res) : ∃ (ys : List T) (x : T) (j : Nat) (y : T), ts = [.lst ys, x] ∧ inOk x ys = true ∧ ys[j]? = some y ∧ eqv y x = true ∧ (∀ m z, m < j → ys[m]? = some z → eqv z x = false) ∧ res = .fr (.int (j : Nat)) := by
  unfold prIndex at e
  split at e
  · rename_i ys x
    split at e
    · rename_i c
      obtain ⟨j, h, rfl⟩ := Option.map_eq_some_iff.mp e
      obtain ⟨h1, h2, h3⟩ := List.findIdx?_eq_some_iff_getElem.mp h
      refine ⟨ys, x, j, ys[j], rfl, c, List.getElem?_eq_getElem h1, h2, fun m z hm hz => ?_, rfl⟩
      obtain ⟨g1, rfl⟩ := List.getElem?_eq_some_iff.mp hz
      simpa using h3 m hm
    · cases e
  · cases e
theorem pE_index (hu : X.A.units + 65 < cLine) (h : PE X e (rO X.K mo)) (h2 : PE X e2 (rO X.K ma)) (hb : noCall e = true) (hs : noStar e2 = true) (hl : (apos.endLine == pos.line) = true) :
    PE X (.Call (.Attribute e "index" apos) [e2] [] pos) (rE X.K (indexM mo ma)) := by
  have hm : MtR X "list.index" (fun x xs H Q => rIndexD X.K x xs H Q ∨ rIndex X.K x xs H Q) := (mt_indexD hu).or mt_index
  refine (pe_bm PySem.F.plainAttrs_list PySem.F.slot_list_index PySem.F.type_list_index hm h (pa_cons h2 pa_nil (star_of hs)) (base_of hb) (all1 hs) hl (star_of hs) rfl).irw fun σ H Q ⟨l, Z, r, l', A, e, q⟩ => ?_
  obtain ⟨o, l1, e1, c1⟩ := bind_some.mp e
  split at c1
  · rename_i us hus
    obtain ⟨oa, l2, e2, c2⟩ := bind_some.mp c1
    split at c2
    · rename_i ts ht
      obtain ⟨c3, rfl⟩ := lift_some.mp c2
      refine ⟨l, Z, o, l1, A, e1, fun x H1 Z1 P1 R1 => ?_⟩
      obtain ⟨ax, vx, rfl, g1, _⟩ := (R1.peek P1.po.al hus).lst
      refine ⟨.inl ⟨rfl, _, g1.sq⟩, l1, Z1, oa, _, P1.po.al, e2, fun y H2 Z2 P2 R2 => ?_⟩
      have R1' : OR X.K H Z2 H2 σ o (.ref ax) := R1.ex P2.po P1.po.al (P1.elder A)
      have pk := ORs.peek (K := X.K) (.cons R1' (.cons (R2.old P1.po.ex) .nil)) P2.po.al ht
      obtain ⟨ys, x, j, w, rfl, c, w1, w2, w3, rfl⟩ := prIndex_inv c3
      obtain ⟨_, _, e6, k1, k2⟩ := pk.two
      cases e6
      have fn : Q (.int (j : Nat)) H2 := q _ H2 Z2 (P1.trans P2) (.int _)
      unfold inOk at c
      rcases (Bool.or_eq_true _ _).mp c with c | c
      · obtain ⟨c1, c2⟩ := (Bool.and_eq_true _ _).mp c
        refine .inl ⟨ax, y, x.data, T.data.datas ys, j, w.data, rfl, rfl, (k1.dp (n := deep + 1) (by simpa [T.shp] using c2)), (k2.dp c1), shaped_lst c2, shaped_of c1, get_datas w1, ?_, fun m z' hm hz => ?_, fn⟩
        · rw [eqv_data _ _ _ _ (shps_mem c2 _ (List.mem_of_getElem? w1)) c1, w2]
        · obtain ⟨y', g3, rfl⟩ := datas_get hz
          rw [eqv_data _ _ _ _ (shps_mem c2 _ (List.mem_of_getElem? g3)) c1]
          exact w3 m y' hm g3
      · obtain ⟨c1, c2⟩ := (Bool.and_eq_true _ _).mp c
        obtain ⟨b, vs, e7, g3, g4⟩ := k1.lst
        cases e7
        obtain ⟨v, g5, g6⟩ := g4.get w1
        have fl : ∀ {m : Nat} {z : T}, ys[m]? = some z → z.flat = true := fun h => List.all_eq_true.mp c2 _ (List.mem_of_getElem? h)
        refine .inr ⟨ax, vs, y, j, v, rfl, rfl, g3.sq, k2.flat c1, g4.flats c2, g5, ?_, fun m z' hm hz => ?_, fn⟩
        · rw [PK.eqV (.inl g6) k2 (fl w1) c1, w2]
        · have hlt : m < ys.length := by rw [g4.length]; exact (List.getElem?_eq_some_iff.mp hz).1
          obtain ⟨v', g7, g8⟩ := g4.get (List.getElem?_eq_getElem hlt)
          rw [g7] at hz
          cases hz
          rw [PK.eqV (.inl g8) k2 (fl (List.getElem?_eq_getElem hlt)) c1]
          exact w3 m _ hm (List.getElem?_eq_getElem hlt)
    · cases c2
  · cases c1
end
end Ir

set_option Elab.async false
set_option linter.all false
set_option maxRecDepth 20000
namespace Ir
open PySem L2

/-! ### dicts: keys -/
theorem kT_eqv {a b : Key} : eqv (kT a) (kT b) = decide (a = b) := by
  cases a with
  | inl i => cases b with
    | inl j => show (i == j) = _; rw [Bool.eq_iff_iff]; simp
    | inr y => show false = _; simp
  | inr x => cases b with
    | inl j => show false = _; simp
    | inr y =>
      show (x.cps.toList == y.cps.toList) = _
      rw [Bool.eq_iff_iff]
      simp
      constructor
      · intro h
        cases x with
        | mk x => cases y with
          | mk y => simp at h; rw [h]
      · intro h; rw [h]
theorem kTs_eqvs : ∀ {a b : List Key}, eqvs (a.map kT) (b.map kT) = decide (a = b)
  | [], [] => by simp [eqvs]
  | [], _ :: _ => by simp [eqvs]
  | _ :: _, [] => by simp [eqvs]
  | x :: a, y :: b => by
    rw [List.map_cons, List.map_cons]
    unfold eqvs
    rw [kT_eqv, kTs_eqvs, Bool.eq_iff_iff]
    simp
theorem kTs_eqv {a b : List Key} : eqv (kTs a) (kTs b) = decide (a = b) := by
  show eqvs (a.map kT) (b.map kT) = _
  exact kTs_eqvs
section
variable {κ : Type} [DecidableEq κ] {f : κ → T} {K : PySem.W.Frag} {H : Hp} {Z : Addr → Prop}
theorem has_any (hf : ∀ a b, eqv (f a) (f b) = decide (a = b)) (k : κ) : ∀ kvs : List (κ × V), dHas (kvs.map fun p => f p.1) (f k) = kvs.any fun kv => decide (kv.1 = k)
  | [] => rfl
  | p :: r => by
    unfold dHas
    rw [List.map_cons, List.any_cons, List.any_cons, hf]
    exact congrArg _ (has_any hf k r)
/-- what a look tells -/
def OT (K : PySem.W.Frag) (H : Hp) (Z : Addr → Prop) : Option T → Option V → Prop
  | some t, some v => RF K H Z t v
  | none, none => True
  | _, _ => False
theorem at_val (hf : ∀ a b, eqv (f a) (f b) = decide (a = b)) (k : κ) : ∀ {kvs : List (κ × V)} {ts : List T}, RFs K H Z ts (kvs.map fun p => p.2) → OT K H Z (dAt (kvs.map fun p => f p.1) ts (f k)) (valV kvs k)
  | [], ts, h => trivial
  | p :: r, ts, h => by
    rw [List.map_cons] at h
    cases h with
    | cons h1 h2 =>
      rw [List.map_cons]
      unfold dAt
      rw [hf]
      by_cases e : p.1 = k
      · rw [decide_eq_true e, if_pos rfl, valV_pos e]; exact h1
      · rw [decide_eq_false e, if_neg Bool.false_ne_true, valV_neg e]; exact at_val hf k h2
theorem put_keys (hf : ∀ a b, eqv (f a) (f b) = decide (a = b)) (k : κ) (v : V) (kvs : List (κ × V)) : (putK kvs k v).map (fun p => f p.1) = dKs (kvs.map fun p => f p.1) (f k) := by
  unfold putK dKs
  rw [has_any hf]
  cases e : kvs.any fun kv => decide (kv.1 = k) with
  | true =>
    rw [if_pos rfl, if_pos rfl, List.map_map]
    apply List.map_congr_left
    intro p _
    show f (if p.1 = k then (p.1, v) else p).1 = f p.1
    split <;> rfl
  | false => rw [if_neg Bool.false_ne_true, if_neg Bool.false_ne_true, List.map_append]; rfl
theorem put_rep (hf : ∀ a b, eqv (f a) (f b) = decide (a = b)) (k : κ) {x : T} {v : V} (hx : RF K H Z x v) : ∀ {kvs : List (κ × V)} {ts : List T}, RFs K H Z ts (kvs.map fun p => p.2) →
    RFs K H Z (List.zipWith (fun a w => if eqv a (f k) then x else w) (kvs.map fun p => f p.1) ts) ((kvs.map fun kv => if kv.1 = k then (kv.1, v) else kv).map fun p => p.2)
  | [], ts, h => by cases h; exact .nil
  | p :: r, ts, h => by
    rw [List.map_cons] at h
    cases h with
    | cons h1 h2 =>
      rw [List.map_cons, List.zipWith_cons_cons, List.map_cons, List.map_cons]
      refine .cons ?_ (put_rep hf k hx h2)
      rw [hf]
      by_cases e : p.1 = k
      · rw [decide_eq_true e, if_pos rfl, if_pos e]; exact hx
      · rw [decide_eq_false e, if_neg Bool.false_ne_true, if_neg e]; exact h1
theorem put_vals (hf : ∀ a b, eqv (f a) (f b) = decide (a = b)) (k : κ) {x : T} {v : V} (hx : RF K H Z x v) {kvs : List (κ × V)} {ts : List T} (h : RFs K H Z ts (kvs.map fun p => p.2)) :
    RFs K H Z (dVs (kvs.map fun p => f p.1) ts (f k) x) ((putK kvs k v).map fun p => p.2) := by
  unfold putK dVs
  rw [has_any hf]
  cases e : kvs.any fun kv => decide (kv.1 = k) with
  | true => rw [if_pos rfl, if_pos rfl]; exact put_rep hf k hx h
  | false => rw [if_neg Bool.false_ne_true, if_neg Bool.false_ne_true, List.map_append]; exact h.append (.cons hx .nil)
end

section
variable {X : L2.Cx} {K : PySem.W.Frag} {H H0 H' H1 H2 H3 : Hp} {Z Z0 Z' Z1 Z2 : Addr → Prop} {l l0 l1 l2 l' : Loc} {σ σ1 σ2 σ' : St} {t key : T} {ts ks : List T} {v x y : V} {vs : List V} {a b : Addr} {o : Op} {os : List Op} {k : Nat} {e e1 e2 e3 : Expr} {es : List Expr} {pos apos cpos : Pos} {m : M Vl} {mo no : M Op} {tk : Bool} {Q : VK} {W : Addr → Prop} {F : Addr → Prop}

/-- a key's value, at H -/
def KR (H : Hp) (tk : Bool) (t : T) (v : V) : Prop := match tk with
  | false => ∃ k : Key, v = kV k ∧ kT k = t
  | true => ∃ (b : Addr) (ks : List Key), v = .ref b ∧ H b = some (.tup (ks.map kV)) ∧ kTs ks = t
theorem KR.ex (e : Ex W Z Z' H H') (hw : ∀ b, W b → Mu H b ∧ ¬ Z b) (h : KR H tk t v) : KR H' tk t v := by
  cases tk with
  | false => exact h
  | true =>
    obtain ⟨b, ks, e1, h2, e3⟩ := h
    refine ⟨b, ks, e1, e.fr b _ h2 fun w => ?_, e3⟩
    obtain ⟨⟨u, q, mu⟩, _⟩ := hw b w
    rw [h2] at q
    cases q
    exact mu
def rK (K : PySem.W.Frag) (tk : Bool) (m : M T) : TE := fun σ H Q => ∃ l Z t l', AL K H Z l σ ∧ m l = some (t, l') ∧ ∀ v H' Z', PostE K l σ Z H l' Z' H' → KR H' tk t v → Q v H'
def rG (K : PySem.W.Frag) (m : M T) : TE := fun σ H Q => ∃ l Z t l', AL K H Z l σ ∧ m l = some (t, l') ∧ ∀ v H' Z', PostE K l σ Z H l' Z' H' → RF K H' Z' t v → Q v H'
theorem pG (h : PE X e (rO X.K mo)) : PE X e (rG X.K (bind mo fun o => o.give)) := h.irw fun σ H Q ⟨l, Z, r, l', A, e0, q⟩ => by
  obtain ⟨o, l1, h1, h2⟩ := bind_some.mp e0
  refine ⟨l, Z, o, l1, A, h1, fun v H' Z' P R => ?_⟩
  obtain ⟨Z2, P2, rx⟩ := give_post A P R h2
  exact q v H' Z2 P2 rx
theorem PK.ky (h : PK K H Z t v) (i : isKy t = true) : ∃ k : Key, v = kV k ∧ kT k = t := by
  cases t <;> first | (cases i; done) | skip
  · rw [h.int]; exact ⟨.inl _, rfl, rfl⟩
  · obtain ⟨z, rfl, hz⟩ := h.str
    exact ⟨.inr z, rfl, by show T.str z.cps.toList = _; rw [hz]⟩
theorem PKs.kys (h : PKs K H Z ts vs) (i : ts.all isKy = true) : ∃ ks : List Key, vs = ks.map kV ∧ ks.map kT = ts := by
  induction h with
  | nil => exact ⟨[], rfl, rfl⟩
  | cons r _ ih =>
    rw [List.all_cons, Bool.and_eq_true] at i
    obtain ⟨k, e1, e2⟩ := r.ky i.1
    obtain ⟨ks, e3, e4⟩ := ih i.2
    exact ⟨k :: ks, by rw [e1, e3]; rfl, by rw [List.map_cons, e2, e4]⟩
theorem keyM_some {mm : M (List Op)} (e : keyM tk mm l = some (t, l')) : ∃ os ts, mm l = some (os, l') ∧ trees l' os = some ts ∧ keyT tk ts = some t := by
  obtain ⟨os, l1, e1, e2⟩ := bind_some.mp e
  split at e2
  · split at e2
    · cases e2
      exact ⟨os, _, e1, by assumption, by assumption⟩
    · cases e2
  · cases e2
theorem keyT_one {u : T} (h : keyT false ts = some u) : ∃ t, ts = [t] ∧ isKy t = true ∧ u = t := by
  match ts, h with
  | [t], h =>
    have h : (if isKy t = true then some t else none) = some u := h
    by_cases c : isKy t = true
    · rw [if_pos c] at h; cases h; exact ⟨_, rfl, c, rfl⟩
    · rw [if_neg c] at h; cases h
  | [], h => cases h
  | _ :: _ :: _, h => cases h
theorem keyT_tup {u : T} (h : keyT true ts = some u) : ts.all isKy = true ∧ u = .tup ts := by
  have h : (if ts.all isKy = true then some (T.tup ts) else none) = some u := by
    unfold keyT at h
    exact h
  by_cases c : ts.all isKy = true
  · rw [if_pos c] at h; cases h; exact ⟨c, rfl⟩
  · rw [if_neg c] at h; cases h
/-- one operand as a key -/
theorem pK_one (h : PE X e (rO X.K mo)) : PE X e (rK X.K false (keyM false (bind mo fun o => bind (ret []) fun os => ret (o :: os)))) := h.irw fun σ H Q ⟨l, Z, r, l', A, e0, q⟩ => by
  obtain ⟨os, ts, h1, h2, h3⟩ := keyM_some e0
  obtain ⟨o, l1, h4, h5⟩ := bind_some.mp h1
  obtain ⟨os', l2, h6, h7⟩ := bind_some.mp h5
  obtain ⟨rfl, rfl⟩ := ret_some.mp h6
  obtain ⟨rfl, rfl⟩ := ret_some.mp h7
  refine ⟨l, Z, o, _, A, h4, fun v H' Z' P R => q v H' Z' P ?_⟩
  have pk := (ORs.cons R .nil).peek P.po.al h2
  cases pk with
  | cons r1 r2 =>
    cases r2
    obtain ⟨t1, e1, e2, rfl⟩ := keyT_one h3
    cases e1
    exact r1.ky e2
/-- a written tuple as a key -/
theorem pK_tup {kn : Nat} {mm : M (List Op)} (hm : ∀ l os l', mm l = some (os, l') → os.length ≤ sizeMax) (h : PA X es (rOs X.K mm)) : PE X (.Tuple es kn pos) (rK X.K true (keyM true mm)) := (pe_tup h).irw fun σ H Q ⟨l, Z, r, l', A, e0, q⟩ => by
  obtain ⟨os, ts, h1, h2, h3⟩ := keyM_some e0
  refine ⟨l, Z, os, l', A, h1, fun vs H1 Z1 P R nd => ⟨by rw [R.length]; exact size_le (hm _ _ _ h1), fun p hp => ?_⟩⟩
  have pk := R.peek P.po.al h2
  obtain ⟨e2, rfl⟩ := keyT_tup h3
  obtain ⟨ks, rfl, e4⟩ := pk.kys e2
  have ex : Ex0 Z1 Z1 H1 (upd H1 p (.tup (ks.map kV))) := Ex0.obj P.po.al.zd hp
  exact q _ _ Z1 (P.trans (PostE.new P.po.al ex)) ⟨p, ks, rfl, upd_same, by unfold kTs; rw [e4]⟩

/-! ### dicts: readings -/
/-- a dict that can be read -/
theorem PK.dct (h : PK K H Z (.dct tk ks ts) v) : ∃ a, v = .ref a ∧ IsD H a ∧ ∀ key y, KR H tk key y → ∃ o, DGet H a y o ∧ OT K H Z (dAt ks ts key) o ∧ o.isSome = dHas ks key := by
  have key1 : ∀ {a : Addr} {kvs : List (Key × V)} {ks ts : List T} {vs : List V}, Rd H a (.dK kvs) → kvs.map (fun p => kT p.1) = ks → kvs.map (fun p => p.2) = vs → RFs K H Z ts vs →
      IsD H a ∧ ∀ key y, KR H false key y → ∃ o, DGet H a y o ∧ OT K H Z (dAt ks ts key) o ∧ o.isSome = dHas ks key := fun {a kvs ks ts vs} h1 h2 h3 h4 => by
    subst h2 h3
    refine ⟨.inl ⟨_, h1⟩, fun key y ⟨k, e1, e2⟩ => ?_⟩
    subst e2
    exact ⟨_, .inl ⟨kvs, k, h1, e1, rfl⟩, at_val (fun _ _ => kT_eqv) k h4, by rw [has_any (fun _ _ => kT_eqv), valV_any]⟩
  have key2 : ∀ {a : Addr} {kvs : List (List Key × V)} {ks ts : List T} {vs : List V}, Rd H a (.dT kvs) → kvs.map (fun p => kTs p.1) = ks → kvs.map (fun p => p.2) = vs → RFs K H Z ts vs →
      IsD H a ∧ ∀ key y, KR H true key y → ∃ o, DGet H a y o ∧ OT K H Z (dAt ks ts key) o ∧ o.isSome = dHas ks key := fun {a kvs ks ts vs} h1 h2 h3 h4 => by
    subst h2 h3
    refine ⟨.inr ⟨_, h1⟩, fun key y ⟨b, k, e1, e3, e2⟩ => ?_⟩
    subst e2
    exact ⟨_, .inr ⟨kvs, k, b, h1, e1, e3, rfl⟩, at_val (fun _ _ => kTs_eqv) k h4, by rw [has_any (fun _ _ => kTs_eqv), valV_any]⟩
  rcases h with h | ⟨a, rfl, h⟩
  · cases h with
    | dK h1 z h2 h3 h4 => obtain ⟨q1, q2⟩ := key1 h1 h2 h3 h4; exact ⟨_, rfl, q1, q2⟩
    | dT h1 z h2 h3 h4 => obtain ⟨q1, q2⟩ := key2 h1 h2 h3 h4; exact ⟨_, rfl, q1, q2⟩
  · cases h with
    | dK h1 h2 h3 h4 => obtain ⟨q1, q2⟩ := key1 (.inl h1) h2 h3 h4; exact ⟨_, rfl, q1, q2⟩
    | dT h1 h2 h3 h4 => obtain ⟨q1, q2⟩ := key2 (.inl h1) h2 h3 h4; exact ⟨_, rfl, q1, q2⟩
theorem dictAt_some {p : List T × List T} (e : dictAt tk k l = some (p, l')) : l' = l ∧ slT l[k]? = some (.dct tk p.1 p.2) := by
  unfold dictAt at e
  split at e
  · split at e
    · rename_i h1 h2
      cases e
      subst h2
      exact ⟨rfl, h1⟩
    · cases e
  · cases e
theorem pE_dnew : PE X (.Dict [] [] pos) (rE X.K (ret (.ow (.dct tk [] [])))) := by
  cases tk with
  | false =>
    refine pe_dnewK.irw fun σ H Q ⟨l, Z, r, l', A, e, q⟩ p hp => ?_
    obtain ⟨rfl, rfl⟩ := ret_some.mp e
    have ex : Ex0 Z Z H (upd H p (.dK [])) := Ex0.obj A.zd hp
    exact q _ _ Z (PostE.new A ex) ⟨p, rfl, .dK upd_same rfl rfl .nil, fun z => A.zd p z hp, hp⟩
  | true =>
    refine pe_dnewT.irw fun σ H Q ⟨l, Z, r, l', A, e, q⟩ p hp => ?_
    obtain ⟨rfl, rfl⟩ := ret_some.mp e
    have ex : Ex0 Z Z H (upd H p (.dT [])) := Ex0.obj A.zd hp
    exact q _ _ Z (PostE.new A ex) ⟨p, rfl, .dT upd_same rfl rfl .nil, fun z => A.zd p z hp, hp⟩
/-- d.get(key, x) -/
theorem pE_dgt {mk : M T} {mz : M T} (hu : X.A.units + 1 < cLine) (h : PE X e (tVar k)) (hk : PE X e2 (rK X.K tk mk)) (hz : PE X e3 (rG X.K mz)) (hm : M2 X e "get" apos e2 e3 cpos) :
    PE X (.Call (.Attribute e "get" apos) [e2, e3] [] cpos) (rE X.K (bind (dictAt tk k) fun _ => bind mk fun key => bind mz fun z => bind (dictAt tk k) fun p => ret (.fr ((dAt p.1 p.2 key).getD z)))) :=
  (pe_dget2 hu h hk hz hm).irw fun σ H Q ⟨l, Z, r, l', A, e0, q⟩ => by
  obtain ⟨p0, l0, g1, e0⟩ := bind_some.mp e0
  obtain ⟨key, l1, g2, e0⟩ := bind_some.mp e0
  obtain ⟨z, l2, g3, e0⟩ := bind_some.mp e0
  obtain ⟨p, l3, g4, e0⟩ := bind_some.mp e0
  obtain ⟨rfl, rfl⟩ := ret_some.mp e0
  obtain ⟨rfl, s1⟩ := dictAt_some g1
  obtain ⟨rfl, s2⟩ := dictAt_some g4
  obtain ⟨v0, hv, pk0⟩ := A.val s1
  obtain ⟨a, rfl, isd, _⟩ := pk0.dct
  refine ⟨_, hv, a, rfl, isd, _, Z, key, l1, A, g2, fun y H2 Z2 P1 R1 => ⟨l1, Z2, z, _, P1.po.al, g3, fun w H3 Z3 P2 R2 => ?_⟩⟩
  obtain ⟨v1, hv1, pk1⟩ := P2.po.al.val s2
  rw [hv] at hv1
  cases hv1
  obtain ⟨a', ea, _, look⟩ := pk1.dct
  cases ea
  obtain ⟨o, dg, ot, _⟩ := look key y (R1.ex P2.po.ex (W_sub P1.po.al))
  refine ⟨o, dg, q _ H3 Z3 (P1.trans P2) ?_⟩
  show RF X.K H3 Z3 ((dAt p.1 p.2 key).getD z) (o.getD w)
  cases o with
  | none =>
    cases h : dAt p.1 p.2 key with
    | none => exact R2
    | some t => rw [h] at ot; exact ot.elim
  | some u =>
    cases h : dAt p.1 p.2 key with
    | none => rw [h] at ot; exact ot.elim
    | some t => rw [h] at ot; exact ot
/-- d[key] -/
theorem pE_dix {mk : M T} (hu : X.A.units + 1 < cLine) (h : PE X e (tVar k)) (hk : PE X e2 (rK X.K tk mk)) (hs : NoSl e2) :
    PE X (.Subscript e e2 pos) (rE X.K (bind (dictAt tk k) fun _ => bind mk fun key => bind (dictAt tk k) fun p => lift ((dAt p.1 p.2 key).map .fr))) :=
  (pe_dget hu h hk hs).irw fun σ H Q ⟨l, Z, r, l', A, e0, q⟩ => by
  obtain ⟨p0, l0, g1, e0⟩ := bind_some.mp e0
  obtain ⟨key, l1, g2, e0⟩ := bind_some.mp e0
  obtain ⟨p, l3, g4, e0⟩ := bind_some.mp e0
  obtain ⟨g5, rfl⟩ := lift_some.mp e0
  obtain ⟨rfl, s1⟩ := dictAt_some g1
  obtain ⟨rfl, s2⟩ := dictAt_some g4
  obtain ⟨v0, hv, pk0⟩ := A.val s1
  obtain ⟨a, rfl, isd, _⟩ := pk0.dct
  refine ⟨_, hv, _, Z, key, _, A, g2, fun y H2 Z2 P1 R1 => ?_⟩
  obtain ⟨v1, hv1, pk1⟩ := P1.po.al.val s2
  rw [hv] at hv1
  cases hv1
  obtain ⟨a', ea, _, look⟩ := pk1.dct
  cases ea
  obtain ⟨o, dg, ot, _⟩ := look key y R1
  cases h : dAt p.1 p.2 key with
  | none => rw [h] at g5; cases g5
  | some t =>
    rw [h] at g5 ot
    cases g5
    cases o with
    | none => exact ot.elim
    | some u => exact ⟨a, u, rfl, dg, q _ H2 Z2 P1 ot⟩
/-- a tuple that stands somewhere as a key -/
def DGetS (K : PySem.W.Frag) (H : Hp) (a : Addr) (y : V) (o : Option V) : Prop := ∃ (kvs : List (List Key × V)) (k : List Key) (b : Addr), Rd H a (.dT kvs) ∧ y = .ref b ∧ SqT K H b (k.map kV) ∧ o = valV kvs k
theorem key_ofS {pins : List (Addr × Obj)} {s : Shared} {b : Addr} {k : List Key} (I : L2.Inv X pins σ H s) (h : SqT X.K H b (k.map kV)) : (PySem.tupleKind (mixKind X.prog X.w)).is s.heap k b := by
  obtain ⟨its, r, p, _⟩ := I.tuple h
  obtain ⟨o, h1, h2, n, h3⟩ := (show s.heap.IsTuple b its.toArray from p)
  exact ⟨o, its.toArray, n, h1, h2, h3, by simpa using items_are r⟩
theorem pe_dgetS {td ty : TE} (hu : X.A.units + 1 < cLine) (ho : PE X e td) (hi : PE X e2 ty) (hs : NoSl e2) :
    PE X (.Subscript e e2 pos) (fun σ H Q => td σ H fun x H1 => ty σ H1 fun y H2 => ∃ a v, x = .ref a ∧ DGetS X.K H2 a y (some v) ∧ Q v H2) := by
  refine ⟨fun pins s σ H Q I h => ?_⟩
  refine subD_of PySem.F.slot_dict_getitem.lookup hs (thn (ho.run pins s σ H _ I h) fun u s1 ⟨x, H1, I1, rx, q1⟩ => thn (hi.run pins s1 σ H1 _ I1 q1) fun iv s2 ⟨y, H2, I2, ry, a, v, ex, g, q2⟩ => ?_)
  subst ex
  obtain rfl : u = Value.ref a := rx
  obtain ⟨kvs, k, b, e, ey, eb, l⟩ := g
  subst ey
  cases (show iv = Value.ref b from ry)
  obtain ⟨z, hd, xs, rel, dd⟩ := dt_rd I2.hok e
  obtain ⟨w', hw, rw'⟩ := RelO.some_of (v := v) (o := (atKey xs k).map (·.2)) (by rw [l]; exact rel.val k)
  obtain ⟨p, hp, hp2⟩ := Option.map_eq_some_iff.mp hw
  refine ⟨dd.typeIs, PySem.wpAny_getItem_heap (PySem.tupleKind_room_in1 hu) (key_ofS I2 eb) dd hp ?_⟩
  rw [hp2]
  exact ⟨v, H2, I2.tok _, rw', q2⟩
def KS (K : PySem.W.Frag) (H : Hp) (t : T) (v : V) : Prop := ∃ (b : Addr) (ks : List Key), v = .ref b ∧ SqT K H b (ks.map kV) ∧ kTs ks = t
def rKV (K : PySem.W.Frag) (m : M T) : TE := fun σ H Q => ∃ l Z t l', AL K H Z l σ ∧ m l = some (t, l') ∧ ∀ v H' Z', PostE K l σ Z H l' Z' H' → KS K H' t v → Q v H'
theorem RFs.pks (h : RFs K H Z ts vs) : PKs K H Z ts vs := by
  induction ts generalizing vs with
  | nil => cases h; exact .nil
  | cons t ts ih => cases h with | cons r rr => exact .cons (.inl r) (ih rr)
theorem pK_var (h : PE X e (rO X.K mo)) : PE X e (rKV X.K (keyV mo)) := h.irw fun σ H Q ⟨l, Z, r, l', A, e0, q⟩ => by
  obtain ⟨o, l1, h1, h2⟩ := bind_some.mp e0
  split at h2
  · rename_i ts ht
    split at h2
    · rename_i hk
      cases h2
      refine ⟨l, Z, o, _, A, h1, fun v H' Z' P R => q v H' Z' P ?_⟩
      have pk := R.peek P.po.al ht
      obtain ⟨a, vs, rfl, k, rs⟩ := pk.tup
      obtain ⟨ks, rfl, e4⟩ := (RFs.pks rs).kys hk
      exact ⟨a, ks, rfl, k, by unfold kTs; rw [e4]⟩
    · cases h2
  · cases h2
theorem pE_dixv (hu : X.A.units + 1 < cLine) (h : PE X e (tVar k)) (hk : PE X e2 (rO X.K mo)) (hs : NoSl e2) :
    PE X (.Subscript e e2 pos) (rE X.K (bind (dictAt true k) fun _ => bind (keyV mo) fun key => bind (dictAt true k) fun p => lift ((dAt p.1 p.2 key).map .fr))) :=
  (pe_dgetS hu h (pK_var hk) hs).irw fun σ H Q ⟨l, Z, r, l', A, e0, q⟩ => by
  obtain ⟨p0, l0, g1, e0⟩ := bind_some.mp e0
  obtain ⟨key, l1, g2, e0⟩ := bind_some.mp e0
  obtain ⟨p, l3, g4, e0⟩ := bind_some.mp e0
  obtain ⟨g5, rfl⟩ := lift_some.mp e0
  obtain ⟨rfl, s1⟩ := dictAt_some g1
  obtain ⟨rfl, s2⟩ := dictAt_some g4
  obtain ⟨v0, hv, pk0⟩ := A.val s1
  obtain ⟨a, rfl, isd, _⟩ := pk0.dct
  refine ⟨_, hv, _, Z, key, _, A, g2, fun y H2 Z2 P1 R1 => ?_⟩
  obtain ⟨v1, hv1, pk1⟩ := P1.po.al.val s2
  rw [hv] at hv1
  cases hv1
  obtain ⟨b, kk, rfl, hb, rfl⟩ := R1
  have fin : ∀ {kvs : List (List Key × V)} {vs : List V}, Rd H2 a (.dT kvs) → kvs.map (fun p => kTs p.1) = p.1 → kvs.map (fun p => p.2) = vs → RFs X.K H2 Z2 p.2 vs →
      ∃ a' v, V.ref a = .ref a' ∧ DGetS X.K H2 a' (.ref b) (some v) ∧ Q v H2 := fun {kvs vs} h1 h2 h3 h4 => by
    subst h3
    have ot := at_val (fun _ _ => kTs_eqv) kk h4
    rw [h2] at ot
    cases h : dAt p.1 p.2 (kTs kk) with
    | none => rw [h] at g5; cases g5
    | some t =>
      rw [h] at g5 ot
      cases g5
      cases ho : valV kvs kk with
      | none => rw [ho] at ot; exact ot.elim
      | some u =>
        rw [ho] at ot
        exact ⟨a, u, rfl, ⟨kvs, kk, b, h1, rfl, hb, ho.symm⟩, q _ H2 Z2 P1 ot⟩
  rcases pk1 with pk | ⟨a', ea, pk⟩
  · cases pk with
    | dT h1 z h2 h3 h4 => exact fin h1 h2 h3 h4
  · cases ea
    cases pk with
    | dT h1 h2 h3 h4 => exact fin (.inl h1) h2 h3 h4
/-- key in d -/
theorem rDin {mk : M T} {n : Bool} (h : rE X.K (bind mk fun key => bind (dictAt tk k) fun p => ret (.fr (.bl (n != dHas p.1 key)))) σ H Q) :
    rK X.K tk mk σ H fun y H1 => tVar k σ H1 fun x H2 => ∃ a o, x = .ref a ∧ DGet H2 a y o ∧ Q (.bl (n != o.isSome)) H2 := by
  obtain ⟨l, Z, r, l', A, e0, q⟩ := h
  obtain ⟨key, l1, g2, e0⟩ := bind_some.mp e0
  obtain ⟨p, l3, g4, e0⟩ := bind_some.mp e0
  obtain ⟨rfl, rfl⟩ := ret_some.mp e0
  obtain ⟨rfl, s2⟩ := dictAt_some g4
  refine ⟨l, Z, key, _, A, g2, fun y H2 Z2 P1 R1 => ?_⟩
  obtain ⟨v1, hv1, pk1⟩ := P1.po.al.val s2
  obtain ⟨a, rfl, _, look⟩ := pk1.dct
  obtain ⟨o, dg, _, hs⟩ := look key y R1
  refine ⟨_, hv1, a, o, rfl, dg, q _ H2 Z2 P1 ?_⟩
  rw [hs]
  exact .bl _
theorem pC_din {mk : M T} (hu : X.A.units + 1 < cLine) (h : PE X e (tVar k)) (hk : PE X e2 (rK X.K tk mk)) : PC X .In e2 e (rE X.K (bind mk fun key => bind (dictAt tk k) fun p => ret (.fr (.bl (false != dHas p.1 key))))) :=
  ⟨fun pins s σ H Q I q => (pc_din hu hk h).run pins s σ H Q I (by simpa [tDIn] using rDin q)⟩
theorem pC_dnin {mk : M T} (hu : X.A.units + 1 < cLine) (h : PE X e (tVar k)) (hk : PE X e2 (rK X.K tk mk)) : PC X .NotIn e2 e (rE X.K (bind mk fun key => bind (dictAt tk k) fun p => ret (.fr (.bl (true != dHas p.1 key))))) :=
  ⟨fun pins s σ H Q I q => (pc_dnotin hu hk h).run pins s σ H Q I (by simpa [tDNotIn] using rDin q)⟩
end
end Ir

set_option Elab.async false
set_option linter.all false
set_option maxRecDepth 20000
namespace Ir
open PySem L2 PyProof.Rows

/-! ### a dict that is walked -/
/-- frozen or not, what is read stays -/
def nFz : HO → Prop
  | .frz _ _ => False
  | _ => True
section
variable {X : L2.Cx} {K : PySem.W.Frag} {H H0 H' H1 H2 H3 : Hp} {Z Z0 Z' Z1 Z2 : Addr → Prop} {l l0 l1 l2 l' : Loc} {σ σ1 σ2 σ' : L2.St} {t key : T} {ts ks xs : List T} {v x y : V} {vs : List V} {a b : Addr} {o : Op} {os : List Op} {k : Nat} {e e1 e2 e3 : Expr} {es : List Expr} {pos apos cpos : Pos} {m : M Vl} {mo no : M Op} {tk : Bool} {Q : VK} {W : Addr → Prop} {F : Addr → Prop} {u : HO} {od : Obj}

theorem SqT.rdm (hr : ∀ b w, nFz w → Rd H b w → Rd H' b w) (h : SqT K H a vs) : SqT K H' a vs := by
  rcases h with h | h
  · exact .inl (hr _ _ trivial h)
  · exact .inr h
mutual
theorem RF.rdm (hr : ∀ b w, nFz w → Rd H b w → Rd H' b w) : ∀ {t : T} {v : V}, RF K H Z t v → RF K H' Z t v
  | _, _, .non => .non
  | _, _, .bl b => .bl b
  | _, _, .int i => .int i
  | _, _, .str x => .str x
  | _, _, .tup h r => .tup (SqT.rdm hr h) (RFs.rdm hr r)
  | _, _, .lst h z r => .lst (hr _ _ trivial h) z (RFs.rdm hr r)
  | _, _, .kls h r => .kls h (RFs.rdm hr r)
  | _, _, .dK h z q1 q2 r => .dK (hr _ _ trivial h) z q1 q2 (RFs.rdm hr r)
  | _, _, .dT h z q1 q2 r => .dT (hr _ _ trivial h) z q1 q2 (RFs.rdm hr r)
theorem RFs.rdm (hr : ∀ b w, nFz w → Rd H b w → Rd H' b w) : ∀ {ts : List T} {vs : List V}, RFs K H Z ts vs → RFs K H' Z ts vs
  | _, _, .nil => .nil
  | _, _, .cons r s => .cons (RF.rdm hr r) (RFs.rdm hr s)
end
theorem OA.rdm (hr : ∀ b w, nFz w → Rd H b w → Rd H' b w) (n : H' a = H a) (h : OA K H Z t a) : OA K H' Z t a := by
  cases h with
  | lst h r => exact .lst (n.trans h) (r.rdm hr)
  | dK h q1 q2 r => exact .dK (n.trans h) q1 q2 (r.rdm hr)
  | dT h q1 q2 r => exact .dT (n.trans h) q1 q2 (r.rdm hr)
theorem AL.rdm (A : AL K H Z l σ) (z : Z a) (n : ∀ b, b ≠ a → H' b = H b) (na : H' a ≠ none) (hr : ∀ b w, nFz w → Rd H b w → Rd H' b w) : AL K H' Z l σ := by
  refine ⟨fun b zb => ?_, A.len, fun i t h => ?_, fun i s t h1 h2 => ?_, A.dj⟩
  · by_cases e : b = a
    · rw [e]; exact na
    · rw [n b e]; exact A.zd b zb
  · obtain ⟨w, h1, h2⟩ := A.fr i t h
    exact ⟨w, h1, h2.rdm hr⟩
  · obtain ⟨c, h3, h4, h5⟩ := A.ow i s t h1 h2
    exact ⟨c, h3, h4.rdm hr (n c fun e => h5 (e ▸ z)), h5⟩
theorem lock_rd (h : H a = some u) (nu : nFz u) : ∀ b w, nFz w → Rd H b w → Rd (upd H a (.frz od u)) b w := fun b w nw r => by
  by_cases e : b = a
  · subst e
    rcases r with r | ⟨o, r⟩
    · rw [h] at r
      cases r
      exact .inr ⟨od, upd_same⟩
    · rw [h] at r
      cases r
      exact nu.elim
  · rcases r with r | ⟨o, r⟩
    · exact .inl (by rw [upd_ne e]; exact r)
    · exact .inr ⟨o, by rw [upd_ne e]; exact r⟩
theorem unlock_rd (h : H a = some (.frz od u)) : ∀ b w, nFz w → Rd H b w → Rd (upd H a u) b w := fun b w nw r => by
  by_cases e : b = a
  · subst e
    rcases r with r | ⟨o, r⟩
    · rw [h] at r
      cases r
      exact nw.elim
    · rw [h] at r
      cases r
      exact .inl upd_same
  · rcases r with r | ⟨o, r⟩
    · exact .inl (by rw [upd_ne e]; exact r)
    · exact .inr ⟨o, by rw [upd_ne e]; exact r⟩
theorem mu_nfz (m : isMu u) : nFz u := by cases u <;> first | trivial | exact m
/-- behind a locked statement -/
theorem Post.unlocked (A : AL K H Z l σ) (P : Post K l σ Z (upd H a (.frz od u)) l' σ' Z' H') (h : H a = some u) (m : isMu u) (z : Z a) :
    H' a = some (.frz od u) ∧ Post K l σ Z H l' σ' Z' (upd H' a u) := by
  have nw : ¬ Ir.W l σ a := fun w => (W_sub A a w).2 z
  have h2 : H' a = some (.frz od u) := P.ex.fr a _ upd_same nw
  have none_of : ∀ b, upd H a (.frz od u) b = none → H b = none := fun b q => by
    by_cases e : b = a
    · rw [e, upd_same] at q; cases q
    · rw [upd_ne e] at q; exact q
  refine ⟨h2, P.al.rdm (P.ex.up a z) (fun b e => upd_ne e) (by rw [upd_same]; simp) (unlock_rd h2), ⟨fun b o q n => ?_, P.ex.up, fun b q => ?_, fun b w => ?_, fun b q => ?_⟩, fun b w => ?_, P.lk, P.rw, fun b w => ?_⟩
  · by_cases e : b = a
    · subst e
      rw [h] at q
      rw [upd_same]; exact q
    · rw [upd_ne e]
      exact P.ex.fr b o (by rw [upd_ne e]; exact q) n
  · exact (P.ex.nw b q).imp_right (.imp_left (none_of b))
  · by_cases e : b = a
    · subst e; rw [upd_same]; simp
    · rw [upd_ne e]; exact P.ex.dm b w
  · by_cases e : b = a
    · subst e; rw [upd_same]; simp
    · rw [upd_ne e]; exact P.ex.zd b q
  · exact (P.wn b w).imp_right (none_of b)
  · exact (P.fo b w).imp_right (none_of b)
theorem ps_lockOr {st : Stmt} {t : TS} (h : PS X st t) : PS X st (fun D σ H => t D σ H ∨ tLock t D σ H) :=
  ⟨fun pins s σ H D I q => by
    rcases q with q | q
    · exact h.run pins s σ H D I q
    · exact (ps_lock h).run pins s σ H D I q⟩
/-- the entries of a locked dict with tuple keys -/
theorem frzTV {pins : List (Addr × Obj)} {s : Shared} {kvs : List (List Key × V)} (I : L2.Inv X pins σ H s) (h : H a = some (.frz od (.dT kvs))) :
    (a == sysModules) = false ∧ s.heap.get? a = some od ∧ od.ExactDict ∧ ∃ (es : Array DictEntry) (ep : Nat), od.data = .dict es ep ∧ es.size = kvs.length ∧
      ∀ (i : Nat) (k : List Key) (v : V), kvs[i]? = some (k, v) → ∃ (en : DictEntry), es[i]? = some en ∧ RelV v en.val := by
  obtain ⟨hd, z, hs, xs, pr, o', es, ep, ho, hx, hdt, he, _⟩ := I.hok a _ h
  rw [hd] at ho
  cases ho
  refine ⟨hs, hd, hx, es, ep, hdt, ?_, fun i k v e => ?_⟩
  · have l1 : es.size = xs.length := size_of_entries he
    have l2 : kvs.length = xs.length := Paired.length pr
    omega
  · obtain ⟨b, hb, e1, e2, e3⟩ := paired_get pr e
    have q := entry_at he i
    rw [hb] at q
    exact ⟨_, q, e3⟩
theorem turn_valsT {P : Program} {w : World} {K : PySem.W.Frag} {tg : Expr} {d : Addr} {o : Obj} {es : Array DictEntry} {ep : Nat} {kvs : List (List Key × V)} (it : Addr) (hod : o.data = .dict es ep) :
    Turn P w K tg (Itdt d o kvs) [it] it (fun i h => h.IsValIter it d i kvs.length ep) where
  mem := by simp
  obj := fun i h st b hb => by
    have e : b = it := by simpa using hb
    subst e
    obtain ⟨oi, e, c, dd⟩ := st
    exact ⟨oi, e, fun v z => by rw [dd] at z; cases z⟩
  keep := fun i h h' st k => st.at fun oi e => k it (by simp) oi e
  item := by
    intro X hP hw hK hc i pins s σ H E I hf st hg
    subst hP hw hK
    obtain ⟨hd, hi⟩ := hg
    obtain ⟨f0, f1, f2, f3, f4, f5⟩ := hf it (by simp)
    obtain ⟨hs, hgd, hx, es', ep', hdt, hsz, ent⟩ := frzTV I hd
    obtain ⟨rfl, rfl⟩ := dict_ep hod hdt
    obtain ⟨⟨k, v⟩, hkv⟩ : ∃ p, kvs[i]? = some p := ⟨kvs[i], List.getElem?_eq_getElem hi⟩
    obtain ⟨en, hen, hval⟩ := ent i k v hkv
    rw [← hsz] at st
    have hlt : i < es'.size := by rw [hsz]; exact hi
    refine wpAny_pyNext_values_item_raw st ⟨o, hgd, hx, hdt⟩ hlt fun h' st' sb => ?_
    have I1 : L2.Inv X pins σ H { s with heap := h' } := I.turned (t' := s.toks) (fun b ob hb e => (sb.2 b hb).trans e) f0 f1 f3 f4 f5
    have ee : es'[i] = en := by
      rw [Array.getElem?_eq_getElem hlt] at hen
      exact Option.some.inj hen
    obtain ⟨oi, e, c, dd⟩ := id st'
    refine ⟨es'[i].val, rfl, go_of (s := { s with heap := h' }) e c dd (by decide) ⟨v, H, I1, by rw [ee]; exact hval, ⟨rfl, k, hkv⟩, ?_, fun b hb => (hf b hb).1⟩⟩
    show h'.IsValIter it d (i + 1) kvs.length _
    rw [← hsz]
    exact st'
  done := by
    intro X hP hw hK hc i pins s σ H E I hf st hg
    subst hP hw hK
    obtain ⟨hd, hi⟩ := hg
    obtain ⟨f0, f1, f2, f3, f4, f5⟩ := hf it (by simp)
    obtain ⟨hs, hgd, hx, es', ep', hdt, hsz, ent⟩ := frzTV I hd
    obtain ⟨rfl, rfl⟩ := dict_ep hod hdt
    rw [← hsz] at st
    exact wpAny_pyNext_values_end_raw (I.ok.hd hc) st ⟨o, hgd, hx, hdt⟩ (by rw [hsz]; exact hi) fun h' eb => ⟨rfl, I.turned (t' := s.toks) (fun b ob hb e => eb b ob hb e) f0 f1 f3 f4 f5⟩
  self := fun A i s Q E st h => wpAny_pyIter_valiter st h
/-- the source of a walk over a dict -/
def iDk (vals : Bool) (k : Nat) : TI := fun σ H R => ∃ d o, σ[k]? = some (some (.ref d)) ∧ ((∃ kvs, H d = some (.frz o (.dK kvs)) ∧ R (if vals = true then Itd d o kvs else Itk d o kvs) H) ∨ ∃ kvs, H d = some (.frz o (.dT kvs)) ∧ R (if vals = true then Itdt d o kvs else Itkt d o kvs) H)
theorem pI_dky {tg : Expr} (h : PE X e (tVar k)) : PI X tg e (iDk false k) := (pi_keys h).irw fun σ H R ⟨d, o, h1, q⟩ => ⟨_, h1, d, o, rfl, by simpa using q⟩
theorem pI_dvs {tg : Expr} (he : PE X e (tVar k)) (hbase : attributeBase e "values" X.env (eval e X.env) = eval e X.env) (hline : (apos.endLine == cpos.line) = true) :
    PI X tg (.Call (.Attribute e "values" apos) [] [] cpos) (iDk true k) := by
  refine ⟨fun pins s σ H R I ⟨d, o, h1, q⟩ => ?_⟩
  rcases q with ⟨kvs, hd, q⟩ | ⟨kvs, hd, q⟩
  · exact (pi_values he hbase hline).run pins s σ H R I ⟨_, h1, d, o, kvs, rfl, hd, by simpa using q⟩
  · refine wpAny_Call_method (T := "dict") (id := "dict.values") hbase rfl hline PySem.F.plainAttrs_dict PySem.F.slot_dict_values PySem.F.type_dict_values (thn (he.run pins s σ H (fun x H1 => x = .ref d ∧ H1 = H) I ⟨_, h1, rfl, rfl⟩) fun u s1 ⟨x, H1, I1, rx, ex, eH⟩ => ?_)
    subst ex eH
    obtain rfl : u = Value.ref d := rx
    obtain ⟨hs, hgd, hx, es, ep, hdt, hsz, ent⟩ := frzTV I1 hd
    have raw : s1.heap.DictRaw d es ep := ⟨o, hgd, hx, hdt⟩
    refine ⟨raw.typeIs, fun b q => by cases q; exact ⟨o, hgd, hx.2.1⟩, ?_⟩
    have I2 : L2.Inv X pins σ H1 { s1 with heap := s1.heap.push { cls := .type "dict_values", data := .fields #[.ref d] } } := I1.kept (t' := s1.toks) fun b ob q => Heap.get?_push_of_some _ q
    have fin : wpAny (model X.prog X.w) X.A (pyIter (.ref s1.heap.objs.size)) (PIE X pins σ tg R) X.xe { s1 with heap := s1.heap.push { cls := .type "dict_values", data := .fields #[.ref d] } } := by
      refine wpAny_pyIter_values_raw (d := d) ⟨_, Heap.get?_push_size _ rfl, rfl, rfl⟩ (raw.at fun o q => Heap.get?_push_of_some _ q) (pi_one (tk := s1.toks) I2 _ (turn_valsT _ hdt) ⟨_, Heap.get?_push_size _ rfl, rfl, ?_⟩ (by simpa using q))
      rw [hsz] <;> rfl
    show wpAny _ _ (callWith cpos (.builtin "dict.values") [.ref d] [] []) _ X.xe s1
    exact method_meetsIn PySem.F.slot_dict_values PySem.F.entry_dict_values rfl (PySem.evalArgs_none ⟨rfl, raw.typeIs, PySem.F.args_dict_values_1 _, _, meets_dict_values_raw d hs, ⟨⟨es, ep, raw⟩, fin⟩⟩)
theorem dkM_some {vals : Bool} {oi : Op × List T} (e : dkM vals k l = some (oi, l')) : ∃ tk ks vs, Ir.take k l = some (.dct tk ks vs, l') ∧ oi = (.vl (.fr .non), if vals = true then vs else ks) := by
  obtain ⟨t, l1, h1, h2⟩ := bind_some.mp e
  cases t <;> first | (cases h2; done) | skip
  obtain ⟨rfl, rfl⟩ := ret_some.mp h2
  exact ⟨_, _, _, h1, rfl⟩
/-- for x in d, for x in d.values() -/
theorem pS_ford {vals : Bool} {tge iter : Expr} {body : List Stmt} {tg : Tg} {mb : M Fl} {fg : List Nat} (hp : PassesOwn (model X.prog X.w) X.A X.env X.xe) (hc : X.calm = true) (hi : PI X tge iter (iDk vals k)) (hg : PG X tge (gOf X.K tg)) (hb : PSs X body (rS X.K F mb))
    (hs : ∀ x, foldedSetIterable iter X.env x = pure x) : PS X (.For tge iter body [] pos) (rS X.K F (forS (dkM vals k) tg mb fg)) := (ps_lockOr (ps_for hp hc hi hg hb hs)).irw fun D σ H ⟨l, Z, f, l', A, f1, f2, e, q⟩ => by
  obtain ⟨oi, l1, e1, e2⟩ := bind_some.mp e
  obtain ⟨tk, ks, ts, e3, rfl⟩ := dkM_some e1
  obtain ⟨v, Z1, hσ, P, R⟩ := take_post A e3
  have A1 := P.po.al
  have g := P.po.own f1 f2
  have e' : forS (ret (.vl (.fr .non), if vals = true then ts else ks)) tg mb fg l1 = some (f, l') := e2
  -- the loop over a locked dict
  have core : ∀ (Hx : Hp) (D' : Ends) (d : Addr) (o : Obj), AL X.K Hx Z1 l1 σ → (∀ b, Hx b = none → H b = none) → σ[k]? = some (some (.ref d)) → ((∃ kvs, Hx d = some (.frz o (.dK kvs)) ∧ kvs.map (fun p => kT p.1) = ks ∧ ∃ vs, kvs.map (fun p => p.2) = vs ∧ RFs X.K Hx Z1 ts vs) ∨ ∃ kvs, Hx d = some (.frz o (.dT kvs)) ∧ kvs.map (fun p => kTs p.1) = ks ∧ ∃ vs, kvs.map (fun p => p.2) = vs ∧ RFs X.K Hx Z1 ts vs) →
      (∀ σ' H' Z', Post X.K l1 σ Z1 Hx l' σ' Z' H' → FQ X.K F D' Z' σ' H' f) → tFor (iDk vals k) (gOf X.K tg) (rS X.K F mb) D' σ Hx := fun Hx D' d o Ax nx hd src q' => by
    refine for_core Ax g.1 (fun b h => f2 b (nx b h)) e' q' fun R oi l2 e4 kk => ?_
    obtain ⟨rfl, rfl⟩ := ret_some.mp e4
    refine ⟨d, o, hd, ?_⟩
    rcases src with ⟨kvs, s1, s2, vs, s3, s4⟩ | ⟨kvs, s1, s2, vs, s3, s4⟩
    · refine .inl ⟨kvs, s1, ?_⟩
      cases vals with
      | true => exact kk _ Hx Z1 none (PostE.refl Ax) (.dvy s1 s3 s4) (fun a h => by cases h)
      | false => exact kk _ Hx Z1 none (PostE.refl Ax) (.dky s1 s2) (fun a h => by cases h)
    · refine .inr ⟨kvs, s1, ?_⟩
      cases vals with
      | true => exact kk _ Hx Z1 none (PostE.refl Ax) (.dvt s1 s3 s4) (fun a h => by cases h)
      | false => exact kk _ Hx Z1 none (PostE.refl Ax) (.dkt s1 s2) (fun a h => by cases h)
  -- it is locked
  have lockd : ∀ (d : Addr) (u : HO), v = .ref d → H d = some u → isMu u → Z1 d → (∀ od, ((∃ kvs, u = .dK kvs ∧ kvs.map (fun p => kT p.1) = ks ∧ ∃ vs, kvs.map (fun p => p.2) = vs ∧ RFs X.K H Z1 ts vs) ∨ ∃ kvs, u = .dT kvs ∧ kvs.map (fun p => kTs p.1) = ks ∧ ∃ vs, kvs.map (fun p => p.2) = vs ∧ RFs X.K H Z1 ts vs)) → Mut (some u) →
      tLock (tFor (iDk vals k) (gOf X.K tg) (rS X.K F mb)) D σ H := fun d u ev hu mu zd src mt => by
    subst ev
    refine ⟨d, u, hu, mt, fun od => ?_⟩
    have rd := lock_rd (od := od) hu (mu_nfz mu)
    have Ax : AL X.K (upd H d (.frz od u)) Z1 l1 σ := A1.rdm zd (fun b e => upd_ne e) (by rw [upd_same]; simp) rd
    refine core _ _ d od Ax (fun b h => ?_) hσ ?_ fun σ' H' Z' PP => ?_
    · by_cases e : b = d
      · subst e; rw [upd_same] at h; cases h
      · rw [upd_ne e] at h; exact h
    · rcases src od with ⟨kvs, s0, s2, vs, s3, s4⟩ | ⟨kvs, s0, s2, vs, s3, s4⟩
      · exact .inl ⟨kvs, by rw [upd_same, s0], s2, vs, s3, s4.rdm rd⟩
      · exact .inr ⟨kvs, by rw [upd_same, s0], s2, vs, s3, s4.rdm rd⟩
    · obtain ⟨hz, PQ⟩ := PP.unlocked A1 hu mu zd
      have fq := q σ' _ Z' (P.po.trans PQ)
      have rdu := unlock_rd hz
      cases f with
      | nx => exact ⟨hz, fq⟩
      | bk => exact ⟨hz, fq⟩
      | ct => exact ⟨hz, fq⟩
      | rt w =>
        intro x vf
        refine ⟨hz, fq x ?_⟩
        cases w with
        | fr t => exact RF.rdm rdu vf
        | ow t =>
          obtain ⟨c, e1, o1, z1, f1⟩ := vf
          have nc : c ≠ d := fun e => by
            subst e
            exact z1 (PP.ex.up _ zd)
          exact ⟨c, e1, o1.rdm rdu (upd_ne nc), z1, f1⟩
  cases R with
  | @dK d kvs _ _ vs h1 z q1 q2 r =>
    rcases h1 with h1 | ⟨o, h1⟩
    · exact .inr (lockd d _ rfl h1 trivial z (fun od => .inl ⟨kvs, rfl, q1, vs, q2, r⟩) trivial)
    · exact .inl (core H D d o A1 (fun _ h => h) hσ (.inl ⟨kvs, h1, q1, vs, q2, r⟩) fun σ' H' Z' PP => q σ' H' Z' (P.po.trans PP))
  | @dT d kvs _ _ vs h1 z q1 q2 r =>
    rcases h1 with h1 | ⟨o, h1⟩
    · exact .inr (lockd d _ rfl h1 trivial z (fun od => .inr ⟨kvs, rfl, q1, vs, q2, r⟩) trivial)
    · exact .inl (core H D d o A1 (fun _ h => h) hσ (.inr ⟨kvs, h1, q1, vs, q2, r⟩) fun σ' H' Z' PP => q σ' H' Z' (P.po.trans PP))
/-- d[key] = x -/
theorem pS_dput {mk me : M T} {apos : Pos} (hu : X.A.units + 1 < cLine) (h : PE X e (tVar k)) (hk : PE X e2 (rK X.K tk mk)) (hv : PE X e3 (rG X.K me)) (hs : swapsWith e3 (some (.Subscript e e2 apos)) pos.line X.env = pure false) :
    PS X (.Assign [.Subscript e e2 apos] e3 pos) (rS X.K F (dputM tk k mk me)) := (ps_dput hu h hk hv hs).irw fun D σ H ⟨l, Z, f, l', A, f1, f2, e0, q⟩ => by
  obtain ⟨t0, l0, g0, e1⟩ := bind_some.mp e0
  obtain ⟨hl0, s0, s01, s02, _⟩ := own_get g0
  subst hl0
  obtain ⟨a, ha, _⟩ := A.ow k s0 t0 s01 s02
  obtain ⟨x, l1, g1, e2⟩ := bind_some.mp e1
  obtain ⟨key, l2, g2, e3⟩ := bind_some.mp e2
  obtain ⟨t, l3, g3, e4⟩ := bind_some.mp e3
  clear e0 e1 e2 e3
  have e0 := e4
  clear e4
  have hd : ∃ tk' ks ts, t = .dct tk' ks ts := by cases t <;> first | (cases e0; done) | exact ⟨_, _, _, rfl⟩
  obtain ⟨tk', ks, ts, rfl⟩ := hd
  have e0 : (if tk' = tk ∧ ks.length < sizeMax then bind (put k (.dct tk (dKs ks key) (dVs ks ts key x))) (fun _ => ret .nx) l3 else none) = some (f, l') := e0
  split at e0
  · rename_i cc
    obtain ⟨rfl, hlen⟩ := cc
    obtain ⟨_, l4, g4, e0⟩ := bind_some.mp e0
    obtain ⟨rfl, rfl⟩ := ret_some.mp e0
    obtain ⟨rfl, s, s1, s2, s3⟩ := own_get g3
    refine ⟨_, Z, x, l1, A, g1, fun v H1 Z1 P1 R1 => ?_⟩
    refine ⟨_, ha, l1, Z1, key, _, P1.po.al, g2, fun y H2 Z2 P2 R2 => ?_⟩
    have A2 := P2.po.al
    have rx : RF X.K H2 Z2 x v := R1.ex P2.po.ex (W_sub P1.po.al)
    obtain ⟨c, hc, o2, _⟩ := A2.ow k s _ s1 s2
    obtain rfl := own_inj ha hc
    cases o2 with
    | @dK _ kvs _ _ vs h1 q1 q2 r =>
      obtain ⟨kk, rfl, rfl⟩ := R2
      subst q1 q2
      refine ⟨a, _, rfl, .inl ⟨kvs, kk, h1, rfl, by simp at hlen; exact hlen, rfl⟩, q σ _ Z2 ?_⟩
      refine ((P1.trans P2).trans (put_postG A2 g4 ha fun ex hw => ?_)).po
      exact .dK upd_same (put_keys (fun _ _ => kT_eqv) kk v kvs) rfl (put_vals (fun _ _ => kT_eqv) kk (rx.ex ex hw) (r.ex ex hw))
    | @dT _ kvs _ _ vs h1 q1 q2 r =>
      obtain ⟨b, kk, rfl, hb, rfl⟩ := R2
      subst q1 q2
      refine ⟨a, _, rfl, .inr ⟨kvs, kk, b, h1, rfl, hb, by simp at hlen; exact hlen, rfl⟩, q σ _ Z2 ?_⟩
      refine ((P1.trans P2).trans (put_postG A2 g4 ha fun ex hw => ?_)).po
      exact .dT upd_same (put_keys (fun _ _ => kTs_eqv) kk v kvs) rfl (put_vals (fun _ _ => kTs_eqv) kk (rx.ex ex hw) (r.ex ex hw))
  · cases e0
end
end Ir

set_option Elab.async false
set_option linter.all false
set_option maxRecDepth 20000
namespace Ir
open PySem L2

section
variable {X : L2.Cx} {K : PySem.W.Frag} {H H0 H' H1 H2 H3 : Hp} {Z Z0 Z' Z1 Z2 : Addr → Prop} {l l0 l1 l2 l' : Loc} {σ σ1 σ2 σ' : L2.St} {t key : T} {ts ks xs : List T} {v : V} {vs : List V} {a b : Addr} {o : Op} {os : List Op} {k : Nat} {e e1 e2 e3 : Expr} {es : List Expr} {pos apos cpos : Pos} {m : M Vl} {mo no : M Op} {tk : Bool} {Q : VK} {W : Addr → Prop} {F : Addr → Prop}
/-- a, b, c = x, y, z -/
theorem pS_par3 {i j n : Nat} {x y z : Str} {ea eb ec : Expr} {px py pz pt : Pos} {kt k2 pt2} {mm : M (List Op)} (hc : X.calm = true) (hN : X.N.Nodup) (hi : X.N[i]? = some x) (hj : X.N[j]? = some y) (hn : X.N[n]? = some z) (hij : i ≠ j) (hin : i ≠ n) (hjn : j ≠ n)
    (hx : X.env.scope.names.lookup x = some .local) (hy : X.env.scope.names.lookup y = some .local) (hz : X.env.scope.names.lookup z = some .local) (h : PA X [ea, eb, ec] (rOs X.K mm))
    (hw : swappedStores [.Tuple [.Name x px, .Name y py, .Name z pz] kt pt] (.Tuple [ea, eb, ec] k2 pt2) X.env = pure (some [x, y, z])) (hs : swapsWithSole [.Tuple [.Name x px, .Name y py, .Name z pz] kt pt] (.Tuple [ea, eb, ec] k2 pt2) pos.line X.env = pure false) :
    PS X (.Assign [.Tuple [.Name x px, .Name y py, .Name z pz] kt pt] (.Tuple [ea, eb, ec] k2 pt2) pos) (rS X.K F (par3M i j n mm)) :=
  (ps_par3 hc hN hi hj hn hij hin hjn hx hy hz h hw hs).irw fun D σ H ⟨l, Z, f, l', A, f1, f2, e, q⟩ => by
  obtain ⟨os, l1, e1, e2⟩ := bind_some.mp e
  obtain ⟨ts, l2, e3, e4⟩ := bind_some.mp e2
  have hd : ∃ u v w, ts = [u, v, w] := by
    match ts, e4 with
    | [u, v, w], _ => exact ⟨u, v, w, rfl⟩
    | [], e => cases e
    | [_], e => cases e
    | [_, _], e => cases e
    | _ :: _ :: _ :: _ :: _, e => cases e
  obtain ⟨u, v, w, rfl⟩ := hd
  obtain ⟨_, l3, e5, e6⟩ := bind_some.mp e4
  obtain ⟨_, l4, e7, e8⟩ := bind_some.mp e6
  obtain ⟨_, l5, e9, e10⟩ := bind_some.mp e8
  obtain ⟨rfl, rfl⟩ := ret_some.mp e10
  refine ⟨l, Z, os, l1, A, e1, fun vs H1 Z1 P R nd => ?_⟩
  obtain ⟨Z2, P2, r2, _⟩ := gives_post A P R nd e3
  cases r2 with
  | cons ra rb =>
    cases rb with
    | cons rb rc =>
      cases rc with
      | cons rc rn =>
        cases rn
        have Q1 := (stF_post P2.po.al ra e5).1
        have Q2 := (stF_post Q1.al rb e7).1
        have Q3 := (stF_post Q2.al rc e9).1
        exact ⟨_, _, _, rfl, q _ H1 Z2 (((P2.po.trans Q1).trans Q2).trans Q3)⟩
/-! ### replace -/
/-- behind it a token is out -/
def PEK (X : L2.Cx) (e : Expr) (t : TE) : Prop :=
  ∀ (pins : List (Addr × Obj)) (s : Shared) (σ : L2.St) (H : Hp) (Q : VK), L2.Inv X pins σ H s → t σ H Q → wpAny (model X.prog X.w) X.A (eval e X.env) (fun v s1 => 1 ≤ s1.toks ∧ EP X pins σ Q v s1) X.xe s
theorem PEK.pe {te : TE} (h : PEK X e te) : PE X e te := ⟨fun pins s σ H Q I q => thn (h pins s σ H Q I q) fun v s1 z => z.2⟩
theorem PEK.irw {t t' : TE} (h : PEK X e t) (g : ∀ σ H Q, t' σ H Q → t σ H Q) : PEK X e t' := fun pins s σ H Q I q => h pins s σ H Q I (g σ H Q q)
theorem pek_int {i : Int} {j : Nat} : PEK X (.Constant (.int i) j pos) (tC (.int i)) := fun pins s σ H Q I q =>
  wpAny_Constant_int ⟨by show 1 ≤ s.toks + 1; omega, ⟨.int i, H, I.tok _, ⟨_, rfl⟩, q⟩⟩
theorem pek_ix {r : R2} {ta tb : TE} (ho : IxR X r) (ha : PE X e ta) (hb : PEK X e2 tb) (hs : PlainIx e2) : PEK X (.Subscript e e2 pos) (tOp r ta tb) := by
  intro pins s σ H Q I h
  refine PyProof.Rows.Subscript_ (thn (ha.run pins s σ H _ I h) fun v s1 ⟨x, H1, I1, rx, q1⟩ => thn (hb pins s1 σ H1 _ I1 q1) fun u s2 ⟨hk, y, H2, I2, ry, q2⟩ => ?_)
  exact wpAny_mono (PySem.wpAny_toks_of hk (ho e e2 pins s2 σ H2 x y v u Q I2 rx ry q2 (hs _ _))) (fun _ _ z => z) fun _ _ z => z.2
def isSubC : Expr → Bool
  | .Subscript _ _ _ => true
  | .Call (.Attribute _ _ _) _ _ _ => true
  | _ => false
theorem pek_repl {y z : Str} {j n : Nat} {c0 c1 : Pos} {te : TE} (ho : PEK X e te) (hc : isSubC e = true) (hyz : (y == z) = false) (hline : (apos.endLine == pos.line) = true) :
    PEK X (.Call (.Attribute e "replace" apos) [.Constant (.str y) j c0, .Constant (.str z) n c1] [] pos) (CwR.tReplC te y z) := by
  intro pins s σ H Q I h
  have hbase : attributeBase e "replace" X.env (eval e X.env) = eval e X.env := by
    cases e <;> first | rfl | (cases hc; done) | skip
    rename_i f _ _ _
    cases f <;> first | rfl | cases hc
  refine PySem.Call_method2 hbase (by rfl) hline (thn (ho pins s σ H _ I h) fun v s1 q => ?_)
  obtain ⟨hk, v', H1, I1, r1, x, e1, hb, q⟩ := q
  subst e1
  obtain ⟨tx, e2⟩ := r1
  subst e2
  refine ⟨"str", _, PySem.F.plainAttrs_str, PySem.F.slot_str_replace, PySem.F.type_str_replace, typeIs_str _ _ _, (fun _ e => nomatch e), Calls.callWith_builtin rfl (Calls.evalArgs_plain (Calls.spliced_cons ?_))⟩
  refine Calls.Constant_str (Calls.spliced_cons (Calls.Constant_str (Calls.spliced_nil ?_)))
  have fin := PySem.SC.replace (prog := X.prog) (w := X.w) (A := X.A) (E := X.xe) (s := { s1 with toks := s1.toks + 1 + 1 }) (t := tx) (Q := EP X pins σ Q) (show s1.toks ≠ 0 by omega) (show s1.toks + 1 ≠ 0 by omega) (show s1.toks ≠ s1.toks + 1 by omega) hyz hb fun t' k => ⟨.str (Txt.replace x y z), H1, I1.tok k, ⟨t', rfl⟩, q⟩
  exact wpAny_mono (PySem.wpAny_toks_of (n := 1) (show 1 ≤ s1.toks + 1 + 1 by omega) fin) (fun _ _ z => z) fun _ _ z => z.2
theorem str_of_list {z : Str} {a : List Nat} (h : (z.cps.toList == a) = true) : z = ⟨a.toArray⟩ := by
  have h : z.cps.toList = a := eq_of_beq h
  subst h
  cases z
  simp
/-- e.replace(y, z) taken apart -/
def repOne : Expr → Option (Expr × Str × Str)
  | .Call (.Attribute o m ap) [.Constant (.str y) _ _, .Constant (.str z) _ _] [] cp => if (m.cps.toList == ("replace" : Str).cps.toList) && (ap.endLine == cp.line) && !(y == z) && isSubC o then some (o, y, z) else none
  | _ => none
theorem repOne_inv {o : Expr} {y z : Str} (h : repOne e = some (o, y, z)) : ∃ ap j c0 n c1 cp, e = .Call (.Attribute o "replace" ap) [.Constant (.str y) j c0, .Constant (.str z) n c1] [] cp ∧ (ap.endLine == cp.line) = true ∧ (y == z) = false ∧ isSubC o = true := by
  unfold repOne at h
  split at h
  · rename_i o' m ap y' j c0 z' n c1 cp
    by_cases cc : ((m.cps.toList == ("replace" : Str).cps.toList) && (ap.endLine == cp.line) && !(y' == z') && isSubC o') = true
    · rw [if_pos cc] at h
      cases h
      simp only [Bool.and_eq_true, Bool.not_eq_true'] at cc
      obtain ⟨⟨⟨h1, h2⟩, h3⟩, h4⟩ := cc
      have hm := str_of_list h1
      have hm : m = "replace" := by rw [hm]
      subst hm
      exact ⟨_, _, _, _, _, _, rfl, h2, h3, h4⟩
    · rw [if_neg cc] at h
      cases h
  · cases h
/-- the receiver of a chain of replace -/
def repO : List (List Nat × List Nat) → Expr → Option Expr
  | [], e => some e
  | p :: r, e => match repOne e with
    | some (o, y, z) => if (y.cps.toList == p.1) && (z.cps.toList == p.2) then repO r o else none
    | none => none
def tRep : List (List Nat × List Nat) → TE → TE
  | [], to => to
  | (a, b) :: r, to => CwR.tReplC (tRep r to) ⟨a.toArray⟩ ⟨b.toArray⟩
theorem pek_chain {o : Expr} {to : TE} (ho : PEK X o to) : ∀ {ps : List (List Nat × List Nat)} {e : Expr}, repO ps e = some o → PEK X e (tRep ps to)
  | [], e, h => by cases h; exact ho
  | (a, b) :: r, e, h => by
    have h9 : (match repOne e with
      | some (o', y, z) => if ((y.cps.toList == a) && (z.cps.toList == b)) = true then repO r o' else none
      | none => none) = some o := h
    clear h
    cases q : repOne e with
    | none => rw [q] at h9; cases h9
    | some t =>
      obtain ⟨o', y, z⟩ := t
      rw [q] at h9
      have h : (if ((y.cps.toList == a) && (z.cps.toList == b)) = true then repO r o' else none) = some o := h9
      clear h9
      obtain ⟨ap, j, c0, n, c1, cp, rfl, h2, h3, h4⟩ := repOne_inv q
      by_cases cc : ((y.cps.toList == a) && (z.cps.toList == b)) = true
      · rw [if_pos cc] at h
        obtain ⟨g1, g2⟩ := (Bool.and_eq_true _ _).mp cc
        obtain rfl := str_of_list g1
        obtain rfl := str_of_list g2
        exact pek_repl (pek_chain ho h) h4 h3 h2
      · rw [if_neg cc] at h
        cases h
theorem rpl_eq {x : Str} {a : Nat} {b : List Nat} : Txt.replace x ⟨#[a]⟩ ⟨b.toArray⟩ = ⟨(rpl1 a b x.cps.toList).toArray⟩ := by
  have h := StrLaws.replace_list (x := x) (y := ⟨#[a]⟩) (z := ⟨b.toArray⟩) (by show 1 ≤ 1; omega)
  have g : ∀ s : List Nat, StrLaws.replL [a] b s = rpl1 a b s := fun s => by
    induction s with
    | nil => rw [StrLaws.replL_nil]; rfl
    | cons c r ih =>
      unfold rpl1
      rw [List.flatMap_cons]
      by_cases e : c = a
      · subst e
        rw [StrLaws.replL_hit (by simp) (by simp), if_pos rfl]
        show b ++ StrLaws.replL [c] b r = _
        rw [ih]; rfl
      · rw [StrLaws.replL_miss (by simpa using e), if_neg e, ih]; rfl
  have h2 : (Txt.replace x ⟨#[a]⟩ ⟨b.toArray⟩).cps.toList = rpl1 a b x.cps.toList := by
    rw [h]; exact g _
  cases q : Txt.replace x ⟨#[a]⟩ ⟨b.toArray⟩ with
  | mk cps =>
    rw [q] at h2
    have h2 : cps.toList = rpl1 a b x.cps.toList := h2
    rw [← h2]
theorem rplR_cons {a b s z : List Nat} {r : List (List Nat × List Nat)} (h : rplR ((a, b) :: r) s = some z) : ∃ a' z', a = [a'] ∧ rplR r s = some z' ∧ (z'.length ≤ 1000000 ∧ b.length ≤ 1) ∧ z = rpl1 a' b z' := by
  match a, h with
  | [], h => cases h
  | [a'], h =>
    have h : (match rplR r s with
      | some z => if z.length ≤ 1000000 ∧ b.length ≤ 1 then some (rpl1 a' b z) else none
      | none => none) = some z := h
    cases q : rplR r s with
    | none => rw [q] at h; cases h
    | some z' =>
      rw [q] at h
      by_cases c : z'.length ≤ 1000000 ∧ b.length ≤ 1
      · have h : (if z'.length ≤ 1000000 ∧ b.length ≤ 1 then some (rpl1 a' b z') else none) = some z := h
        rw [if_pos c] at h
        cases h
        exact ⟨a', z', rfl, rfl, c, rfl⟩
      · have h : (if z'.length ≤ 1000000 ∧ b.length ≤ 1 then some (rpl1 a' b z') else none) = some z := h
        rw [if_neg c] at h
        cases h
  | _ :: _ :: _, h => cases h
theorem rep_read : ∀ {ps : List (List Nat × List Nat)} {Q : VK}, rE K m σ H (fun v H1 => ∃ x z, v = .str x ∧ rplR ps x.cps.toList = some z ∧ Q (.str ⟨z.toArray⟩) H1) → tRep ps (rE K m) σ H Q
  | [], Q, h => rE_mono h fun v H1 ⟨x, z, e1, e2, q⟩ => by
    cases e2
    subst e1
    simpa using q
  | (a, b) :: r, Q, h => by
    refine rep_read (ps := r) (rE_mono h fun v H1 ⟨x, z, e1, e2, q⟩ => ?_)
    obtain ⟨a', z', rfl, e4, cc, rfl⟩ := rplR_cons e2
    refine ⟨x, z', e1, e4, ⟨z'.toArray⟩, rfl, ?_, ?_⟩
    · show z'.toArray.size + (z'.toArray.size + 1) * b.toArray.size ≤ 16777216
      rw [List.size_toArray, List.size_toArray]
      have h1 := cc.1
      have h2 := cc.2
      have : (z'.length + 1) * b.length ≤ (z'.length + 1) * 1 := Nat.mul_le_mul_left _ h2
      omega
    · have := rpl_eq (x := ⟨z'.toArray⟩) (a := a') (b := b)
      show Q (.str (Txt.replace ⟨z'.toArray⟩ ⟨[a'].toArray⟩ ⟨b.toArray⟩)) H1
      rw [show ([a'].toArray : Array Nat) = #[a'] from rfl, this]
      simpa using q
theorem rE_str {f : List Nat → Option (List Nat)} {Q : VK} (h : rE K (bind m fun v => match v with
    | .fr (.str s) => match f s with
      | some z => ret (.fr (.str z))
      | none => fun _ => none
    | _ => fun _ => none) σ H Q) : rE K m σ H (fun v H1 => ∃ x z, v = .str x ∧ f x.cps.toList = some z ∧ Q (.str ⟨z.toArray⟩) H1) := by
  obtain ⟨l, Z, r, l', A, e, q⟩ := h
  obtain ⟨v, l1, e1, e2⟩ := bind_some.mp e
  have hv : ∃ s z, v = .fr (.str s) ∧ f s = some z := by
    cases v with
    | ow t => cases e2
    | fr t =>
      cases t <;> first | (cases e2; done) | skip
      rename_i s
      have e2 : (match f s with
        | some z => ret (Vl.fr (.str z))
        | none => fun _ => none) l1 = some (r, l') := e2
      cases q : f s with
      | none => rw [q] at e2; cases e2
      | some z => exact ⟨s, z, rfl, q⟩
  obtain ⟨s, z, rfl, hz⟩ := hv
  have e2 : (match f s with
    | some z => ret (Vl.fr (.str z))
    | none => fun _ => none) l1 = some (r, l') := e2
  rw [hz] at e2
  obtain ⟨rfl, rfl⟩ := ret_some.mp e2
  refine ⟨l, Z, _, _, A, e1, fun v H1 Z1 P R => ?_⟩
  have R : RF K H1 Z1 (.str s) v := R
  cases R with
  | str x =>
    refine ⟨x, z, rfl, hz, q _ H1 Z1 P ?_⟩
    have := RF.str (K := K) (H := H1) (Z := Z1) ⟨z.toArray⟩
    show RF K H1 Z1 (.str z) _
    simpa using this
/-- x[i].replace(..).replace(..) -/
theorem pE_repl {i : Int} {j : Nat} {c0 : Pos} {mo : M Op} {ps : List (List Nat × List Nat)} {ex : Expr} {q0 : Pos} (ha : PE X ex (rO X.K mo)) (hr : repO ps e = some (.Subscript ex (.Constant (.int i) j c0) q0)) (ho : IxR X (rP2 X.K .idx)) :
    PE X e (rE X.K (bind (prM .idx (bind mo fun o => bind (bind (opO (.con (.int i)) (ret (.fr (.int i)))) fun o => bind (ret []) fun os => ret (o :: os)) fun os => ret (o :: os))) fun v => match v with
      | .fr (.str s) => match rplR ps s with
        | some z => ret (.fr (.str z))
        | none => fun _ => none
      | _ => fun _ => none)) := by
  have hb : PEK X (.Constant (.int i) j c0) (rO X.K (opO (.con (.int i)) (ret (.fr (.int i))))) := pek_int.irw fun σ H Q ⟨l, Z, r, l', A, e0, q⟩ => by
    have e0 : (bind (ret (Vl.fr (.int i))) fun v => ret (Op.vl v)) l = some (r, l') := e0
    obtain ⟨v, l1, h1, h2⟩ := bind_some.mp e0
    obtain ⟨rfl, rfl⟩ := ret_some.mp h1
    obtain ⟨rfl, rfl⟩ := ret_some.mp h2
    exact q _ H Z (PostE.refl A) (.int i)
  have base : PEK X (.Subscript ex (.Constant (.int i) j c0) q0) (rE X.K (prM .idx (bind mo fun o => bind (bind (opO (.con (.int i)) (ret (.fr (.int i)))) fun o => bind (ret []) fun os => ret (o :: os)) fun os => ret (o :: os)))) :=
    (pek_ix ho ha hb (fun _ _ => rfl)).irw fun σ H Q h => rP_two h
  exact ((pek_chain base hr).irw fun σ H Q h => rep_read (rE_str h)).pe
end
end Ir

set_option Elab.async false
set_option linter.all false
set_option maxRecDepth 20000
/-! {k1: v1, k2: v2}.get(a, b), texts all -/
namespace Ir
open PySem L2
section
variable {X : L2.Cx} {K : PySem.W.Frag} {H H0 H' H1 H2 H3 : Hp} {Z Z0 Z' Z1 Z2 Z3 : Addr → Prop} {t : T} {ts xs fin : List T} {v x y : V} {vs : List V} {a b : Addr} {Q : VK} {p : Pr} {res : Vl} {e e2 e3 : Expr} {es : List Expr} {pos apos cpos dpos p1 p2 p3 p4 : Pos} {σ : L2.St} {m n : M Vl} {mo : M Op} {l l1 l2 l' : Loc}
def dgetM (k1 v1 k2 v2 : List Nat) (m n : M Vl) : M Vl := bind m fun v => bind n fun w => match v, w with
    | .fr (.str s), .fr (.str t) => ret (.fr (.str (if s = k1 then v1 else if s = k2 then v2 else t)))
    | _, _ => fun _ => none
theorem str_inj {z z' : PySem.Str} (h : z.cps.toList = z'.cps.toList) : z = z' := by
  cases z; cases z'
  simp at h
  rw [h]
theorem pE_dget {z1 w1 z2 w2 : PySem.Str} {n1 n2 n3 n4 : Nat} (hu : X.A.units + 65 < cLine) (hne : z1 ≠ z2) (ha : PE X e (rE X.K m)) (hb : PE X e2 (rE X.K n)) (hs : noStar e = true) (hs2 : noStar e2 = true) (hline : (apos.endLine == cpos.line) = true) :
    PE X (.Call (.Attribute (.Dict [some (.Constant (.str z1) n1 p1), some (.Constant (.str z2) n2 p2)] [.Constant (.str w1) n3 p3, .Constant (.str w2) n4 p4] dpos) "get" apos) [e, e2] [] cpos) (rE X.K (dgetM z1.cps.toList w1.cps.toList z2.cps.toList w2.cps.toList m n)) :=
  (pe_dget2 (by omega) (pe_disp (pps_cons pe_str pe_str (pps_cons pe_str pe_str pps_nil)) rfl rfl (by intro h; cases h) (by show 2 ≤ 15; decide)) ha hb ⟨base_of rfl, all2 hs hs2, hline, by rw [star_of hs, star_of hs2]; rfl⟩).irw fun σ H Q ⟨l, Z, r, l', A, e, q⟩ => by
  obtain ⟨v, l1, e1, c1⟩ := bind_some.mp e
  obtain ⟨w, l2, e2, c2⟩ := bind_some.mp c1
  split at c2
  case h_2 => cases c2
  rename_i s t
  obtain ⟨rfl, rfl⟩ := ret_some.mp c2
  intro p hp
  let kvs : List (Key × V) := [(.inr z1, .str w1), (.inr z2, .str w2)]
  refine ⟨upd_same, kvs, rfl, by show 2 ≤ 15; decide, ?_⟩
  generalize hH1 : upd (upd H p (.dK [])) p (.dK (mergeK [] kvs)) = H1
  have h1p : H1 p = some (.dK (mergeK [] kvs)) := by rw [← hH1]; exact upd_same
  have ex : Ex0 Z Z H H1 := by
    rw [← hH1]
    exact ⟨fun b o h _ => by rw [upd_ne (ne_of_none h hp), upd_ne (ne_of_none h hp)]; exact h, fun _ h => h, fun _ h => .inl h, fun _ w => w.elim, fun b q => upd_some (.inr (upd_some (.inr (A.zd b q))))⟩
  have P0 := PostE.new A ex
  refine ⟨p, rfl, .inl ⟨_, .inl h1p⟩, l, Z, _, l1, P0.po.al, e1, fun x H2 Z2 P1 R1 => ⟨l1, Z2, _, _, P1.po.al, e2, fun y H3 Z3 P2 R2 => ?_⟩⟩
  obtain ⟨zs, rfl, ks⟩ : ∃ zs : PySem.Str, x = .str zs ∧ zs.cps.toList = s := by
    cases R1 with
    | str z => exact ⟨z, rfl, rfl⟩
  obtain ⟨zt, rfl, kt⟩ : ∃ zs : PySem.Str, y = .str zs ∧ zs.cps.toList = t := by
    cases R2 with
    | str z => exact ⟨z, rfl, rfl⟩
  have nW : ¬ W l σ p := fun w => (W_sub A p w).1.ne hp
  have h2p : H2 p = some (.dK (mergeK [] kvs)) := P1.po.ex.fr p _ h1p nW
  have h3p : H3 p = some (.dK (mergeK [] kvs)) := P2.po.ex.fr p _ h2p fun w => nW (P1.es p w)
  refine ⟨_, DGet.k (k := .inr zs) h3p, ?_⟩
  have hm : mergeK [] kvs = [(.inr z1, .str w1), (.inr z2, .str w2)] := by
    have : ¬ (Sum.inr z1 : Key) = Sum.inr z2 := fun e => hne (by cases e; rfl)
    simp [mergeK, kvs, putK, this]
  have P := (P0.trans P1).trans P2
  by_cases c1 : zs = z1
  · subst c1
    rw [if_pos ks.symm] at q
    have : valV (mergeK [] kvs) (Sum.inr zs) = some (.str w1) := by rw [hm]; exact valV_pos rfl
    rw [this]
    exact q _ H3 Z3 P (.str w1)
  · rw [if_neg (fun h => c1 (str_inj (ks.trans h)))] at q
    by_cases c2 : zs = z2
    · subst c2
      rw [if_pos ks.symm] at q
      have : valV (mergeK [] kvs) (Sum.inr zs) = some (.str w2) := by
        rw [hm, valV_neg (fun e => hne (by cases e; rfl))]; exact valV_pos rfl
      rw [this]
      exact q _ H3 Z3 P (.str w2)
    · rw [if_neg (fun h => c2 (str_inj (ks.trans h)))] at q
      have : valV (mergeK [] kvs) (Sum.inr zs) = none := by
        rw [hm, valV_neg (fun e => c1 (by cases e; rfl)), valV_neg (fun e => c2 (by cases e; rfl))]; rfl
      rw [this]
      refine q _ H3 Z3 P ?_
      rw [← kt]
      exact .str zt
end
end Ir

set_option Elab.async false
set_option linter.all false
set_option maxRecDepth 20000
namespace Ir
open PySem L2

/-! ### the look at a text: does the small program stand for it -/
/-- names -/
structure Sx where
  N : List Str
  fns : List Str
  glos : List Str
/-- a view: the scope; in a block, the block's own scope as written -/
structure Vw where
  sc : Scope
  fb : Option Scope
def isK (k : NameKind) (o : Option NameKind) : Bool := match o, k with
  | some .local, .local => true
  | some .cell, .cell => true
  | some .globalImplicit, .globalImplicit => true
  | _, _ => false
theorem isK_local {o : Option NameKind} (h : isK .local o = true) : o = some .local := by
  unfold isK at h
  split at h <;> first | rfl | (rename_i h1; cases h1; done) | cases h
theorem isK_cell {o : Option NameKind} (h : isK .cell o = true) : o = some .cell := by
  unfold isK at h
  split at h <;> first | rfl | (rename_i h1; cases h1; done) | cases h
theorem isK_glob {o : Option NameKind} (h : isK .globalImplicit o = true) : o = some .globalImplicit := by
  unfold isK at h
  split at h <;> first | rfl | (rename_i h1; cases h1; done) | cases h
def sEq (a b : Str) : Bool := a.cps.toList == b.cps.toList
theorem sEq_iff {a b : Str} : sEq a b = true ↔ a = b := by
  unfold sEq
  cases a with
  | mk a => cases b with
    | mk b => simp
def sAt (xs : List Str) (k : Nat) (x : Str) : Bool := match xs[k]? with
  | some y => sEq y x
  | none => false
theorem sAt_of {xs : List Str} {k : Nat} {x : Str} (h : sAt xs k x = true) : xs[k]? = some x := by
  unfold sAt at h
  split at h
  · rename_i y e
    rw [e, sEq_iff.mp h]
  · cases h
def dbg (x : Str) : Bool := !(x == ("__debug__" : Str)) && !(x == ("__classdict__" : Str))
def gloB (w : Vw) (x : Str) : Bool := isK .globalImplicit (w.sc.names.lookup x) && dbg x
def locB (sc : Scope) (x : Str) : Bool := isK .local (sc.names.lookup x) || isK .cell (sc.names.lookup x)
def varB (S : Sx) (w : Vw) (k : Nat) (x : Str) : Bool := sAt S.N k x && locB w.sc x && dbg x
/-- a name that may be stored -/
def stoB (S : Sx) (w : Vw) (k : Nat) (x : Str) : Bool := sAt S.N k x && locB w.sc x && (match w.fb with
  | none => true
  | some raw => isK .cell (raw.names.lookup x) || isK .local (w.sc.names.lookup x))
def bltB (w : Vw) (x : Str) : Bool := isK .globalImplicit (w.sc.names.lookup x)
def oneB (k : Const) : Bool := match k with
  | .int 1 => true
  | _ => false
def conB : T → Expr → Bool
  | .non, .Constant .none _ _ => true
  | .bl b, .Constant (.bool c) _ _ => b == c
  | .int i, .Constant (.int j) _ _ => decide (i = j)
  | .str s, .Constant (.str z) _ _ => z.cps.toList == s
  | _, _ => false
/-- the operands of a primitive, as the text shows them -/
def binE (p : Pr) : Expr → Option (List Expr)
  | .BinOp a op b _ => match binOf p with
    | some o => if o = op then some [a, b] else none
    | none => none
  | _ => none
def cmpE (p : Pr) : Expr → Option (List Expr)
  | .Compare a [op] [b] _ => match cmpOf p with
    | some o => if o = op ∧ noSet b = true then some [a, b] else none
    | none => none
  | _ => none
def tgB (S : Sx) (w : Vw) : Tg → Expr → Bool
  | .nm k, .Name x _ => stoB S w k x
  | .tp ks, .Tuple es _ _ => go ks es
  | _, _ => false
where go : List Nat → List Expr → Bool
  | [], [] => true
  | k :: ks, .Name x _ :: es => stoB S w k x && go ks es
  | _, _ => false
/-- the names of a block, with their slots -/
def ownB (S : Sx) (ks : List Nat) : Option (List (Str × Nat)) := match ks with
  | [] => some []
  | k :: r => match S.N[k]?, ownB S r with
    | some x, some o => some ((x, k) :: o)
    | _, _ => none
theorem ownB_snd {S : Sx} : ∀ {ks : List Nat} {o : List (Str × Nat)}, ownB S ks = some o → o.map (·.2) = ks
  | [], o, h => by cases h; rfl
  | k :: r, o, h => by
    unfold ownB at h
    split at h
    · rename_i x o' h1 h2
      cases h
      rw [List.map_cons, ownB_snd h2]
    · cases h
def lenE : Es → Nat
  | .nil => 0
  | .cons _ r => lenE r + 1
/-- the view of a block -/
def Vw.blk (w : Vw) (scope : Scope) : Vw := ⟨relS scope w.sc, some scope⟩
def sub (a b : List Nat) : Bool := a.all fun x => b.contains x
/-- may the text be asked as a test -/
def testB : E → Expr → Bool
  | .and a b, .BoolOp .And (e :: r) p => testB a e && (match r with
    | [] => false
    | [e2] => testB b e2
    | _ :: _ => testB b (.BoolOp .And r p))
  | .or a b, .BoolOp .Or (e :: r) p => testB a e && (match r with
    | [] => false
    | [e2] => testB b e2
    | _ :: _ => testB b (.BoolOp .Or r p))
  | .not a, .UnaryOp .Not e _ => testB a e
  | .pr _ _, .Compare _ _ _ _ => true
  | .chn _ _ _ _ _, .Compare _ _ _ _ => true
  | .din _ _ _ _, .Compare _ _ _ _ => true
  | _, e => plainT e
/-- a primitive: f looks at the operands -/
def prB (w : Vw) (p : Pr) (f : List Expr → Bool) (e : Expr) : Bool := match binE p e with
  | some es => f es
  | none => match cmpE p e with
    | some es => f es
    | none => match p, e with
      | .neg, .UnaryOp .USub a _ => f [a]
      | .isN, .Compare a [.Is] [.Constant .none _ _] _ => f [a]
      | .notN, .Compare a [.IsNot] [.Constant .none _ _] _ => f [a]
      | .idx, .Subscript a b _ => plainI b && f [a, b]
      | .sl true false, .Subscript a (.Slice (some b) none none _) _ => f [a, b]
      | .sl false true, .Subscript a (.Slice none (some b) none _) _ => f [a, b]
      | .sl false false, .Subscript a (.Slice none none none _) _ => f [a]
      | .rev, .Subscript a (.Slice none none (some (.UnaryOp .USub (.Constant (.int 1) _ _) _)) _) _ => f [a]
      | .ev, .Subscript a (.Slice none none (some (.Constant (.int 2) _ _)) _) _ => f [a]
      | .od, .Subscript a (.Slice (some (.Constant (.int 1) _ _)) none (some (.Constant (.int 2) _ _)) _) _ => f [a]
      | .lrng1, .Call (.Name x _) [.Call (.Name y _) [a] [] _] [] _ => sEq x "list" && sEq y "range" && bltB w x && bltB w y && f [a]
      | .lrng2, .Call (.Name x _) [.Call (.Name y _) [a, b] [] _] [] _ => sEq x "list" && sEq y "range" && bltB w x && bltB w y && f [a, b]
      | .trng1, .Call (.Name x _) [.Call (.Name y _) [a] [] _] [] _ => sEq x "tuple" && sEq y "range" && bltB w x && bltB w y && f [a]
      | .trng2, .Call (.Name x _) [.Call (.Name y _) [a, b] [] _] [] _ => sEq x "tuple" && sEq y "range" && bltB w x && bltB w y && f [a, b]
      | .trng3, .Call (.Name x _) [.Call (.Name y _) [a, b, c] [] _] [] _ => sEq x "tuple" && sEq y "range" && bltB w x && bltB w y && f [a, b, c]
      | .sset, .Call (.Name x _) [.Call (.Name y _) [a] [] _] [] _ => sEq x "sorted" && sEq y "set" && bltB w x && bltB w y && f [a]
      | .lset, .Call (.Name x _) [.Call (.Name y _) [a] [] _] [] _ => sEq x "len" && sEq y "set" && bltB w x && bltB w y && f [a]
      | p, .Call (.Name x _) (a :: es) [] _ => match bltOf p with
        | some (n, _) => sEq x n && bltB w x && f (a :: es)
        | none => match isiOf p, es with
          | some c, [.Name y _] => sEq x "isinstance" && bltB w x && sEq y c && bltB w y && f [a]
          | _, _ => false
      | _, _ => false
/-- a key: one expression, or the items of a written tuple -/
def keyX : Bool → Expr → Option (List Expr)
  | false, e => some [e]
  | true, .Tuple es _ _ => some es
  | true, _ => none
def inOp (neg : Bool) : CmpOp := if neg then .NotIn else .In
mutual
def chkE (S : Sx) (w : Vw) : E → Expr → Bool
  | .con t, e => conB t e
  | .glo g, .Name x _ => sAt S.glos g x && gloB w x
  | .var k, .Name x _ => varB S w k x
  | .pr p as, e => prB w p (chkEs S w as) e
  | .tup as, .Tuple es _ _ => chkEs S w as es && decide (lenE as ≤ 1000)
  | .lst as, .List es _ => chkEs S w as es && decide (lenE as ≤ 1000)
  | .and a b, .BoolOp .And (e :: r) p => chkE S w a e && (match r with
    | [] => false
    | [e2] => chkE S w b e2
    | _ :: _ => chkE S w b (.BoolOp .And r p))
  | .or a b, .BoolOp .Or (e :: r) p => chkE S w a e && (match r with
    | [] => false
    | [e2] => chkE S w b e2
    | _ :: _ => chkE S w b (.BoolOp .Or r p))
  | .not a, .UnaryOp .Not e _ => chkE S w a e
  | .ite c a b, .IfExp ec ea eb _ => chkE S w c ec && testB c ec && chkE S w a ea && chkE S w b eb
  | .chn p q a b c, .Compare ea [o1, o2] [eb, ec] _ => decide (cmpOf p = some o1) && decide (cmpOf q = some o2) && noSet ec && chkE S w a ea && chkE S w b eb && chkE S w c ec
  | .call f _ as, .Call (.Name x _) es [] _ => sAt S.fns f x && gloB w x && chkEs S w as es
  | .pop k, .Call (.Attribute (.Name x _) m ap) [] [] cp => sEq m "pop" && varB S w k x && (ap.endLine == cp.line)
  | .popAt k i, .Call (.Attribute (.Name x _) m ap) [e] [] cp => sEq m "pop" && varB S w k x && (ap.endLine == cp.line) && noStar e && chkE S w i e
  | .sl x a b, .Subscript e (.Slice (some ea) (some eb) none _) _ => chkE S w x e && chkE S w a ea && chkE S w b eb
  | .join s a, .Call (.Attribute (.Constant (.str z) _ _) m ap) [ea] [] cp => sEq m "join" && (ap.endLine == cp.line) && (z.cps.toList == s) && noStar ea && chkE S w a ea
  | .count x s, .Call (.Attribute e m ap) [.Constant (.str z) _ _] [] cp => sEq m "count" && noCall e && (ap.endLine == cp.line) && (z.cps.toList == s) && chkE S w x e
  | .index x a, .Call (.Attribute e m ap) [ea] [] cp => sEq m "index" && noCall e && noStar ea && (ap.endLine == cp.line) && chkE S w x e && chkE S w a ea
  | .cmp elt tg it cs ks, .ListComp el [⟨te, ie, ifs, 0⟩] scope _ => chkI S w it ie && noSet ie && tgB S (w.blk scope) tg te && sub tg.slots ks &&
      (match ownB S ks with
        | some own => blkC S.N w.sc scope own
        | none => false) && chkC S (w.blk scope) cs ifs && chkE S (w.blk scope) elt el
  | .cmp2 elt tg it cs tg1 it1 cs1 ks ks1, .ListComp el [⟨te, ie, ifs, 0⟩, ⟨te1, ie1, ifs1, 0⟩] scope _ => chkI S w it ie && noSet ie && tgB S (w.blk scope) tg te && sub tg.slots ks && sub tg1.slots ks1 && sub ks1 ks &&
      (match ownB S ks with
        | some own => blkC S.N w.sc scope own
        | none => false) && chkC S (w.blk scope) cs ifs && chkI S (w.blk scope) it1 ie1 && noSet ie1 && tgB S (w.blk scope) tg1 te1 && chkC S (w.blk scope) cs1 ifs1 && chkE S (w.blk scope) elt el
  | .dget k1 v1 k2 v2 a b, .Call (.Attribute (.Dict [some (.Constant (.str z1) _ _), some (.Constant (.str z2) _ _)] [.Constant (.str w1) _ _, .Constant (.str w2) _ _] _) m ap) [ea, eb] [] cp =>
      sEq m "get" && (z1.cps.toList == k1) && (w1.cps.toList == v1) && (z2.cps.toList == k2) && (w2.cps.toList == v2) && !sEq z1 z2 && noStar ea && noStar eb && (ap.endLine == cp.line) && chkE S w a ea && chkE S w b eb
  | .dnew _, .Dict [] [] _ => true
  | .dgt tk k as d, .Call (.Attribute (.Name x _) m ap) [ek, ed] [] cp => sEq m "get" && varB S w k x && (ap.endLine == cp.line) && noStar ek && noStar ed && decide (lenE as ≤ 1000) && (match keyX tk ek with
    | some es => chkEs S w as es
    | none => false) && chkE S w d ed
  | .dix tk k as, .Subscript (.Name x _) ek _ => varB S w k x && plainI ek && decide (lenE as ≤ 1000) && (match keyX tk ek with
    | some es => chkEs S w as es
    | none => false)
  | .dixv k a, .Subscript (.Name x _) ek _ => varB S w k x && plainI ek && chkE S w a ek
  | .din tk neg k as, .Compare ek [op] [.Name x _] _ => decide (op = inOp neg) && varB S w k x && decide (lenE as ≤ 1000) && (match keyX tk ek with
    | some es => chkEs S w as es
    | none => false)
  | .repl x i ps, e => match repO ps e with
    | some (.Subscript ex (.Constant (.int j) _ _) _) => decide (i = j) && chkE S w x ex
    | _ => false
  | _, _ => false
def chkEs (S : Sx) (w : Vw) : Es → List Expr → Bool
  | .nil, [] => true
  | .cons c cs, e :: es => chkE S w c e && noStar e && chkEs S w cs es
  | _, _ => false
/-- a clause's tests: none or one -/
def chkC (S : Sx) (w : Vw) : Es → List Expr → Bool
  | .nil, [] => true
  | .cons c .nil, [e] => chkE S w c e && testB c e
  | _, _ => false
def chkI (S : Sx) (w : Vw) : It → Expr → Bool
  | .e c, e => chkE S w c e
  | .rng1 a, .Call (.Name x _) [e] [] _ => sEq x "range" && bltB w x && noStar e && chkE S w a e
  | .rng2 a b, .Call (.Name x _) [e, e2] [] _ => sEq x "range" && bltB w x && noStar e && noStar e2 && chkE S w a e && chkE S w b e2
  | .rng3 a b c, .Call (.Name x _) [e, e2, .Constant (.int k) _ _] [] _ => sEq x "range" && bltB w x && noStar e && noStar e2 && decide (c = k) && chkE S w a e && chkE S w b e2
  | .rng3 a b c, .Call (.Name x _) [e, e2, .UnaryOp .USub (.Constant (.int k) _ _) _] [] _ => sEq x "range" && bltB w x && noStar e && noStar e2 && decide (c = -k) && chkE S w a e && chkE S w b e2
  | _, _ => false
end

/-! ### what the surroundings promise -/
structure GX (S : Sx) (C : Cx) (k : Nat) (X : L2.Cx) (w : Vw) : Prop where
  calm : X.calm = true
  nod : X.N.Nodup
  N : X.N = S.N
  sc : X.env.scope = w.sc
  fn : ∀ x, (match w.fb with
    | none => true
    | some raw => isK .cell (raw.names.lookup x)) = true → X.fn x = true
  room : Room k X.A
  fns : ∀ (f : Nat) (x : Str), S.fns[f]? = some x → ∃ (d : Fd) (a : Addr) (fd : FuncData) (ps : List Str), C.tab[f]? = some d ∧ X.mg x = some (.ref a) ∧ PySem.W.keepIn X.K (.ref a) = true ∧ Binds X.K fd ps [] ∧
    FnOk X.prog X.w X.K X.mg X.base CX0 k a fd ps (spF X.K (C.call f) d.rw)
  glo : ∀ (g : Nat) (x : Str), S.glos[g]? = some x → ∃ (t : T) (v : V) (u : Value), C.glo[g]? = some t ∧ X.mg x = some u ∧ RelV v u ∧ ∀ H Z, RF X.K H Z t v
  bi : ∀ x ∈ bltNames, X.mg x = none
section
variable {S : Sx} {C : Cx} {k : Nat} {X : L2.Cx} {w : Vw} {x : Str} {i : Nat} {e : Expr} {es : List Expr} {p1 : Pos}
theorem GX.hu (G : GX S C k X w) : X.A.units + 65 < cLine := by
  have := G.room.un
  omega
theorem GX.gl (G : GX S C k X w) (h : bltB w x = true) : Gl X x := by
  have h := isK_glob h
  rw [← G.sc] at h
  exact h
theorem dbg_of (h : dbg x = true) : (x == ("__debug__" : Str)) = false ∧ (x == ("__classdict__" : Str)) = false := by
  obtain ⟨h1, h2⟩ := (Bool.and_eq_true _ _).mp h
  exact ⟨by simpa using h1, by simpa using h2⟩
theorem locB_of {sc : Scope} (h : locB sc x = true) : L2.Loc sc x := by
  rcases (Bool.or_eq_true _ _).mp h with h | h
  · exact .inl (isK_local h)
  · exact .inr (isK_cell h)
theorem GX.var (G : GX S C k X w) (h : varB S w i x = true) : PE X (.Name x p1) (tVar i) := by
  unfold varB at h
  simp only [Bool.and_eq_true] at h
  obtain ⟨⟨h1, h2⟩, h3⟩ := h
  obtain ⟨d1, d2⟩ := dbg_of h3
  have h1 := sAt_of h1
  rw [← G.N] at h1
  refine pe_var h1 ?_ d1 d2
  rw [G.sc]
  rcases locB_of h2 with h | h
  · exact .inl h
  · exact .inr (.inl h)
theorem GX.sto (G : GX S C k X w) (h : stoB S w i x = true) : X.N[i]? = some x ∧ L2.Loc X.env.scope x ∧ (X.fn x = true ∨ X.env.scope.names.lookup x = some .local) := by
  unfold stoB at h
  simp only [Bool.and_eq_true] at h
  obtain ⟨⟨h1, h2⟩, h3⟩ := h
  have h1 := sAt_of h1
  rw [← G.N] at h1
  refine ⟨h1, by rw [G.sc]; exact locB_of h2, ?_⟩
  have q := G.fn x
  cases e : w.fb with
  | none => rw [e] at q; exact .inl (q rfl)
  | some raw =>
    rw [e] at q h3
    rcases (Bool.or_eq_true _ _).mp h3 with h | h
    · exact .inl (q h)
    · rw [G.sc]
      exact .inr (isK_local h)
theorem GX.bltn (G : GX S C k X w) (h : x ∈ bltNames) : X.mg x = none := G.bi x h
/-- inside a block -/
theorem GX.blk (G : GX S C k X w) (scope : Scope) (s : Shared) (H : Hp) (D : Addr) (cl : List (Str × Addr)) (fp : List Addr) : GX S C k (X.blk s H scope (compEnvC scope cl D X.env) fp) (w.blk scope) where
  calm := G.calm
  nod := G.nod
  N := G.N
  sc := by
    show relS scope X.env.scope = relS scope w.sc
    rw [G.sc]
  fn := fun x h => by
    have h := isK_cell h
    show (scope.names.lookup x == some .cell) = true
    rw [h]
    rfl
  room := G.room
  fns := G.fns
  glo := G.glo
  bi := G.bi
end
end Ir

set_option Elab.async false
set_option linter.all false
set_option maxRecDepth 20000
namespace Ir
open PySem L2

section
variable {S : Sx} {C : Cx} {k : Nat} {X : L2.Cx} {w : Vw} {x : Str} {i : Nat} {e e1 e2 : Expr} {es : List Expr} {p1 pos : Pos} {c a b : E} {as : Es} {p : Pr}

/-- operands that stand for a text's -/
inductive OKs (C : Cx) (X : L2.Cx) : Es → List Expr → Prop
  | nil : OKs C X .nil []
  | cons {c : E} {cs : Es} {e : Expr} {es : List Expr} : PE X e (rO X.K (opO c (evE C c))) → noStar e = true → OKs C X cs es → OKs C X (.cons c cs) (e :: es)
theorem OKs.pa (h : OKs C X as es) : PA X es (rOs X.K (evOs C as)) := by
  induction h with
  | nil => exact pOs_nil
  | cons h1 h2 _ ih => exact pOs_cons h1 ih (star_of h2)
theorem OKs.star (h : OKs C X as es) : ∀ e ∈ es, noStar e = true := by
  induction h with
  | nil => intro e h; cases h
  | cons h1 h2 _ ih =>
    intro e h
    rcases List.mem_cons.mp h with rfl | h
    · exact h2
    · exact ih e h
theorem OKs.one (h : OKs C X as [e]) : ∃ a, as = .cons a .nil ∧ PE X e (rO X.K (opO a (evE C a))) ∧ noStar e = true := by
  cases h with
  | cons h1 h2 h3 => cases h3; exact ⟨_, rfl, h1, h2⟩
theorem OKs.two (h : OKs C X as [e, e2]) : ∃ a b, as = .cons a (.cons b .nil) ∧ PE X e (rO X.K (opO a (evE C a))) ∧ PE X e2 (rO X.K (opO b (evE C b))) ∧ noStar e = true ∧ noStar e2 = true := by
  cases h with
  | cons h1 h2 h3 =>
    obtain ⟨b, rfl, h4, h5⟩ := h3.one
    exact ⟨_, _, rfl, h1, h4, h2, h5⟩
theorem OKs.three {e e2 e3 : Expr} (h : OKs C X as [e, e2, e3]) : ∃ a b c, as = .cons a (.cons b (.cons c .nil)) ∧ PE X e (rO X.K (opO a (evE C a))) ∧ PE X e2 (rO X.K (opO b (evE C b))) ∧ PE X e3 (rO X.K (opO c (evE C c))) ∧ noStar e = true ∧ noStar e2 = true ∧ noStar e3 = true := by
  cases h with
  | cons h1 h2 h3 =>
    obtain ⟨b, c, rfl, h4, h5, h6, h7⟩ := h3.two
    exact ⟨_, _, _, rfl, h1, h4, h5, h2, h6, h7⟩
theorem evOs_len : ∀ (as : Es) (l : Loc) (os : List Op) (l' : Loc), evOs C as l = some (os, l') → os.length = lenE as
  | .nil, l, os, l', h => by
    unfold evOs at h
    obtain ⟨rfl, _⟩ := ret_some.mp h
    rfl
  | .cons a as, l, os, l', h => by
    unfold evOs at h
    obtain ⟨o, l1, h1, h2⟩ := bind_some.mp h
    obtain ⟨os', l2, h3, h4⟩ := bind_some.mp h2
    obtain ⟨rfl, _⟩ := ret_some.mp h4
    show os'.length + 1 = lenE as + 1
    rw [evOs_len as _ _ _ h3]
theorem len_small (h : decide (lenE as ≤ 1000) = true) : ∀ l os l', evOs C as l = some (os, l') → os.length ≤ sizeMax := fun l os l' q => by
  rw [evOs_len _ _ _ _ q]
  have := of_decide_eq_true h
  have : sizeMax = 16777216 := rfl
  omega
/-- a value as an operand -/
theorem po_of (G : GX S C k X w) (hc : chkE S w c e = true) (h : PE X e (rE X.K (evE C c))) : PE X e (rO X.K (opO c (evE C c))) := by
  by_cases q : ∃ k, c = .var k
  · obtain ⟨k, rfl⟩ := q
    cases e <;> first | exact pO_var (nm := ("" : Str)) (G.var hc) | exact absurd (show false = true from hc) Bool.false_ne_true
  · exact pO_val (fun k e => q ⟨k, e⟩) h

/-- a key -/
theorem pK_of {tk : Bool} (hk : keyX tk e = some es) (h : OKs C X as es) (hl : decide (lenE as ≤ 1000) = true) : PE X e (rK X.K tk (keyM tk (evOs C as))) := by
  cases tk with
  | false =>
    cases hk
    obtain ⟨a, rfl, ha, _⟩ := h.one
    exact pK_one ha
  | true =>
    cases e <;> first | (cases hk; done) | skip
    cases hk
    exact pK_tup (len_small hl) h.pa
/-! ### primitives -/
theorem binE_inv (h : binE p e = some es) : ∃ a op b pos, e = .BinOp a op b pos ∧ binOf p = some op ∧ es = [a, b] := by
  unfold binE at h
  split at h
  · split at h
    · rename_i o ho
      split at h
      · rename_i e1
        subst e1
        cases h
        exact ⟨_, _, _, _, rfl, ho, rfl⟩
      · cases h
    · cases h
  · cases h
theorem cmpE_inv (h : cmpE p e = some es) : ∃ a op b pos, e = .Compare a [op] [b] pos ∧ cmpOf p = some op ∧ noSet b = true ∧ es = [a, b] := by
  unfold cmpE at h
  split at h
  · split at h
    · rename_i o ho
      split at h
      · rename_i e1
        obtain ⟨rfl, e2⟩ := e1
        cases h
        exact ⟨_, _, _, _, rfl, ho, e2, rfl⟩
      · cases h
    · cases h
  · cases h
/-- what a text's reading promises: its value; as a test -/
def Good (X : L2.Cx) (m : M Vl) (tst : Bool) (e : Expr) : Prop := PE X e (rE X.K m) ∧ (tst = true → PT X e (rT X.K (bind m truth)) ∧ ∀ op es p, e = .BoolOp op es p → PW X e (rT X.K (bind m truth)))
theorem Good.plain {m : M Vl} {tst : Bool} (h : PE X e (rE X.K m)) (ht : tst = true → plainT e = true) : Good X m tst e := ⟨h, fun q => ⟨pT_val h (plain_of (ht q)), fun op es p z => by
  subst z
  exact absurd (show false = true from ht q) Bool.false_ne_true⟩⟩
theorem Good.cmp {m : M Vl} {tst : Bool} {ops : List CmpOp} {a : Expr} {es : List Expr} (h : PE X (.Compare a ops es pos) (rE X.K m)) (h2 : PT X (.Compare a ops es pos) (rT X.K (bind m truth))) : Good X m tst (.Compare a ops es pos) := ⟨h, fun _ => ⟨h2, fun _ _ _ z => by cases z⟩⟩
theorem sEq_sub {m n : Str} (h : sEq m n = true) : m = n := sEq_iff.mp h
theorem pT_isN {kn : Nat} {p1 : Pos} {m : M Op} {n : Bool} (ha : PE X e (rO X.K m)) (hm : behindInMarks (if n then .IsNot else .Is) (.Constant .none kn p1) = false) :
    PT X (.Compare e [if n then .IsNot else .Is] [.Constant .none kn p1] pos) (rT X.K (bind (prM (if n then .notN else .isN) (bind m fun o => bind (ret []) fun os => ret (o :: os))) truth)) := by
  cases n with
  | false =>
    refine (pt_cmpR op_isN ha pe_non hm).irw fun σ H Q h => ?_
    obtain ⟨l, Z, r, l', A, e, q⟩ := rP_one (rE_truth h)
    refine ⟨l, Z, r, l', A, e, fun v H' Z' P R => ⟨rfl, ?_⟩⟩
    obtain ⟨Z2, ts, res, zd, pk, e2, q2⟩ := q v H' Z' P R
    obtain ⟨a, rfl, e3⟩ := pr1_inv (show pr1 (fun a => bool (isNon a)) ts = some res from e2)
    obtain ⟨t, e4, h4⟩ := pk.one
    cases e4
    rw [h4.isN]
    exact fin_bool (Q := fun x H1 => ∃ k, x = V.bl k ∧ Q k H1) zd e3 q2
  | true =>
    refine (pt_cmpR op_notN ha pe_non hm).irw fun σ H Q h => ?_
    obtain ⟨l, Z, r, l', A, e, q⟩ := rP_one (rE_truth h)
    refine ⟨l, Z, r, l', A, e, fun v H' Z' P R => ⟨rfl, ?_⟩⟩
    obtain ⟨Z2, ts, res, zd, pk, e2, q2⟩ := q v H' Z' P R
    obtain ⟨a, rfl, e3⟩ := pr1_inv (show pr1 (fun a => bool (!isNon a)) ts = some res from e2)
    obtain ⟨t, e4, h4⟩ := pk.one
    cases e4
    rw [h4.isN]
    exact fin_bool (Q := fun x H1 => ∃ k, x = V.bl k ∧ Q k H1) zd e3 q2
theorem mem_blt {n : String} (h : (Str.ofString n) ∈ bltNames) : (n : Str) ∈ bltNames := h
theorem prB_ok (G : GX S C k X w) {f : List Expr → Bool} (hf : ∀ es, f es = true → OKs C X as es) (h : prB w p f e = true) : Good X (prM p (evOs C as)) (testB (.pr p as) e) e := by
  unfold prB at h
  split at h
  · rename_i es he
    obtain ⟨a, op, b, pos, rfl, ho, rfl⟩ := binE_inv he
    obtain ⟨ca, cb, rfl, ha, hb, _, _⟩ := (hf _ h).two
    exact Good.plain (pP_bin (bin_ok ho) ha hb) fun _ => rfl
  · split at h
    · rename_i es he
      obtain ⟨a, op, b, pos, rfl, ho, hs, rfl⟩ := cmpE_inv he
      obtain ⟨ca, cb, rfl, ha, hb, _, _⟩ := (hf _ h).two
      exact Good.cmp (pP_cmp (cmp_ok G.hu ho) ha hb (behind_of hs)) (pT_cmp (cmp_ok G.hu ho) ha hb (behind_of hs))
    · split at h
      · obtain ⟨ca, rfl, ha, _⟩ := (hf _ h).one
        exact Good.plain (pP_un o_neg ha) fun _ => rfl
      · obtain ⟨ca, rfl, ha, _⟩ := (hf _ h).one
        exact Good.cmp (pE_isN (n := false) ha rfl) (pT_isN (n := false) ha rfl)
      · obtain ⟨ca, rfl, ha, _⟩ := (hf _ h).one
        exact Good.cmp (pE_isN (n := true) ha rfl) (pT_isN (n := true) ha rfl)
      · obtain ⟨h1, h2⟩ := (Bool.and_eq_true _ _).mp h
        obtain ⟨ca, cb, rfl, ha, hb, _, _⟩ := (hf _ h2).two
        exact Good.plain (pP_ix o_idx ha hb (ix_of h1)) fun _ => rfl
      · obtain ⟨ca, cb, rfl, ha, hb, _, _⟩ := (hf _ h).two
        exact Good.plain (pE_slLo ha hb) fun _ => rfl
      · obtain ⟨ca, cb, rfl, ha, hb, _, _⟩ := (hf _ h).two
        exact Good.plain (pE_slHi ha hb) fun _ => rfl
      · obtain ⟨ca, rfl, ha, _⟩ := (hf _ h).one
        exact Good.plain (pE_slNo ha) fun _ => rfl
      · obtain ⟨ca, rfl, ha, _⟩ := (hf _ h).one
        exact Good.plain (pE_rev ha) fun _ => rfl
      · obtain ⟨ca, rfl, ha, _⟩ := (hf _ h).one
        exact Good.plain (pE_ev ha) fun _ => rfl
      · obtain ⟨ca, rfl, ha, _⟩ := (hf _ h).one
        exact Good.plain (pE_od ha) fun _ => rfl
      · simp only [Bool.and_eq_true] at h
        obtain ⟨⟨⟨⟨h1, h2⟩, h3⟩, h4⟩, h5⟩ := h
        cases sEq_sub h1
        cases sEq_sub h2
        obtain ⟨ca, rfl, ha, hs⟩ := (hf _ h5).one
        exact Good.plain (pE_rng1 G.calm (G.gl h3) (G.bltn (by decide +kernel)) (G.gl h4) (G.bltn (by decide +kernel)) (star_of hs) ha) fun _ => rfl
      · simp only [Bool.and_eq_true] at h
        obtain ⟨⟨⟨⟨h1, h2⟩, h3⟩, h4⟩, h5⟩ := h
        cases sEq_sub h1
        cases sEq_sub h2
        obtain ⟨ca, cb, rfl, ha, hb, hs, hs2⟩ := (hf _ h5).two
        exact Good.plain (pE_rng2 G.calm (G.gl h3) (G.bltn (by decide +kernel)) (G.gl h4) (G.bltn (by decide +kernel)) (star_of hs) (star_of hs2) (back1 hs2) ha hb) fun _ => rfl
      · simp only [Bool.and_eq_true] at h
        obtain ⟨⟨⟨⟨h1, h2⟩, h3⟩, h4⟩, h5⟩ := h
        cases sEq_sub h1
        cases sEq_sub h2
        obtain ⟨ca, rfl, ha, hs⟩ := (hf _ h5).one
        exact Good.plain (pE_trng1 G.calm (G.gl h3) (G.bltn (by decide +kernel)) (G.gl h4) (G.bltn (by decide +kernel)) (star_of hs) ha) fun _ => rfl
      · simp only [Bool.and_eq_true] at h
        obtain ⟨⟨⟨⟨h1, h2⟩, h3⟩, h4⟩, h5⟩ := h
        cases sEq_sub h1
        cases sEq_sub h2
        obtain ⟨ca, cb, rfl, ha, hb, hs, hs2⟩ := (hf _ h5).two
        exact Good.plain (pE_trng2 G.calm (G.gl h3) (G.bltn (by decide +kernel)) (G.gl h4) (G.bltn (by decide +kernel)) (star_of hs) (star_of hs2) (back1 hs2) ha hb) fun _ => rfl
      · simp only [Bool.and_eq_true] at h
        obtain ⟨⟨⟨⟨h1, h2⟩, h3⟩, h4⟩, h5⟩ := h
        cases sEq_sub h1
        cases sEq_sub h2
        obtain ⟨ca, cb, cc, rfl, ha, hb, hcc, hs, hs2, hs3⟩ := (hf _ h5).three
        exact Good.plain (pE_trng3 G.calm (G.gl h3) (G.bltn (by decide +kernel)) (G.gl h4) (G.bltn (by decide +kernel)) (star_of hs) (star_of hs2) (star_of hs3) (back_any (by
          intro e he
          simp only [List.mem_cons, List.not_mem_nil, or_false] at he
          rcases he with rfl | rfl
          · exact hs2
          · exact hs3)) ha hb hcc) fun _ => rfl
      · simp only [Bool.and_eq_true] at h
        obtain ⟨⟨⟨⟨h1, h2⟩, h3⟩, h4⟩, h5⟩ := h
        cases sEq_sub h1
        cases sEq_sub h2
        obtain ⟨ca, rfl, ha, hs⟩ := (hf _ h5).one
        exact Good.plain (pE_sset G.calm (G.gl h3) (G.bltn (by decide +kernel)) (G.gl h4) (G.bltn (by decide +kernel)) (star_of hs) ha) fun _ => rfl
      · simp only [Bool.and_eq_true] at h
        obtain ⟨⟨⟨⟨h1, h2⟩, h3⟩, h4⟩, h5⟩ := h
        cases sEq_sub h1
        cases sEq_sub h2
        obtain ⟨ca, rfl, ha, hs⟩ := (hf _ h5).one
        exact Good.plain (pE_lset G.calm (G.gl h3) (G.bltn (by decide +kernel)) (G.gl h4) (G.bltn (by decide +kernel)) (star_of hs) ha) fun _ => rfl
      · split at h
        · rename_i n bb hn
          simp only [Bool.and_eq_true] at h
          obtain ⟨⟨h1, h2⟩, h3⟩ := h
          cases sEq_sub h1
          have O := hf _ h3
          exact Good.plain (pE_blt G.calm G.hu (G.gl h2) (G.bltn (blt_mem hn)) hn O.pa (star_of (O.star _ List.mem_cons_self)) (back_any fun e he => O.star e (List.mem_cons_of_mem _ he))) fun _ => rfl
        · split at h
          · have hc := ‹isiOf p = some _›
            simp only [Bool.and_eq_true] at h
            obtain ⟨⟨⟨⟨h1, h2⟩, h3⟩, h4⟩, h5⟩ := h
            cases sEq_sub h1
            cases sEq_sub h3
            obtain ⟨ca, rfl, ha, hs⟩ := (hf _ h5).one
            exact Good.plain (pE_isi hc (G.gl h2) (G.bltn (by decide +kernel)) (G.gl h4) (G.bltn (isi_mem hc)) ha hs) fun _ => rfl
          · cases h
      · cases h
end
end Ir

set_option Elab.async false
set_option linter.all false
set_option maxRecDepth 20000
set_option maxHeartbeats 2000000
namespace Ir
open PySem L2

section
variable {S : Sx} {C : Cx} {k : Nat} {X : L2.Cx} {w : Vw} {x : Str} {i : Nat} {e e1 e2 : Expr} {es : List Expr} {p1 pos : Pos} {c a b : E} {as : Es} {p : Pr}

theorem tg_go (G : GX S C k X w) : ∀ {ks : List Nat} {es : List Expr}, tgB.go S w ks es = true → PGs X es (gNames ks) ∧ es.length = ks.length ∧ (assignEach es X.env).length = ks.length ∧ (assignEach es X.env).findIdx? (·.1) = none
  | [], [], _ => ⟨pgs_nil, rfl, rfl, rfl⟩
  | [], _ :: _, h => by cases h
  | k :: ks, [], h => by cases h
  | k :: ks, e :: es, h => by
    cases e <;> first | exact absurd (show false = true from h) Bool.false_ne_true | skip
    rename_i x q
    obtain ⟨h1, h2⟩ := (Bool.and_eq_true _ _).mp (show (stoB S w k x && tgB.go S w ks es) = true from h)
    obtain ⟨g1, g2, g3⟩ := G.sto h1
    obtain ⟨i1, i2, i3, i4⟩ := tg_go G h2
    refine ⟨pgs_cons (pg_name G.nod g1 g2 g3) i1, by rw [List.length_cons, List.length_cons, i2], ?_, ?_⟩
    · show (_ :: assignEach es X.env).length = _
      rw [List.length_cons, List.length_cons, i3]
    · show List.findIdx? _ ((false, _) :: assignEach es X.env) = none
      rw [List.findIdx?_cons]
      simp [i4]
theorem tgB_ok (G : GX S C k X w) {tg : Tg} (h : tgB S w tg e = true) : PG X e (gOf X.K tg) := by
  cases tg with
  | nm k =>
    cases e <;> first | exact absurd (show false = true from h) Bool.false_ne_true | skip
    obtain ⟨g1, g2, g3⟩ := G.sto h
    exact pg_name G.nod g1 g2 g3
  | tp ks =>
    cases e <;> first | exact absurd (show false = true from h) Bool.false_ne_true | skip
    obtain ⟨i1, i2, i3, i4⟩ := tg_go G h
    exact pg_tup G.calm i1 i3 i4

theorem tgU_ok (G : GX S C k X w) {ks : List Nat} (h : tgB S w (.tp ks) e = true) : PG X e (fun v σ H Q => gOf X.K (.tp ks) v σ H Q ∨ gUnl X.K ks.length (gNames ks) v σ H Q) := by
  refine pg_or (tgB_ok G h) ?_
  cases e <;> first | exact absurd (show false = true from h) Bool.false_ne_true | skip
  obtain ⟨i1, i2, i3, i4⟩ := tg_go G h
  exact pg_unl G.calm i1 i3 i4

theorem pe_negInt {j n : Nat} {q1 q2 : Pos} : PE X (.UnaryOp .USub (.Constant (.int (n : Int)) j q1) q2) (tC (.int (-(n : Int)))) := (pe_un un_neg pe_int).irw fun σ H Q h => ⟨_, rfl, h⟩
theorem pe_negI {j : Nat} {n : Int} {q1 q2 : Pos} : PE X (.UnaryOp .USub (.Constant (.int n) j q1) q2) (tC (.int (-n))) := (pe_un un_neg pe_int).irw fun σ H Q h => ⟨_, rfl, h⟩
theorem con_ok {t : T} (h : conB t e = true) : PE X e (rE X.K (ret (.fr t))) ∧ plainT e = true := by
  unfold conB at h
  split at h
  · exact ⟨pE_con pe_non fun _ _ => .non, rfl⟩
  · cases (show _ = _ from eq_of_beq h)
    exact ⟨pE_con pe_bl fun _ _ => .bl _, rfl⟩
  · cases of_decide_eq_true h
    exact ⟨pE_con pe_int fun _ _ => .int _, rfl⟩
  · cases (show _ = _ from eq_of_beq h)
    exact ⟨pE_con pe_str fun _ _ => .str _, rfl⟩
  · cases h
theorem pts_irw {ifs : List Expr} {t t' : TT} (h : PTs X ifs t) (g : ∀ σ H Q, t' σ H Q → t σ H Q) : PTs X ifs t' := ⟨fun pins s σ H Q I q => h.run pins s σ H Q I (g σ H Q q)⟩
theorem rT_one {m : M Vl} {K : PySem.W.Frag} {σ : St} {H : Hp} {Q : Bool → Hp → Prop} (h : rT K (bind m fun v => bind (truth v) fun c => if c = true then ret true else ret false) σ H Q) : rT K (bind m truth) σ H Q := by
  have e : (bind m fun v => bind (truth v) fun c => if c = true then ret true else ret false) = bind m truth := by
    funext l
    unfold bind
    cases m l with
    | none => rfl
    | some r =>
      obtain ⟨v, l1⟩ := r
      dsimp only
      cases q : truth v l1 with
      | none => rfl
      | some r2 =>
        obtain ⟨b, l2⟩ := r2
        cases b <;> rfl
  rw [← e]
  exact h
theorem cons_and (h : chkE S w (.and a b) e = true) : ∃ e1 r p, e = .BoolOp .And (e1 :: r) p ∧ chkE S w a e1 = true ∧ ((∃ e2, r = [e2] ∧ chkE S w b e2 = true) ∨ ∃ e2 e3 r', r = e2 :: e3 :: r' ∧ chkE S w b (.BoolOp .And r p) = true) := by
  cases e <;> first | exact absurd (show false = true from h) Bool.false_ne_true | skip
  rename_i op es p
  cases op <;> cases es <;> first | exact absurd (show false = true from h) Bool.false_ne_true | skip
  rename_i e1 r
  obtain ⟨h1, h2⟩ := (Bool.and_eq_true _ _).mp h
  refine ⟨e1, r, p, rfl, h1, ?_⟩
  match r, h2 with
  | [e2], h2 => exact .inl ⟨e2, rfl, h2⟩
  | e2 :: e3 :: r', h2 => exact .inr ⟨e2, e3, r', rfl, h2⟩
theorem cons_or (h : chkE S w (.or a b) e = true) : ∃ e1 r p, e = .BoolOp .Or (e1 :: r) p ∧ chkE S w a e1 = true ∧ ((∃ e2, r = [e2] ∧ chkE S w b e2 = true) ∨ ∃ e2 e3 r', r = e2 :: e3 :: r' ∧ chkE S w b (.BoolOp .Or r p) = true) := by
  cases e <;> first | exact absurd (show false = true from h) Bool.false_ne_true | skip
  rename_i op es p
  cases op <;> cases es <;> first | exact absurd (show false = true from h) Bool.false_ne_true | skip
  rename_i e1 r
  obtain ⟨h1, h2⟩ := (Bool.and_eq_true _ _).mp h
  refine ⟨e1, r, p, rfl, h1, ?_⟩
  match r, h2 with
  | [e2], h2 => exact .inl ⟨e2, rfl, h2⟩
  | e2 :: e3 :: r', h2 => exact .inr ⟨e2, e3, r', rfl, h2⟩
theorem pE_con1 {op : BoolOp} {m : M Vl} {p : Pos} (h : PE X e (rE X.K m)) : PE X (.BoolOp op [e] p) (rE X.K m) := pE_one h
theorem sub_of {xs ys : List Nat} (h : sub xs ys = true) : ∀ i ∈ xs, i ∈ ys := fun i hi => by
  have := List.all_eq_true.mp h i hi
  simpa using this
mutual
theorem chkE_ok : ∀ (c : E) (X : L2.Cx) (w : Vw) (e : Expr), GX S C k X w → chkE S w c e = true → Good X (evE C c) (testB c e) e
  | .con t, X, w, e, G, h => by
    obtain ⟨h1, h2⟩ := con_ok (X := X) (show conB t e = true from h)
    exact Good.plain h1 fun _ => h2
  | .glo g, X, w, e, G, h => by
    cases e <;> first | exact absurd (show false = true from h) Bool.false_ne_true | skip
    rename_i x q
    obtain ⟨h1, h2⟩ := (Bool.and_eq_true _ _).mp (show (sAt S.glos g x && gloB w x) = true from h)
    obtain ⟨h3, h4⟩ := (Bool.and_eq_true _ _).mp h2
    obtain ⟨t, v, u, g1, g2, g3, g4⟩ := G.glo g x (sAt_of h1)
    have e1 : evE C (.glo g) = ret (.fr t) := by
      show lift (C.glo[g]?.map Vl.fr) = _
      rw [g1]
      rfl
    rw [e1]
    exact Good.plain (pE_con (pe_glob (G.gl h3) g2 g3 (dbg_of h4).1) g4) fun _ => rfl
  | .var k, X, w, e, G, h => by
    cases e <;> first | exact absurd (show false = true from h) Bool.false_ne_true | skip
    exact Good.plain (pE_var (G.var h)) fun _ => rfl
  | .pr p as, X, w, e, G, h => prB_ok G (fun es hes => chkEs_ok as X w es G hes) h
  | .tup as, X, w, e, G, h => by
    cases e <;> first | exact absurd (show false = true from h) Bool.false_ne_true | skip
    rename_i es n q
    obtain ⟨h1, h2⟩ := (Bool.and_eq_true _ _).mp (show (chkEs S w as es && decide (lenE as ≤ 1000)) = true from h)
    exact Good.plain (pE_tup (len_small h2) (chkEs_ok as X w es G h1).pa) fun _ => rfl
  | .lst as, X, w, e, G, h => by
    cases e <;> first | exact absurd (show false = true from h) Bool.false_ne_true | skip
    rename_i es q
    obtain ⟨h1, h2⟩ := (Bool.and_eq_true _ _).mp (show (chkEs S w as es && decide (lenE as ≤ 1000)) = true from h)
    exact Good.plain (pE_lst (len_small h2) (chkEs_ok as X w es G h1).pa) fun _ => rfl
  | .and a b, X, w, e, G, h => by
    obtain ⟨e1, r, p, rfl, h1, h2⟩ := cons_and h
    obtain ⟨a1, a2⟩ := chkE_ok a X w e1 G h1
    rcases h2 with ⟨e2, rfl, h2⟩ | ⟨e2, e3, r', rfl, h2⟩
    · obtain ⟨b1, b2⟩ := chkE_ok b X w e2 G h2
      refine ⟨pE_and a1 (pE_con1 b1), fun ht => ?_⟩
      obtain ⟨t1, t2⟩ := (Bool.and_eq_true _ _).mp (show (testB a e1 && testB b e2) = true from ht)
      have pw := pW_and (pos := p) (a2 t1).1 (pW_one (op := .And) (b2 t2).1)
      exact ⟨pw.pt, fun op es p z => by cases z; exact pw⟩
    · obtain ⟨b1, b2⟩ := chkE_ok b X w _ G h2
      refine ⟨pE_and a1 b1, fun ht => ?_⟩
      obtain ⟨t1, t2⟩ := (Bool.and_eq_true _ _).mp (show (testB a e1 && testB b (.BoolOp .And (e2 :: e3 :: r') p)) = true from ht)
      have pw := pW_and (pos := p) (a2 t1).1 ((b2 t2).2 _ _ _ rfl)
      exact ⟨pw.pt, fun op es p z => by cases z; exact pw⟩
  | .or a b, X, w, e, G, h => by
    obtain ⟨e1, r, p, rfl, h1, h2⟩ := cons_or h
    obtain ⟨a1, a2⟩ := chkE_ok a X w e1 G h1
    rcases h2 with ⟨e2, rfl, h2⟩ | ⟨e2, e3, r', rfl, h2⟩
    · obtain ⟨b1, b2⟩ := chkE_ok b X w e2 G h2
      refine ⟨pE_or a1 (pE_con1 b1), fun ht => ?_⟩
      obtain ⟨t1, t2⟩ := (Bool.and_eq_true _ _).mp (show (testB a e1 && testB b e2) = true from ht)
      have pw := pW_or (pos := p) (a2 t1).1 (pW_one (op := .Or) (b2 t2).1)
      exact ⟨pw.pt, fun op es p z => by cases z; exact pw⟩
    · obtain ⟨b1, b2⟩ := chkE_ok b X w _ G h2
      refine ⟨pE_or a1 b1, fun ht => ?_⟩
      obtain ⟨t1, t2⟩ := (Bool.and_eq_true _ _).mp (show (testB a e1 && testB b (.BoolOp .Or (e2 :: e3 :: r') p)) = true from ht)
      have pw := pW_or (pos := p) (a2 t1).1 ((b2 t2).2 _ _ _ rfl)
      exact ⟨pw.pt, fun op es p z => by cases z; exact pw⟩
  | .not a, X, w, e, G, h => by
    cases e <;> first | exact absurd (show false = true from h) Bool.false_ne_true | skip
    rename_i op e q
    cases op <;> first | exact absurd (show false = true from h) Bool.false_ne_true | skip
    obtain ⟨a1, a2⟩ := chkE_ok a X w e G h
    exact ⟨pE_not a1, fun ht => ⟨pT_not (a2 ht).1, fun _ _ _ z => by cases z⟩⟩
  | .ite c a b, X, w, e, G, h => by
    cases e <;> first | exact absurd (show false = true from h) Bool.false_ne_true | skip
    rename_i ec ea eb q
    have h : (chkE S w c ec && testB c ec && chkE S w a ea && chkE S w b eb) = true := h
    simp only [Bool.and_eq_true] at h
    obtain ⟨⟨⟨h1, h2⟩, h3⟩, h4⟩ := h
    obtain ⟨c1, c2⟩ := chkE_ok c X w ec G h1
    exact Good.plain (pE_ite (c2 h2).1 (chkE_ok a X w ea G h3).1 (chkE_ok b X w eb G h4).1) fun z => absurd (show false = true from z) Bool.false_ne_true
  | .chn p q a b c, X, w, e, G, h => by
    cases e <;> first | exact absurd (show false = true from h) Bool.false_ne_true | skip
    rename_i ea ops es qp
    match ops, es, h with
    | [o1, o2], [eb, ec], h =>
      have h : (decide (cmpOf p = some o1) && decide (cmpOf q = some o2) && noSet ec && chkE S w a ea && chkE S w b eb && chkE S w c ec) = true := h
      simp only [Bool.and_eq_true, decide_eq_true_eq] at h
      obtain ⟨⟨⟨⟨⟨h1, h2⟩, h3⟩, h4⟩, h5⟩, h6⟩ := h
      have ca := po_of G h4 (chkE_ok a X w ea G h4).1
      have cb := po_of G h5 (chkE_ok b X w eb G h5).1
      have cc := po_of G h6 (chkE_ok c X w ec G h6).1
      exact Good.cmp ((pe_chain (cmp_ok G.hu h1) (cmp_ok G.hu h2) ca cb cc (last_of h3)).irw fun σ H Q h => rE_chn h)
        ((pt_chain (cmp_ok G.hu h1) (cmp_ok G.hu h2) ca cb cc (last_of h3)).irw fun σ H Q h => rE_chn (rE_truth h))
  | .call f fz as, X, w, e, G, h => by
    cases e <;> first | exact absurd (show false = true from h) Bool.false_ne_true | skip
    rename_i fe es kw q
    cases kw <;> cases fe <;> first | exact absurd (show false = true from h) Bool.false_ne_true | skip
    rename_i x qx
    have h : (sAt S.fns f x && gloB w x && chkEs S w as es) = true := h
    simp only [Bool.and_eq_true] at h
    obtain ⟨⟨h1, h2⟩, h3⟩ := h
    obtain ⟨h4, h5⟩ := (Bool.and_eq_true _ _).mp h2
    obtain ⟨d, a, fd, ps, g1, g2, g3, g4, g5⟩ := G.fns f x (sAt_of h1)
    have O := chkEs_ok as X w es G h3
    have hx : Passes CX0 X (fun _ _ _ => False) := fun _ _ _ _ _ _ _ h => h.elim
    cases es with
    | nil =>
      cases O
      refine Good.plain ((pe_call0 g5 G.room (G.gl h4) g2 g3 g4 .nil hx (dbg_of h5).1).irw fun σ H Q h => ?_) fun _ => rfl
      have := rE_call (E := fun _ _ _ => False) g1 h
      obtain ⟨l, Z, r, l', A, e, q⟩ := this
      obtain ⟨rfl, rfl⟩ := ret_some.mp e
      exact q [] H Z (PostE.refl A) .nil .nil
    | cons e es =>
      refine Good.plain ((pe_call g5 G.room (G.gl h4) g2 g3 g4 .nil hx O.pa (dbg_of h5).1 (star_of (O.star _ List.mem_cons_self)) (back_any fun e he => O.star e (List.mem_cons_of_mem _ he))).irw fun σ H Q h => ?_) fun _ => rfl
      have := rE_call (E := fun _ _ _ => False) g1 h
      unfold tCall
      simpa using this
  | .pop k, X, w, e, G, h => by
    cases e <;> first | exact absurd (show false = true from h) Bool.false_ne_true | skip
    rename_i fe es kw q
    match fe, es, kw, h with
    | .Attribute (.Name x qx) m ap, [], [], h =>
      have h : (sEq m "pop" && varB S w k x && (ap.endLine == q.line)) = true := h
      simp only [Bool.and_eq_true] at h
      obtain ⟨⟨h1, h2⟩, h3⟩ := h
      cases sEq_sub h1
      exact Good.plain (pE_pop (G.var h2) rfl h3) fun _ => rfl
  | .popAt k i, X, w, e, G, h => by
    cases e <;> first | exact absurd (show false = true from h) Bool.false_ne_true | skip
    rename_i fe es kw q
    match fe, es, kw, h with
    | .Attribute (.Name x qx) m ap, [ei], [], h =>
      have h : (sEq m "pop" && varB S w k x && (ap.endLine == q.line) && noStar ei && chkE S w i ei) = true := h
      simp only [Bool.and_eq_true] at h
      obtain ⟨⟨⟨⟨h1, h2⟩, h3⟩, h4⟩, h5⟩ := h
      cases sEq_sub h1
      exact Good.plain (pE_popAt (G.var h2) (chkE_ok i X w ei G h5).1 rfl h3 (star_of h4) (all1 h4)) fun _ => rfl
  | .sl x a b, X, w, e, G, h => by
    cases e <;> first | exact absurd (show false = true from h) Bool.false_ne_true | skip
    rename_i ex es q
    match es, h with
    | .Slice (some ea) (some eb) none q2, h =>
      have h : (chkE S w x ex && chkE S w a ea && chkE S w b eb) = true := h
      simp only [Bool.and_eq_true] at h
      obtain ⟨⟨h1, h2⟩, h3⟩ := h
      exact Good.plain (pE_sl (po_of G h1 (chkE_ok x X w ex G h1).1) (chkE_ok a X w ea G h2).1 (chkE_ok b X w eb G h3).1) fun _ => rfl
  | .count x s, X, w, e, G, h => by
    cases e <;> first | exact absurd (show false = true from h) Bool.false_ne_true | skip
    rename_i fe es kw q
    match fe, es, kw, h with
    | .Attribute ex m ap, [.Constant (.str z) kn q1], [], h =>
      have h : (sEq m "count" && noCall ex && (ap.endLine == q.line) && (z.cps.toList == s) && chkE S w x ex) = true := h
      simp only [Bool.and_eq_true] at h
      obtain ⟨⟨⟨⟨h1, h2⟩, h3⟩, h4⟩, h5⟩ := h
      cases sEq_sub h1
      have h4 : z.cps.toList = s := eq_of_beq h4
      subst h4
      exact Good.plain (pE_count (po_of G h5 (chkE_ok x X w ex G h5).1) h2 h3) fun _ => rfl
  | .index x a, X, w, e, G, h => by
    cases e <;> first | exact absurd (show false = true from h) Bool.false_ne_true | skip
    rename_i fe es kw q
    match fe, es, kw, h with
    | .Attribute ex m ap, [ea], [], h =>
      have h : (sEq m "index" && noCall ex && noStar ea && (ap.endLine == q.line) && chkE S w x ex && chkE S w a ea) = true := h
      simp only [Bool.and_eq_true] at h
      obtain ⟨⟨⟨⟨⟨h1, h2⟩, h3⟩, h4⟩, h5⟩, h6⟩ := h
      cases sEq_sub h1
      exact Good.plain (pE_index G.hu (po_of G h5 (chkE_ok x X w ex G h5).1) (po_of G h6 (chkE_ok a X w ea G h6).1) h2 h3 h4) fun _ => rfl
  | .join s a, X, w, e, G, h => by
    cases e <;> first | exact absurd (show false = true from h) Bool.false_ne_true | skip
    rename_i fe es kw q
    match fe, es, kw, h with
    | .Attribute (.Constant (.str z) n qz) m ap, [ea], [], h =>
      have h : (sEq m "join" && (ap.endLine == q.line) && (z.cps.toList == s) && noStar ea && chkE S w a ea) = true := h
      simp only [Bool.and_eq_true] at h
      obtain ⟨⟨⟨⟨h1, h2⟩, h3⟩, h4⟩, h5⟩ := h
      cases sEq_sub h1
      cases (show z.cps.toList = s from eq_of_beq h3)
      exact Good.plain (pE_join (po_of G h5 (chkE_ok a X w ea G h5).1) h4 h2) fun _ => rfl
  | .cmp elt tg it cs ks, X, w, e, G, h => by
    cases e <;> first | exact absurd (show false = true from h) Bool.false_ne_true | skip
    rename_i el gs scope q
    match gs, h with
    | [⟨te, ie, ifs, 0⟩], h =>
      have h : (chkI S w it ie && noSet ie && tgB S (w.blk scope) tg te && sub tg.slots ks && (match ownB S ks with
        | some own => blkC S.N w.sc scope own
        | none => false) && chkC S (w.blk scope) cs ifs && chkE S (w.blk scope) elt el) = true := h
      simp only [Bool.and_eq_true] at h
      obtain ⟨⟨⟨⟨⟨⟨h1, h2⟩, h3⟩, h4⟩, h5⟩, h6⟩, h7⟩ := h
      split at h5
      · rename_i own ho
        have ok := blkOk_by h5
        rw [← G.N, ← G.sc] at ok
        have es := ownB_snd ho
        have := pe_lc (elt := el) (tg := te) (iter := ie) (ifs := ifs) (scope := scope) (own := own) (pos := q) (g := gOf X.K tg) (tt := rT X.K (evC C cs)) (te := rE X.K (evE C elt)) (wi := rI X.K (evI C it)) G.calm G.nod (chkI_ok it X w ie te G h1) ok
          (fun s H D cl fp => tgB_ok (G.blk scope s H D cl fp) h3) (fun s H D cl fp => chkC_ok cs _ _ ifs (G.blk scope s H D cl fp) h6) (fun s H D cl fp => (chkE_ok elt _ _ el (G.blk scope s H D cl fp) h7).1) (fold_of h2)
        rw [es] at this
        exact Good.plain (this.irw fun σ H Q h => lc_read (sub_of h4) h) fun _ => rfl
      · cases h5
  | .cmp2 elt tg it cs tg1 it1 cs1 ks ks1, X, w, e, G, h => by
    cases e <;> first | exact absurd (show false = true from h) Bool.false_ne_true | skip
    rename_i el gs scope q
    match gs, h with
    | [⟨te, ie, ifs, 0⟩, ⟨te1, ie1, ifs1, 0⟩], h =>
      have h : (chkI S w it ie && noSet ie && tgB S (w.blk scope) tg te && sub tg.slots ks && sub tg1.slots ks1 && sub ks1 ks && (match ownB S ks with
        | some own => blkC S.N w.sc scope own
        | none => false) && chkC S (w.blk scope) cs ifs && chkI S (w.blk scope) it1 ie1 && noSet ie1 && tgB S (w.blk scope) tg1 te1 && chkC S (w.blk scope) cs1 ifs1 && chkE S (w.blk scope) elt el) = true := h
      simp only [Bool.and_eq_true] at h
      obtain ⟨⟨⟨⟨⟨⟨⟨⟨⟨⟨⟨⟨h1, h2⟩, h3⟩, h4⟩, h41⟩, h42⟩, h5⟩, h6⟩, h8⟩, h9⟩, h10⟩, h11⟩, h7⟩ := h
      split at h5
      · rename_i own ho
        have ok := blkOk_by h5
        rw [← G.N, ← G.sc] at ok
        have es := ownB_snd ho
        have := pe_lc2 (elt := el) (tg := te) (iter := ie) (ifs := ifs) (tg1 := te1) (iter1 := ie1) (ifs1 := ifs1) (scope := scope) (own := own) (vs1 := ks1) (pos := q) (g := gOf X.K tg) (tt := rT X.K (evC C cs)) (te := rE X.K (evE C elt)) (wi := rI X.K (evI C it)) (g1 := gOf X.K tg1) (tt1 := rT X.K (evC C cs1)) (wi1 := rI X.K (evI C it1)) G.calm G.nod (chkI_ok it X w ie te G h1) ok
          (by rw [es]; exact sub_of h42) (fun s H D cl fp => tgB_ok (G.blk scope s H D cl fp) h3) (fun s H D cl fp => chkC_ok cs _ _ ifs (G.blk scope s H D cl fp) h6) (fun s H D cl fp => chkI_ok it1 _ _ ie1 te1 (G.blk scope s H D cl fp) h8) (fun s H D cl fp => tgB_ok (G.blk scope s H D cl fp) h10) (fun s H D cl fp => chkC_ok cs1 _ _ ifs1 (G.blk scope s H D cl fp) h11) (fun s H D cl fp => (chkE_ok elt _ _ el (G.blk scope s H D cl fp) h7).1) (fold_of h2) (fun env => fold_of h9)
        rw [es] at this
        exact Good.plain (this.irw fun σ H Q h => lc2_read (sub_of h4) (sub_of h41) (sub_of h42) h) fun _ => rfl
      · cases h5
  | .dget k1 v1 k2 v2 a b, X, w, e, G, h => by
    cases e <;> first | exact absurd (show false = true from h) Bool.false_ne_true | skip
    rename_i fe es kw q
    match fe, es, kw, h with
    | .Attribute (.Dict [some (.Constant (.str z1) n1 q1), some (.Constant (.str z2) n2 q2)] [.Constant (.str w1) n3 q3, .Constant (.str w2) n4 q4] qd) m ap, [ea, eb], [], h =>
      have h : (sEq m "get" && (z1.cps.toList == k1) && (w1.cps.toList == v1) && (z2.cps.toList == k2) && (w2.cps.toList == v2) && !sEq z1 z2 && noStar ea && noStar eb && (ap.endLine == q.line) && chkE S w a ea && chkE S w b eb) = true := h
      simp only [Bool.and_eq_true] at h
      obtain ⟨⟨⟨⟨⟨⟨⟨⟨⟨⟨h1, h2⟩, h3⟩, h4⟩, h5⟩, h6⟩, h7⟩, h8⟩, h9⟩, h10⟩, h11⟩ := h
      cases sEq_sub h1
      cases (show z1.cps.toList = k1 from eq_of_beq h2)
      cases (show w1.cps.toList = v1 from eq_of_beq h3)
      cases (show z2.cps.toList = k2 from eq_of_beq h4)
      cases (show w2.cps.toList = v2 from eq_of_beq h5)
      have hne : z1 ≠ z2 := fun e => by
        rw [sEq_iff.mpr e] at h6
        cases h6
      exact Good.plain (pE_dget G.hu hne (chkE_ok a X w ea G h10).1 (chkE_ok b X w eb G h11).1 h7 h8 h9) fun _ => rfl
  | .dnew tk, X, w, e, G, h => by
    cases e <;> first | exact absurd (show false = true from h) Bool.false_ne_true | skip
    rename_i ks vs q
    match ks, vs, h with
    | [], [], h => exact Good.plain pE_dnew fun _ => rfl
  | .dgt tk k as d, X, w, e, G, h => by
    cases e <;> first | exact absurd (show false = true from h) Bool.false_ne_true | skip
    rename_i fe es kw q
    match fe, es, kw, h with
    | .Attribute (.Name x qx) m ap, [ek, ed], [], h =>
      have h : (sEq m "get" && varB S w k x && (ap.endLine == q.line) && noStar ek && noStar ed && decide (lenE as ≤ 1000) && (match keyX tk ek with
        | some es => chkEs S w as es
        | none => false) && chkE S w d ed) = true := h
      simp only [Bool.and_eq_true] at h
      obtain ⟨⟨⟨⟨⟨⟨⟨h1, h2⟩, h3⟩, h4⟩, h5⟩, h6⟩, h7⟩, h8⟩ := h
      cases sEq_sub h1
      cases hx : keyX tk ek with
      | none => rw [hx] at h7; cases h7
      | some es =>
        rw [hx] at h7
        have hk := pK_of hx (chkEs_ok as X w es G h7) (by simpa using h6)
        have hz := pG (po_of G h8 (chkE_ok d X w ed G h8).1)
        exact Good.plain (pE_dgt (by have := G.hu; omega) (G.var h2) hk hz ⟨rfl, all2 h4 h5, h3, by rw [star_of h4, star_of h5]; rfl⟩) fun _ => rfl
  | .dix tk k as, X, w, e, G, h => by
    cases e <;> first | exact absurd (show false = true from h) Bool.false_ne_true | skip
    rename_i ex ek q
    cases ex <;> first | exact absurd (show false = true from h) Bool.false_ne_true | skip
    rename_i x qx
    have h : (varB S w k x && plainI ek && decide (lenE as ≤ 1000) && (match keyX tk ek with
      | some es => chkEs S w as es
      | none => false)) = true := h
    simp only [Bool.and_eq_true] at h
    obtain ⟨⟨⟨h1, h2⟩, h3⟩, h4⟩ := h
    cases hx : keyX tk ek with
    | none => rw [hx] at h4; cases h4
    | some es =>
      rw [hx] at h4
      have hk := pK_of hx (chkEs_ok as X w es G h4) (by simpa using h3)
      exact Good.plain (pE_dix (by have := G.hu; omega) (G.var h1) hk (ix_of h2)) fun _ => rfl
  | .dixv k a, X, w, e, G, h => by
    cases e <;> first | exact absurd (show false = true from h) Bool.false_ne_true | skip
    rename_i ex ek q
    cases ex <;> first | exact absurd (show false = true from h) Bool.false_ne_true | skip
    rename_i x qx
    have h : (varB S w k x && plainI ek && chkE S w a ek) = true := h
    simp only [Bool.and_eq_true] at h
    obtain ⟨⟨h1, h2⟩, h3⟩ := h
    exact Good.plain (pE_dixv (by have := G.hu; omega) (G.var h1) (po_of G h3 (chkE_ok a X w ek G h3).1) (ix_of h2)) fun _ => rfl
  | .din tk neg k as, X, w, e, G, h => by
    cases e <;> first | exact absurd (show false = true from h) Bool.false_ne_true | skip
    rename_i ek ops es q
    match ops, es, h with
    | [op], [.Name x qx], h =>
      have h : (decide (op = inOp neg) && varB S w k x && decide (lenE as ≤ 1000) && (match keyX tk ek with
        | some es => chkEs S w as es
        | none => false)) = true := h
      simp only [Bool.and_eq_true, decide_eq_true_eq] at h
      obtain ⟨⟨⟨rfl, h2⟩, h3⟩, h4⟩ := h
      cases hx : keyX tk ek with
      | none => rw [hx] at h4; cases h4
      | some es =>
        rw [hx] at h4
        have hk := pK_of hx (chkEs_ok as X w es G h4) (by simpa using h3)
        have hu : X.A.units + 1 < cLine := by have := G.hu; omega
        cases neg with
        | false => exact Good.cmp (pe_cmp (pC_din hu (G.var h2) hk) rfl) ((pt_cmp (pC_din hu (G.var h2) hk) rfl).irw fun σ H Q h => rE_truth h)
        | true => exact Good.cmp (pe_cmp (pC_dnin hu (G.var h2) hk) rfl) ((pt_cmp (pC_dnin hu (G.var h2) hk) rfl).irw fun σ H Q h => rE_truth h)
  | .repl x i ps, X, w, e, G, h => by
    have h : (match repO ps e with
      | some (.Subscript ex (.Constant (.int j) _ _) _) => decide (i = j) && chkE S w x ex
      | _ => false) = true := h
    split at h
    · rename_i ex j n qj q hr
      obtain ⟨h1, h2⟩ := (Bool.and_eq_true _ _).mp h
      cases of_decide_eq_true h1
      exact Good.plain (pE_repl (po_of G h2 (chkE_ok x X w ex G h2).1) hr o_idx) fun ht => ht
    · cases h
theorem chkEs_ok : ∀ (as : Es) (X : L2.Cx) (w : Vw) (es : List Expr), GX S C k X w → chkEs S w as es = true → OKs C X as es
  | .nil, X, w, es, G, h => by
    cases es with
    | nil => exact .nil
    | cons e es => exact absurd (show false = true from h) Bool.false_ne_true
  | .cons c cs, X, w, es, G, h => by
    cases es with
    | nil => exact absurd (show false = true from h) Bool.false_ne_true
    | cons e es =>
      have h : (chkE S w c e && noStar e && chkEs S w cs es) = true := h
      simp only [Bool.and_eq_true] at h
      obtain ⟨⟨h1, h2⟩, h3⟩ := h
      exact .cons (po_of G h1 (chkE_ok c X w e G h1).1) h2 (chkEs_ok cs X w es G h3)
theorem chkC_ok : ∀ (cs : Es) (X : L2.Cx) (w : Vw) (ifs : List Expr), GX S C k X w → chkC S w cs ifs = true → PTs X ifs (rT X.K (evC C cs))
  | .nil, X, w, ifs, G, h => by
    cases ifs with
    | nil => exact pts_irw pts_nil fun σ H Q h => rT_ret h
    | cons e es => exact absurd (show false = true from h) Bool.false_ne_true
  | .cons c .nil, X, w, ifs, G, h => by
    match ifs, h with
    | [e], h =>
      obtain ⟨h1, h2⟩ := (Bool.and_eq_true _ _).mp (show (chkE S w c e && testB c e) = true from h)
      exact pts_irw (pts_one ((chkE_ok c X w e G h1).2 h2).1) fun σ H Q h => rT_one h
  | .cons c (.cons d r), X, w, ifs, G, h => by exact absurd (show false = true from (by cases ifs <;> exact h)) Bool.false_ne_true
theorem chkI_ok : ∀ (it : It) (X : L2.Cx) (w : Vw) (e tg : Expr), GX S C k X w → chkI S w it e = true → PI X tg e (rI X.K (evI C it))
  | .e c, X, w, e, tg, G, h => pI_e (po_of G h (chkE_ok c X w e G h).1)
  | .rng1 a, X, w, e, tg, G, h => by
    match e, h with
    | .Call (.Name x qx) [e1] [] q, h =>
      have h : (sEq x "range" && bltB w x && noStar e1 && chkE S w a e1) = true := h
      simp only [Bool.and_eq_true] at h
      obtain ⟨⟨⟨h1, h2⟩, h3⟩, h4⟩ := h
      cases sEq_sub h1
      exact pI_rng1 (G.gl h2) (G.bltn (by decide +kernel)) (chkE_ok a X w e1 G h4).1 (star_of h3)
  | .rng2 a b, X, w, e, tg, G, h => by
    match e, h with
    | .Call (.Name x qx) [e1, e2] [] q, h =>
      have h : (sEq x "range" && bltB w x && noStar e1 && noStar e2 && chkE S w a e1 && chkE S w b e2) = true := h
      simp only [Bool.and_eq_true] at h
      obtain ⟨⟨⟨⟨⟨h1, h2⟩, h3⟩, h4⟩, h5⟩, h6⟩ := h
      cases sEq_sub h1
      exact pI_rng2 (G.gl h2) (G.bltn (by decide +kernel)) (chkE_ok a X w e1 G h5).1 (chkE_ok b X w e2 G h6).1 (by rw [star_of h3, star_of h4]; rfl) (star_of h4)
  | .rng3 a b c, X, w, e, tg, G, h => by
    match e, h with
    | .Call (.Name x qx) [e1, e2, .Constant (.int k) n qk] [] q, h =>
      have h : (sEq x "range" && bltB w x && noStar e1 && noStar e2 && decide (c = k) && chkE S w a e1 && chkE S w b e2) = true := h
      simp only [Bool.and_eq_true] at h
      obtain ⟨⟨⟨⟨⟨⟨h1, h2⟩, h3⟩, h4⟩, h7⟩, h5⟩, h6⟩ := h
      cases sEq_sub h1
      cases of_decide_eq_true h7
      exact pI_rng3 (G.gl h2) (G.bltn (by decide +kernel)) (chkE_ok a X w e1 G h5).1 (chkE_ok b X w e2 G h6).1 pe_int (star_of h3) (star_of h4) (star_of rfl) (back_any (by
        intro e he
        rcases List.mem_cons.mp he with rfl | he
        · exact h4
        · cases List.mem_singleton.mp he
          rfl))
    | .Call (.Name x qx) [e1, e2, .UnaryOp .USub (.Constant (.int k) n qk) qu] [] q, h =>
      have h : (sEq x "range" && bltB w x && noStar e1 && noStar e2 && decide (c = -k) && chkE S w a e1 && chkE S w b e2) = true := h
      simp only [Bool.and_eq_true] at h
      obtain ⟨⟨⟨⟨⟨⟨h1, h2⟩, h3⟩, h4⟩, h7⟩, h5⟩, h6⟩ := h
      cases sEq_sub h1
      cases of_decide_eq_true h7
      exact pI_rng3 (G.gl h2) (G.bltn (by decide +kernel)) (chkE_ok a X w e1 G h5).1 (chkE_ok b X w e2 G h6).1 pe_negI (star_of h3) (star_of h4) (star_of rfl) (back_any (by
        intro e he
        rcases List.mem_cons.mp he with rfl | he
        · exact h4
        · cases List.mem_singleton.mp he
          rfl))
end
end
end Ir

set_option Elab.async false
set_option linter.all false
set_option maxRecDepth 20000
set_option maxHeartbeats 2000000
namespace Ir
open PySem L2

/-! ### statements -/
def noTup : Expr → Bool
  | .Tuple _ _ _ => false
  | _ => true
/-- a tuple of written constants -/
def fldT : Expr → Bool
  | .Tuple vs _ _ => vs.all (foldedForSure 8)
  | _ => false
/-- a list made by one clause for a local name: where it is kept -/
def lcT (w : Vw) (x : Str) (py : Pos) : Expr → Bool
  | .ListComp _ _ scope q => isK .local (w.sc.names.lookup x) && (py.line == q.line) && !(scope.names.any fun (n, k) => n == x && (k == .local || k == .cell))
  | _ => false
def lcF (w : Vw) (x : Str) : Expr → Bool
  | .ListComp _ _ _ _ => isK .cell (w.sc.names.lookup x)
  | _ => false
def isCmp : E → Bool
  | .cmp _ _ _ _ _ => true
  | .cmp2 _ _ _ _ _ _ _ _ _ => true
  | _ => false
def parB (w : Vw) (x y : Str) (px py : Pos) (ea eb : Expr) : Bool :=
  isK .local (w.sc.names.lookup x) && isK .local (w.sc.names.lookup y) && (py.line == px.line) && !sEq x y && noStar ea && noStar eb && !([ea, eb].all (foldedForSure 8)) && !([ea, eb].all (constantsAlone 8))
def par3B (w : Vw) (x y z : Str) (px py pz : Pos) (ea eb ec : Expr) : Bool :=
  isK .local (w.sc.names.lookup x) && isK .local (w.sc.names.lookup y) && isK .local (w.sc.names.lookup z) && (py.line == px.line) && (pz.line == px.line) && !sEq x y && !sEq x z && !sEq y z && noStar ea && noStar eb && noStar ec && !([ea, eb, ec].all (foldedForSure 8)) && !([ea, eb, ec].all (constantsAlone 8))
/-- a dict that is walked -/
def chkDw (S : Sx) (w : Vw) (vals : Bool) (k : Nat) : Expr → Bool
  | .Name x _ => !vals && varB S w k x
  | .Call (.Attribute (.Name x _) m ap) [] [] cp => vals && sEq m "values" && varB S w k x && (ap.endLine == cp.line)
  | _ => false
mutual
def chkS (S : Sx) (w : Vw) : Ir.S → Stmt → Bool
  | .asg k e, .Assign [.Name x py] v _ => chkE S w e v && stoB S w k x && (noLc v || lcF w x v || (isCmp e && lcT w x py v))
  | .mov k j, .Assign [.Name x _] (.Name y _) _ => stoB S w k x && varB S w j y
  | .unp ks e, .Assign [.Tuple ts n q] v _ => tgB S w (.tp ks) (.Tuple ts n q) && chkE S w e v && noLc v && (noTup v || fldT v)
  | .par i j a b, .Assign [.Tuple [.Name x px, .Name y py] _ _] (.Tuple [ea, eb] _ _) _ => sAt S.N i x && sAt S.N j y && parB w x y px py ea eb && chkE S w a ea && chkE S w b eb
  | .aug k p e, .AugAssign (.Name x _) op v _ => decide (augOf p = some op) && stoB S w k x && chkE S w e v
  | .exp e, .Expr v _ => chkE S w e v && noLc v
  | .app k e, .Expr (.Call (.Attribute (.Name x _) m ap) [v] [] cp) _ => sEq m "append" && varB S w k x && (ap.endLine == cp.line) && noStar v && chkE S w e v
  | .ins k i e, .Expr (.Call (.Attribute (.Name x _) m ap) [vi, v] [] cp) _ => sEq m "insert" && varB S w k x && (ap.endLine == cp.line) && noStar vi && noStar v && chkE S w i vi && chkE S w e v
  | .rev k, .Expr (.Call (.Attribute (.Name x _) m ap) [] [] cp) _ => sEq m "reverse" && varB S w k x && (ap.endLine == cp.line)
  | .seti k i e, .Assign [.Subscript (.Name x _) ei _] v _ => varB S w k x && plainI ei && noLc v && chkE S w i ei && chkE S w e v
  | .augi k i p e, .AugAssign (.Subscript (.Name x _) ei _) op v _ => decide (augOf p = some op) && varB S w k x && plainI ei && chkE S w i ei && chkE S w e v
  | .iff c a b, .If ec as bs _ => chkE S w c ec && testB c ec && chkSs S w a as && chkSs S w b bs
  | .for_ tg it b _, .For te ie body [] _ => tgB S w tg te && chkI S w it ie && noSet ie && chkSs S w b body
  | .par3 i j l as, .Assign [.Tuple [.Name x px, .Name y py, .Name z pz] _ _] (.Tuple [ea, eb, ec] _ _) _ => sAt S.N i x && sAt S.N j y && sAt S.N l z && par3B w x y z px py pz ea eb ec && chkEs S w as [ea, eb, ec]
  | .dput tk k as e, .Assign [.Subscript (.Name x _) ek _] v _ => varB S w k x && noLc v && decide (lenE as ≤ 1000) && (match keyX tk ek with
    | some es => chkEs S w as es
    | none => false) && chkE S w e v
  | .ford vals tg k b _, .For te ie body [] _ => tgB S w tg te && chkDw S w vals k ie && chkSs S w b body
  | .whl c b _, .While ec body [] _ => chkE S w c ec && testB c ec && chkSs S w b body
  | .ret e, .Return (some v) _ => chkE S w e v
  | .retv k, .Return (some (.Name x _)) _ => varB S w k x
  | .retN, .Return none _ => true
  | .brk, .Break _ => true
  | .cnt, .Continue _ => true
  | .pas, .Pass _ => true
  | .stk, .Raise _ _ _ => true
  | _, _ => false
def chkSs (S : Sx) (w : Vw) : Ir.Ss → List Stmt → Bool
  | .nil, [] => true
  | .cons s ss, t :: ts => chkS S w s t && chkSs S w ss ts
  | _, _ => false
end
/-- the surroundings of a def's body -/
structure FX (S : Sx) (C : Cx) (k : Nat) (X : L2.Cx) (w : Vw) : Prop where
  gx : GX S C k X w
  fun_ : w.sc.kind = .function
  own : PassesOwn (model X.prog X.w) X.A X.env X.xe
section
variable {S : Sx} {C : Cx} {k : Nat} {X : L2.Cx} {w : Vw} {x y : Str} {i : Nat} {e e1 e2 : Expr} {es : List Expr} {p1 pos : Pos} {c a b : E} {as : Es} {p : Pr} {F : Addr → Prop}
theorem swF (G : GX S C k X w) (h : lcF w x e = true) {q : Pos} {n : Nat} : swapsWith e (some (.Name x q)) n X.env = pure false := by
  cases e <;> first | exact absurd (show false = true from h) Bool.false_ne_true | skip
  rename_i elt gs scope pos
  have h1 := isK_cell h
  have h2 : X.env.kindOf x = some .cell := by
    show X.env.scope.names.lookup x = _
    rw [G.sc]
    exact h1
  show (pure (X.env.blockKind == .function && X.env.kindOf x == some .local && q.line == pos.line && !(scope.names.any fun (n, k) => n == x && (k == .local || k == .cell))) : Sem Bool) = pure false
  rw [h2]
  have : (some NameKind.cell == some NameKind.local) = false := rfl
  rw [this]
  simp
theorem swT (G : FX S C k X w) {q : Pos} (h : lcT w x q e = true) {n : Nat} : swapsWith e (some (.Name x q)) n X.env = pure true ∧ X.env.scope.names.lookup x = some .local := by
  cases e <;> first | exact absurd (show false = true from h) Bool.false_ne_true | skip
  rename_i elt gs scope pos
  have h : (isK .local (w.sc.names.lookup x) && (q.line == pos.line) && !(scope.names.any fun (n, k) => n == x && (k == .local || k == .cell))) = true := h
  simp only [Bool.and_eq_true] at h
  obtain ⟨⟨h1, h2⟩, h3⟩ := h
  have h1 := isK_local h1
  rw [← G.gx.sc] at h1
  have hk : X.env.scope.kind = .function := by rw [G.gx.sc]; exact G.fun_
  exact ⟨sw_true hk h1 h2 (by simpa using h3), h1⟩
theorem pT_ofE (G : GX S C k X w) (h : chkE S w c e = true) (ht : testB c e = true) : PT X e (rT X.K (bind (evE C c) truth)) := ((chkE_ok c X w e G h).2 ht).1
theorem par_sw (G : FX S C k X w) {px py pt pt2 : Pos} {kt k2 : Nat} {ea eb : Expr} (h : parB w x y px py ea eb = true) :
    swappedStores [.Tuple [.Name x px, .Name y py] kt pt] (.Tuple [ea, eb] k2 pt2) X.env = pure (some [x, y]) ∧ X.env.scope.names.lookup x = some .local ∧ X.env.scope.names.lookup y = some .local ∧ noStar ea = true ∧ noStar eb = true := by
  unfold parB at h
  simp only [Bool.and_eq_true, Bool.not_eq_true'] at h
  obtain ⟨⟨⟨⟨⟨⟨⟨h1, h2⟩, h3⟩, h4⟩, h5⟩, h6⟩, h7⟩, h8⟩ := h
  have h1 := isK_local h1
  have h2 := isK_local h2
  rw [← G.gx.sc] at h1 h2
  refine ⟨?_, h1, h2, h5, h6⟩
  have hk : X.env.scope.kind = .function := by rw [G.gx.sc]; exact G.fun_
  have kx : X.env.kindOf x = some .local := h1
  have ky : X.env.kindOf y = some .local := h2
  have hb : X.env.blockKind = .function := by unfold Env.blockKind; rw [hk]; rfl
  have nx : ¬ x = y := fun z => by
    rw [sEq_iff.mpr z] at h4
    cases h4
  have ed : ([x, y].eraseDups).length = 2 := by
    have : (y == x) = false := beq_eq_false_iff_ne.mpr fun z => nx z.symm
    simp [List.eraseDups_cons, this]
  have st : ∀ z : Expr, noStar z = true → (match z with | .Starred _ _ => true | _ => false) = false := by
    intro z hz
    cases z <;> first | rfl | cases hz
  have h3' := eq_of_beq h3
  have nm : (List.filterMap (fun (z : Expr) => match z with
      | .Name id pos => if (X.env.kindOf id == some NameKind.local && pos.line == px.line) = true then some id else none
      | _ => none) [Expr.Name x px, Expr.Name y py]) = [x, y] := by
    rw [List.filterMap_cons_some (b := x), List.filterMap_cons_some (b := y)]
    · rfl
    · show (if (X.env.kindOf y == some NameKind.local && py.line == px.line) = true then some y else none) = some y
      rw [ky, h3', if_pos (by simp)]
    · show (if (X.env.kindOf x == some NameKind.local && px.line == px.line) = true then some x else none) = some x
      rw [kx, if_pos (by simp)]
  have no : ∀ {b : Bool}, b = false → ¬ b = true := fun h z => by rw [h] at z; cases z
  unfold swappedStores
  refine Eq.trans (if_neg (no ?_)) (Eq.trans (if_neg (no ?_)) ?_)
  · show (false || false || X.env.blockKind != .function) = false
    rw [hb]
    rfl
  · have a1 := st _ h5
    have a2 := st _ h6
    exact (congr (congrArg or a1) (congr (congrArg or a2) (rfl : false = false)) : _ = (false || (false || false)))
  · refine Eq.trans (if_neg (no ?_)) (Eq.trans (if_neg (no h7)) (Eq.trans (if_neg (no h8)) (congrArg (fun z => (pure (some z) : Sem (Option (List Str)))) nm)))
    exact (congrArg (fun z : List Str => z.length != 2 || z.eraseDups.length != z.length) nm).trans (by rw [ed]; rfl)
theorem par3_sw (G : FX S C k X w) {z : Str} {px py pz pt pt2 : Pos} {kt k2 : Nat} {ea eb ec : Expr} (h : par3B w x y z px py pz ea eb ec = true) :
    swappedStores [.Tuple [.Name x px, .Name y py, .Name z pz] kt pt] (.Tuple [ea, eb, ec] k2 pt2) X.env = pure (some [x, y, z]) ∧ X.env.scope.names.lookup x = some .local ∧ X.env.scope.names.lookup y = some .local ∧ X.env.scope.names.lookup z = some .local ∧ x ≠ y ∧ x ≠ z ∧ y ≠ z := by
  unfold par3B at h
  simp only [Bool.and_eq_true, Bool.not_eq_true'] at h
  obtain ⟨⟨⟨⟨⟨⟨⟨⟨⟨⟨⟨⟨h1, h2⟩, h21⟩, h3⟩, h31⟩, h4⟩, h41⟩, h42⟩, h5⟩, h6⟩, h61⟩, h7⟩, h8⟩ := h
  have h1 := isK_local h1
  have h2 := isK_local h2
  have h21 := isK_local h21
  rw [← G.gx.sc] at h1 h2 h21
  have ne : ∀ {a b : Str}, sEq a b = false → ¬ a = b := fun h z => by rw [sEq_iff.mpr z] at h; cases h
  have nxy := ne h4
  have nxz := ne h41
  have nyz := ne h42
  refine ⟨?_, h1, h2, h21, nxy, nxz, nyz⟩
  have hk : X.env.scope.kind = .function := by rw [G.gx.sc]; exact G.fun_
  have kx : X.env.kindOf x = some .local := h1
  have ky : X.env.kindOf y = some .local := h2
  have kz : X.env.kindOf z = some .local := h21
  have hb : X.env.blockKind = .function := by unfold Env.blockKind; rw [hk]; rfl
  have ed : ([x, y, z].eraseDups).length = 3 := by
    have a1 : (y == x) = false := beq_eq_false_iff_ne.mpr fun q => nxy q.symm
    have a2 : (z == x) = false := beq_eq_false_iff_ne.mpr fun q => nxz q.symm
    have a3 : (z == y) = false := beq_eq_false_iff_ne.mpr fun q => nyz q.symm
    simp [List.eraseDups_cons, a1, a2, a3]
  have st : ∀ z : Expr, noStar z = true → (match z with | .Starred _ _ => true | _ => false) = false := by
    intro z hz
    cases z <;> first | rfl | cases hz
  have h3' := eq_of_beq h3
  have h31' := eq_of_beq h31
  have nm : (List.filterMap (fun (z : Expr) => match z with
      | .Name id pos => if (X.env.kindOf id == some NameKind.local && pos.line == px.line) = true then some id else none
      | _ => none) [Expr.Name x px, Expr.Name y py, Expr.Name z pz]) = [x, y, z] := by
    rw [List.filterMap_cons_some (b := x), List.filterMap_cons_some (b := y), List.filterMap_cons_some (b := z)]
    · rfl
    · show (if (X.env.kindOf z == some NameKind.local && pz.line == px.line) = true then some z else none) = some z
      rw [kz, h31', if_pos (by simp)]
    · show (if (X.env.kindOf y == some NameKind.local && py.line == px.line) = true then some y else none) = some y
      rw [ky, h3', if_pos (by simp)]
    · show (if (X.env.kindOf x == some NameKind.local && px.line == px.line) = true then some x else none) = some x
      rw [kx, if_pos (by simp)]
  have no : ∀ {b : Bool}, b = false → ¬ b = true := fun h z => by rw [h] at z; cases z
  unfold swappedStores
  refine Eq.trans (if_neg (no ?_)) (Eq.trans (if_neg (no ?_)) ?_)
  · show (false || false || X.env.blockKind != .function) = false
    rw [hb]
    rfl
  · have a1 := st _ h5
    have a2 := st _ h6
    have a3 := st _ h61
    exact (congr (congrArg or a1) (congr (congrArg or a2) (congr (congrArg or a3) (rfl : false = false))) : _ = (false || (false || (false || false))))
  · refine Eq.trans (if_neg (no ?_)) (Eq.trans (if_neg (no h7)) (Eq.trans (if_neg (no h8)) (congrArg (fun z => (pure (some z) : Sem (Option (List Str)))) nm)))
    exact (congrArg (fun z : List Str => z.length != 3 || z.eraseDups.length != z.length) nm).trans (by rw [ed]; rfl)
end
end Ir

set_option Elab.async false
set_option linter.all false
set_option maxRecDepth 20000
set_option maxHeartbeats 2000000
namespace Ir
open PySem L2

section
variable {S : Sx} {C : Cx} {k : Nat} {X : L2.Cx} {w : Vw} {x y : Str} {i : Nat} {e e1 e2 : Expr} {es : List Expr} {p1 pos : Pos} {c a b : E} {as : Es} {p : Pr} {F : Addr → Prop}

theorem sole_of {t v : Expr} {n : Nat} {env : Env} (h : noLc v = true) : swapsWithSole [t] v n env = pure false := by
  show swapsWith v (some t) n env = pure false
  exact swap_of h
theorem sole_tup {t : Expr} {es : List Expr} {k n : Nat} {q : Pos} {env : Env} : swapsWithSole [t] (.Tuple es k q) n env = pure false := sole_of rfl
theorem stores_of {ts : List Expr} {n : Nat} {q : Pos} {v : Expr} {env : Env} (h : noTup v = true) : swappedStores [.Tuple ts n q] v env = pure none := by
  cases v <;> first | rfl | cases h
theorem stores_fold {ts vs : List Expr} {n m : Nat} {q p : Pos} {env : Env} (h : vs.all (foldedForSure 8) = true) : swappedStores [.Tuple ts n q] (.Tuple vs m p) env = pure none := by
  have key : ∀ (c : Prop) [Decidable c] (x : Sem (Option (List Str))), x = pure none → (if c then pure none else x) = pure none := fun c _ x h => by
    split
    · rfl
    · exact h
  unfold swappedStores
  exact key _ _ (key _ _ (key _ _ (if_pos h)))
theorem stores_ok {ts : List Expr} {n : Nat} {q : Pos} {v : Expr} {env : Env} (h : (noTup v || fldT v) = true) : swappedStores [.Tuple ts n q] v env = pure none := by
  rcases (Bool.or_eq_true _ _).mp h with h | h
  · exact stores_of h
  · cases v <;> first | (cases h; done) | exact stores_fold h
theorem stores_sub {a b v : Expr} {q : Pos} {env : Env} : swappedStores [.Subscript a b q] v env = pure none := rfl
theorem assign_ix {a b : Expr} {q : Pos} {env : Env} (h : plainI b = true) : ∀ v, assign (.Subscript a b q) env v = (do
      let ov ← holding [v] (eval a env)
      let iv ← holding [v, ov] (eval b env)
      standAt q
      holding [v, ov, iv] (setItem ov iv v)
      release [v, ov, iv] []) := by
  intro v
  cases b <;> first | rfl | cases h
theorem aug_ix {b : Expr} (h : plainI b = true) : ∀ ov iv new, augStore b ov iv new = (do holding [new, ov, iv] (setItem ov iv new); release [new, ov, iv] []; pure .next) := by
  intro ov iv new
  cases b <;> first | rfl | cases h
theorem call_lc {f : Expr} {es : List Expr} {q : Pos} {t : Option Expr} {n : Nat} {env : Env} : swapsWith (.Call f es [] q) t n env = pure false := rfl
/-- a list by one clause, kept in a local name -/
theorem lc_asg (G : FX S C k X w) {n : Nat} {py : Pos} (hc : chkE S w c e = true) (hs : stoB S w n x = true) (hi : isCmp c = true) (ht : lcT w x py e = true) :
    PS X (.Assign [.Name x py] e pos) (rS X.K F (bind (evE C c) fun v => bind (stV n v.sl) fun _ => ret .nx)) := by
  cases c <;> first | exact absurd (show false = true from hi) Bool.false_ne_true | skip
  rotate_left
  · rename_i elt tg it cs tg1 it1 cs1 ks ks1
    obtain ⟨sw, lx⟩ := swT G ht (n := pos.line)
    obtain ⟨g1, g2, g3⟩ := G.gx.sto hs
    cases e <;> first | exact absurd (show false = true from hc) Bool.false_ne_true | skip
    rename_i el gs scope q
    match gs, hc with
    | [⟨te, ie, ifs, 0⟩, ⟨te1, ie1, ifs1, 0⟩], h =>
      have h : (chkI S w it ie && noSet ie && tgB S (w.blk scope) tg te && sub tg.slots ks && sub tg1.slots ks1 && sub ks1 ks && (match ownB S ks with
        | some own => blkC S.N w.sc scope own
        | none => false) && chkC S (w.blk scope) cs ifs && chkI S (w.blk scope) it1 ie1 && noSet ie1 && tgB S (w.blk scope) tg1 te1 && chkC S (w.blk scope) cs1 ifs1 && chkE S (w.blk scope) elt el) = true := h
      simp only [Bool.and_eq_true] at h
      obtain ⟨⟨⟨⟨⟨⟨⟨⟨⟨⟨⟨⟨h1, h2⟩, h3⟩, h4⟩, h41⟩, h42⟩, h5⟩, h6⟩, h8⟩, h9⟩, h10⟩, h11⟩, h7⟩ := h
      split at h5
      · rename_i own ho
        have ok := blkOk_by h5
        rw [← G.gx.N, ← G.gx.sc] at ok
        have es := ownB_snd ho
        have := ps_setLc2 (elt := el) (tg := te) (iter := ie) (ifs := ifs) (tg1 := te1) (iter1 := ie1) (ifs1 := ifs1) (scope := scope) (own := own) (vs1 := ks1) (pos := q) (spos := pos) (py := py) (g := gOf X.K tg) (tt := rT X.K (evC C cs)) (te := rE X.K (evE C elt)) (wi := rI X.K (evI C it)) (g1 := gOf X.K tg1) (tt1 := rT X.K (evC C cs1)) (wi1 := rI X.K (evI C it1)) G.gx.calm G.gx.nod g1 lx sw (chkI_ok it X w ie te G.gx h1) ok
          (by rw [es]; exact sub_of h42) (fun s H D cl fp => tgB_ok (G.gx.blk scope s H D cl fp) h3) (fun s H D cl fp => chkC_ok cs _ _ ifs (G.gx.blk scope s H D cl fp) h6) (fun s H D cl fp => chkI_ok it1 _ _ ie1 te1 (G.gx.blk scope s H D cl fp) h8) (fun s H D cl fp => tgB_ok (G.gx.blk scope s H D cl fp) h10) (fun s H D cl fp => chkC_ok cs1 _ _ ifs1 (G.gx.blk scope s H D cl fp) h11) (fun s H D cl fp => (chkE_ok elt _ _ el (G.gx.blk scope s H D cl fp) h7).1) (fold_of h2) (fun env => fold_of h9)
        rw [es] at this
        exact this.irw fun D σ H h => tAsg_of (fun Q h => lc2_read (sub_of h4) (sub_of h41) (sub_of h42) h) h
      · cases h5
  rename_i elt tg it cs ks
  obtain ⟨sw, lx⟩ := swT G ht (n := pos.line)
  obtain ⟨g1, g2, g3⟩ := G.gx.sto hs
  cases e <;> first | exact absurd (show false = true from hc) Bool.false_ne_true | skip
  rename_i el gs scope q
  match gs, hc with
  | [⟨te, ie, ifs, 0⟩], h =>
    have h : (chkI S w it ie && noSet ie && tgB S (w.blk scope) tg te && sub tg.slots ks && (match ownB S ks with
      | some own => blkC S.N w.sc scope own
      | none => false) && chkC S (w.blk scope) cs ifs && chkE S (w.blk scope) elt el) = true := h
    simp only [Bool.and_eq_true] at h
    obtain ⟨⟨⟨⟨⟨⟨h1, h2⟩, h3⟩, h4⟩, h5⟩, h6⟩, h7⟩ := h
    split at h5
    · rename_i own ho
      have ok := blkOk_by h5
      rw [← G.gx.N, ← G.gx.sc] at ok
      have es := ownB_snd ho
      have := ps_setLc (elt := el) (tg := te) (iter := ie) (ifs := ifs) (scope := scope) (own := own) (pos := q) (spos := pos) (py := py) (g := gOf X.K tg) (tt := rT X.K (evC C cs)) (te := rE X.K (evE C elt)) (wi := rI X.K (evI C it)) G.gx.calm G.gx.nod g1 lx sw (chkI_ok it X w ie te G.gx h1) ok
        (fun s H D cl fp => tgB_ok (G.gx.blk scope s H D cl fp) h3) (fun s H D cl fp => chkC_ok cs _ _ ifs (G.gx.blk scope s H D cl fp) h6) (fun s H D cl fp => (chkE_ok elt _ _ el (G.gx.blk scope s H D cl fp) h7).1) (fold_of h2)
      rw [es] at this
      exact this.irw fun D σ H h => tAsg_of (fun Q h => lc_read (sub_of h4) h) h
    · cases h5
mutual
theorem chkS_ok : ∀ (s : Ir.S) (t : Stmt), FX S C k X w → chkS S w s t = true → PS X t (rS X.K F (evS C s))
  | .asg n e, t, G, h => by
    cases t <;> first | exact absurd (show false = true from h) Bool.false_ne_true | skip
    rename_i ts v pos
    match ts, h with
    | [.Name x py], h =>
      have h : (chkE S w e v && stoB S w n x && (noLc v || lcF w x v || (isCmp e && lcT w x py v))) = true := h
      simp only [Bool.and_eq_true] at h
      obtain ⟨⟨h1, h2⟩, h3⟩ := h
      obtain ⟨g1, g2, g3⟩ := G.gx.sto h2
      rcases (Bool.or_eq_true _ _).mp h3 with h3 | h3
      · rcases (Bool.or_eq_true _ _).mp h3 with h3 | h3
        · exact pS_asg G.gx.nod g1 g2 (chkE_ok e X w v G.gx h1).1 (swap_of h3) g3
        · exact pS_asg G.gx.nod g1 g2 (chkE_ok e X w v G.gx h1).1 (swF G.gx h3) g3
      · obtain ⟨h3, h4⟩ := (Bool.and_eq_true _ _).mp h3
        exact lc_asg G h1 h2 h3 h4
  | .mov n j, t, G, h => by
    cases t <;> first | exact absurd (show false = true from h) Bool.false_ne_true | skip
    rename_i ts v pos
    match ts, v, h with
    | [.Name x py], .Name y qy, h =>
      obtain ⟨h1, h2⟩ := (Bool.and_eq_true _ _).mp (show (stoB S w n x && varB S w j y) = true from h)
      obtain ⟨g1, g2, g3⟩ := G.gx.sto h1
      exact pS_mov G.gx.nod g1 g2 (G.gx.var h2) rfl g3
  | .unp ks e, t, G, h => by
    cases t <;> first | exact absurd (show false = true from h) Bool.false_ne_true | skip
    rename_i ts0 v pos
    match ts0, h with
    | [.Tuple ts n q], h =>
      have h : (tgB S w (.tp ks) (.Tuple ts n q) && chkE S w e v && noLc v && (noTup v || fldT v)) = true := h
      obtain ⟨hh, h4⟩ := (Bool.and_eq_true _ _).mp h
      simp only [Bool.and_eq_true] at hh
      obtain ⟨⟨h1, h2⟩, h3⟩ := hh
      exact pS_unp (sole_of h3) (stores_ok h4) rfl (po_of G.gx h2 (chkE_ok e X w v G.gx h2).1) (tgU_ok G.gx h1)
  | .par n j a b, t, G, h => by
    cases t <;> first | exact absurd (show false = true from h) Bool.false_ne_true | skip
    rename_i ts0 v pos
    match ts0, v, h with
    | [.Tuple [.Name x px, .Name y py] kt pt], .Tuple [ea, eb] k2 pt2, h =>
      have h : (sAt S.N n x && sAt S.N j y && parB w x y px py ea eb && chkE S w a ea && chkE S w b eb) = true := h
      simp only [Bool.and_eq_true] at h
      obtain ⟨⟨⟨⟨h1, h2⟩, h3⟩, h4⟩, h5⟩ := h
      obtain ⟨s1, s2, s3, s4, s5⟩ := par_sw G (kt := kt) (pt := pt) (k2 := k2) (pt2 := pt2) h3
      have g1 := sAt_of h1
      have g2 := sAt_of h2
      rw [← G.gx.N] at g1 g2
      have nij : n ≠ j := by
        rintro rfl
        rw [g1] at g2
        cases g2
        unfold parB at h3
        simp only [Bool.and_eq_true, Bool.not_eq_true'] at h3
        have z := h3.1.1.1.1.2
        rw [sEq_iff.mpr rfl] at z
        cases z
      exact pS_par G.gx.calm G.gx.nod g1 g2 nij s2 s3 (po_of G.gx h4 (chkE_ok a X w ea G.gx h4).1) (po_of G.gx h5 (chkE_ok b X w eb G.gx h5).1) (star_of s4) (star_of s5) s1 sole_tup
  | .par3 n j r as, t, G, h => by
    cases t <;> first | exact absurd (show false = true from h) Bool.false_ne_true | skip
    rename_i ts0 v pos
    match ts0, v, h with
    | [.Tuple [.Name x px, .Name y py, .Name z pz] kt pt], .Tuple [ea, eb, ec] k2 pt2, h =>
      have h : (sAt S.N n x && sAt S.N j y && sAt S.N r z && par3B w x y z px py pz ea eb ec && chkEs S w as [ea, eb, ec]) = true := h
      simp only [Bool.and_eq_true] at h
      obtain ⟨⟨⟨⟨h1, h2⟩, h21⟩, h3⟩, h4⟩ := h
      obtain ⟨s1, s2, s3, s31, n1, n2, n3⟩ := par3_sw G (kt := kt) (pt := pt) (k2 := k2) (pt2 := pt2) h3
      have g1 := sAt_of h1
      have g2 := sAt_of h2
      have g3 := sAt_of h21
      rw [← G.gx.N] at g1 g2 g3
      have ne : ∀ {a b : Nat} {p q : Str}, X.N[a]? = some p → X.N[b]? = some q → p ≠ q → a ≠ b := fun ha hb hn e => by
        subst e
        rw [ha] at hb
        cases hb
        exact hn rfl
      exact pS_par3 G.gx.calm G.gx.nod g1 g2 g3 (ne g1 g2 n1) (ne g1 g3 n2) (ne g2 g3 n3) s2 s3 s31 (chkEs_ok as X w _ G.gx h4).pa s1 sole_tup
  | .dput tk n as e, t, G, h => by
    cases t <;> first | exact absurd (show false = true from h) Bool.false_ne_true | skip
    rename_i ts0 v pos
    match ts0, h with
    | [.Subscript (.Name x qx) ek ap], h =>
      have h : (varB S w n x && noLc v && decide (lenE as ≤ 1000) && (match keyX tk ek with
        | some es => chkEs S w as es
        | none => false) && chkE S w e v) = true := h
      simp only [Bool.and_eq_true] at h
      obtain ⟨⟨⟨⟨h1, h2⟩, h3⟩, h4⟩, h5⟩ := h
      cases hx : keyX tk ek with
      | none => rw [hx] at h4; cases h4
      | some es =>
        rw [hx] at h4
        have hk := pK_of hx (chkEs_ok as X w es G.gx h4) (by simpa using h3)
        exact pS_dput (by have := G.gx.hu; omega) (G.gx.var h1) hk (pG (po_of G.gx h5 (chkE_ok e X w v G.gx h5).1)) (swap_of h2)
  | .aug n p e, t, G, h => by
    cases t <;> first | exact absurd (show false = true from h) Bool.false_ne_true | skip
    rename_i tt op v pos
    match tt, h with
    | .Name x q, h =>
      have h : (decide (augOf p = some op) && stoB S w n x && chkE S w e v) = true := h
      simp only [Bool.and_eq_true, decide_eq_true_eq] at h
      obtain ⟨⟨h1, h2⟩, h3⟩ := h
      obtain ⟨g1, g2, g3⟩ := G.gx.sto h2
      exact pS_aug G.gx.nod g1 g2 (po_of G.gx h3 (chkE_ok e X w v G.gx h3).1) (aug_ok h1) g3
  | .exp e, t, G, h => by
    cases t <;> first | exact absurd (show false = true from h) Bool.false_ne_true | skip
    rename_i v pos
    · obtain ⟨h1, h2⟩ := (Bool.and_eq_true _ _).mp (show (chkE S w e v && noLc v) = true from h)
      exact pS_exp (chkE_ok e X w v G.gx h1).1 (swap_of h2)
  | .app n e, t, G, h => by
    cases t <;> first | exact absurd (show false = true from h) Bool.false_ne_true | skip
    rename_i v0 pos
    match v0, h with
    | .Call (.Attribute (.Name x qx) m ap) [v] [] cp, h =>
      have h : (sEq m "append" && varB S w n x && (ap.endLine == cp.line) && noStar v && chkE S w e v) = true := h
      simp only [Bool.and_eq_true] at h
      obtain ⟨⟨⟨⟨h1, h2⟩, h3⟩, h4⟩, h5⟩ := h
      cases sEq_sub h1
      exact pS_app (G.gx.var h2) (po_of G.gx h5 (chkE_ok e X w v G.gx h5).1) rfl h3 (star_of h4) (all1 h4) call_lc
  | .ins n i e, t, G, h => by
    cases t <;> first | exact absurd (show false = true from h) Bool.false_ne_true | skip
    rename_i v0 pos
    match v0, h with
    | .Call (.Attribute (.Name x qx) m ap) [vi, v] [] cp, h =>
      have h : (sEq m "insert" && varB S w n x && (ap.endLine == cp.line) && noStar vi && noStar v && chkE S w i vi && chkE S w e v) = true := h
      simp only [Bool.and_eq_true] at h
      obtain ⟨⟨⟨⟨⟨⟨h1, h2⟩, h3⟩, h4⟩, h5⟩, h6⟩, h7⟩ := h
      cases sEq_sub h1
      exact pS_ins (G.gx.var h2) (chkE_ok i X w vi G.gx h6).1 (po_of G.gx h7 (chkE_ok e X w v G.gx h7).1) rfl h3 (star_of h4) (star_of h5) (all2 h4 h5) (back1 h5) call_lc
  | .rev n, t, G, h => by
    cases t <;> first | exact absurd (show false = true from h) Bool.false_ne_true | skip
    rename_i v0 pos
    match v0, h with
    | .Call (.Attribute (.Name x qx) m ap) [] [] cp, h =>
      have h : (sEq m "reverse" && varB S w n x && (ap.endLine == cp.line)) = true := h
      simp only [Bool.and_eq_true] at h
      obtain ⟨⟨h1, h2⟩, h3⟩ := h
      cases sEq_sub h1
      exact pS_rev (G.gx.var h2) rfl h3 call_lc
  | .seti n i e, t, G, h => by
    cases t <;> first | exact absurd (show false = true from h) Bool.false_ne_true | skip
    rename_i ts0 v pos
    match ts0, h with
    | [.Subscript (.Name x qx) ei ap], h =>
      have h : (varB S w n x && plainI ei && noLc v && chkE S w i ei && chkE S w e v) = true := h
      simp only [Bool.and_eq_true] at h
      obtain ⟨⟨⟨⟨h1, h2⟩, h3⟩, h4⟩, h5⟩ := h
      exact pS_set (G.gx.var h1) (po_of G.gx h4 (chkE_ok i X w ei G.gx h4).1) (po_of G.gx h5 (chkE_ok e X w v G.gx h5).1) (assign_ix h2) (sole_of h3) stores_sub rfl
  | .augi n i p e, t, G, h => by
    cases t <;> first | exact absurd (show false = true from h) Bool.false_ne_true | skip
    rename_i tt op v pos
    match tt, h with
    | .Subscript (.Name x qx) ei ap, h =>
      have h : (decide (augOf p = some op) && varB S w n x && plainI ei && chkE S w i ei && chkE S w e v) = true := h
      simp only [Bool.and_eq_true, decide_eq_true_eq] at h
      obtain ⟨⟨⟨⟨h1, h2⟩, h3⟩, h4⟩, h5⟩ := h
      exact pS_augi (G.gx.var h2) (chkE_ok i X w ei G.gx h4).1 (po_of G.gx h5 (chkE_ok e X w v G.gx h5).1) (aug_ok h1) (aug_ix h3)
  | .iff c a b, t, G, h => by
    cases t <;> first | exact absurd (show false = true from h) Bool.false_ne_true | skip
    rename_i ec as bs pos
    · have h : (chkE S w c ec && testB c ec && chkSs S w a as && chkSs S w b bs) = true := h
      simp only [Bool.and_eq_true] at h
      obtain ⟨⟨⟨h1, h2⟩, h3⟩, h4⟩ := h
      exact pS_if (pT_ofE G.gx h1 h2) (chkSs_ok a as G h3) (chkSs_ok b bs G h4)
  | .for_ tg it b fg, t, G, h => by
    cases t <;> first | exact absurd (show false = true from h) Bool.false_ne_true | skip
    rename_i te ie body os pos
    match os, h with
    | [], h =>
      have h : (tgB S w tg te && chkI S w it ie && noSet ie && chkSs S w b body) = true := h
      simp only [Bool.and_eq_true] at h
      obtain ⟨⟨⟨h1, h2⟩, h3⟩, h4⟩ := h
      exact pS_for G.own G.gx.calm (chkI_ok it X w ie te G.gx h2) (tgB_ok G.gx h1) (chkSs_ok b body G h4) (fold_of h3)
  | .ford vals tg n b fg, t, G, h => by
    cases t <;> first | exact absurd (show false = true from h) Bool.false_ne_true | skip
    rename_i te ie body os pos
    match os, h with
    | [], h =>
      have h : (tgB S w tg te && chkDw S w vals n ie && chkSs S w b body) = true := h
      simp only [Bool.and_eq_true] at h
      obtain ⟨⟨h1, h2⟩, h3⟩ := h
      unfold chkDw at h2
      split at h2
      · rename_i x q
        simp only [Bool.and_eq_true, Bool.not_eq_true'] at h2
        obtain ⟨rfl, h4⟩ := h2
        exact pS_ford G.own G.gx.calm (pI_dky (G.gx.var h4)) (tgB_ok G.gx h1) (chkSs_ok b body G h3) (fold_of rfl)
      · rename_i x q m ap cp
        simp only [Bool.and_eq_true] at h2
        obtain ⟨⟨⟨rfl, h4⟩, h5⟩, h6⟩ := h2
        cases sEq_sub h4
        exact pS_ford G.own G.gx.calm (pI_dvs (G.gx.var h5) rfl h6) (tgB_ok G.gx h1) (chkSs_ok b body G h3) (fold_of rfl)
      · cases h2
  | .whl c b fg, t, G, h => by
    cases t <;> first | exact absurd (show false = true from h) Bool.false_ne_true | skip
    rename_i ec body os pos
    match os, h with
    | [], h =>
      have h : (chkE S w c ec && testB c ec && chkSs S w b body) = true := h
      simp only [Bool.and_eq_true] at h
      obtain ⟨⟨h1, h2⟩, h3⟩ := h
      exact pS_while G.own (pT_ofE G.gx h1 h2) (chkSs_ok b body G h3)
  | .ret e, t, G, h => by
    cases t <;> first | exact absurd (show false = true from h) Bool.false_ne_true | skip
    rename_i v0 pos
    match v0, h with
    | some v, h => exact pS_ret (chkE_ok e X w v G.gx h).1
  | .retv n, t, G, h => by
    cases t <;> first | exact absurd (show false = true from h) Bool.false_ne_true | skip
    rename_i v0 pos
    match v0, h with
    | some (.Name x q), h => exact pS_retv (G.gx.var h)
  | .retN, t, G, h => by
    cases t <;> first | exact absurd (show false = true from h) Bool.false_ne_true | skip
    rename_i v0 pos
    match v0, h with
    | none, h => exact pS_retN
  | .brk, t, G, h => by
    cases t <;> first | exact absurd (show false = true from h) Bool.false_ne_true | skip
    exact pS_break
  | .cnt, t, G, h => by
    cases t <;> first | exact absurd (show false = true from h) Bool.false_ne_true | skip
    exact pS_cont
  | .pas, t, G, h => by
    cases t <;> first | exact absurd (show false = true from h) Bool.false_ne_true | skip
    exact pS_pass
  | .stk, t, G, h => ⟨fun _ _ _ _ _ _ ⟨_, _, _, _, _, _, _, e, _⟩ => nomatch e⟩
theorem chkSs_ok : ∀ (ss : Ir.Ss) (ts : List Stmt), FX S C k X w → chkSs S w ss ts = true → PSs X ts (rS X.K F (evSs C ss))
  | .nil, ts, G, h => by
    match ts, h with
    | [], h => exact pS_nil
  | .cons s ss, ts, G, h => by
    match ts, h with
    | t :: ts, h =>
      obtain ⟨h1, h2⟩ := (Bool.and_eq_true _ _).mp (show (chkS S w s t && chkSs S w ss ts) = true from h)
      exact pS_seq (chkS_ok s t G h1) (chkSs_ok ss ts G h2)
end
end
end Ir

set_option Elab.async false
set_option linter.all false
set_option maxRecDepth 20000
set_option maxHeartbeats 2000000
namespace Ir
open PySem L2

section
variable {K : PySem.W.Frag} {H H' : Hp} {Z Z' : Addr → Prop} {bs : List Bool} {ts fin : List T} {vs : List V} {l l' : Loc} {σ σ' : St} {a b : Addr}

/-! ### a def's start -/
def slots0 (bs : List Bool) (ts : List T) : Loc := List.zipWith (fun (b : Bool) t => if b then Sl.rw t else Sl.fr t) bs ts
theorem at_start (h : AR K H Z bs ts vs) (m : Nat) : ∀ (i : Nat) (s : Sl), (slots0 bs ts ++ List.replicate m .no)[i]? = some s → s = .no ∨ ∃ v, (vs.map some ++ List.replicate m none)[i]? = some (some v) ∧
    ((∃ t, s = .fr t ∧ RF K H Z t v) ∨ ∃ t a, s = .rw t ∧ v = .ref a ∧ OA K H Z t a ∧ ¬ Z a ∧ a ∈ lroots bs vs) := by
  induction h with
  | nil =>
    intro i s hs
    have : s ∈ List.replicate m Sl.no := List.mem_of_getElem? (by simpa [slots0] using hs)
    exact .inl (List.eq_of_mem_replicate this)
  | ro r _ ih =>
    intro i s hs
    cases i with
    | zero =>
      simp [slots0] at hs
      subst hs
      exact .inr ⟨_, rfl, .inl ⟨_, rfl, r⟩⟩
    | succ i =>
      rcases ih i s (by simpa [slots0] using hs) with h | ⟨v, h1, h2⟩
      · exact .inl h
      · exact .inr ⟨v, by simpa using h1, h2⟩
  | rw o n _ ih =>
    intro i s hs
    cases i with
    | zero =>
      simp [slots0] at hs
      subst hs
      exact .inr ⟨_, rfl, .inr ⟨_, _, rfl, rfl, o, n, List.mem_cons_self⟩⟩
    | succ i =>
      rcases ih i s (by simpa [slots0] using hs) with h | ⟨v, h1, h2⟩
      · exact .inl h
      · refine .inr ⟨v, by simpa using h1, ?_⟩
        rcases h2 with h2 | ⟨t, a, g1, g2, g3, g4, g5⟩
        · exact .inl h2
        · exact .inr ⟨t, a, g1, g2, g3, g4, List.mem_cons_of_mem _ g5⟩
theorem dj_start (h : AR K H Z bs ts vs) (nd : (lroots bs vs).Nodup) (m : Nat) : ∀ (i j : Nat) (t t' : T) (a : Addr), (slots0 bs ts ++ List.replicate m .no)[i]? = some (.rw t) → (slots0 bs ts ++ List.replicate m .no)[j]? = some (.rw t') →
    (vs.map some ++ List.replicate m none)[i]? = some (some (.ref a)) → (vs.map some ++ List.replicate m none)[j]? = some (some (.ref a)) → i = j := by
  induction h with
  | nil =>
    intro i j t t' a h1
    have : Sl.rw t ∈ List.replicate m Sl.no := List.mem_of_getElem? (by simpa [slots0] using h1)
    cases List.eq_of_mem_replicate this
  | ro r _ ih =>
    intro i j t t' a h1 h2 h3 h4
    cases i with
    | zero => simp [slots0] at h1
    | succ i =>
      cases j with
      | zero => simp [slots0] at h2
      | succ j => rw [ih (by simpa [lroots] using nd) i j t t' a (by simpa [slots0] using h1) (by simpa [slots0] using h2) (by simpa using h3) (by simpa using h4)]
  | @rw _ c _ _ _ o n r ih =>
    intro i j t t' a h1 h2 h3 h4
    have nd' := List.nodup_cons.mp (show (c :: lroots _ _).Nodup from nd)
    have out : ∀ (i : Nat) (t : T), (slots0 _ _ ++ List.replicate m Sl.no)[i]? = some (.rw t) → (List.map some _ ++ List.replicate m none)[i]? = some (some (V.ref c)) → False := fun i t g1 g2 => by
      rcases at_start r m i _ g1 with h | ⟨v, k1, k2⟩
      · cases h
      · rw [g2] at k1
        cases k1
        rcases k2 with ⟨_, k, _⟩ | ⟨_, _, _, k, _, _, k5⟩
        · cases k
        · cases k
          exact nd'.1 k5
    cases i with
    | zero =>
      simp at h3
      subst h3
      cases j with
      | zero => rfl
      | succ j => exact (out j t' (by simpa [slots0] using h2) (by simpa using h4)).elim
    | succ i =>
      cases j with
      | zero =>
        simp at h4
        subst h4
        exact (out i t (by simpa [slots0] using h1) (by simpa using h3)).elim
      | succ j => rw [ih nd'.2 i j t t' a (by simpa [slots0] using h1) (by simpa [slots0] using h2) (by simpa using h3) (by simpa using h4)]
theorem AR.lens (h : AR K H Z bs ts vs) : ts.length = vs.length ∧ bs.length = vs.length := by
  induction h with
  | nil => exact ⟨rfl, rfl⟩
  | ro _ _ ih => simp [ih.1, ih.2]
  | rw _ _ _ ih => simp [ih.1, ih.2]
theorem al_start (h : AR K H Z bs ts vs) (nd : (lroots bs vs).Nodup) (zd : ∀ b, Z b → H b ≠ none) (m : Nat) : AL K H Z (slots0 bs ts ++ List.replicate m .no) (vs.map some ++ List.replicate m none) := by
  obtain ⟨l1, l2⟩ := h.lens
  refine ⟨zd, by simp [slots0, l1, l2], fun i t e => ?_, fun i s t e o => ?_, fun i j s s' t t' a e1 o1 e2 o2 g1 g2 => ?_⟩
  · rcases at_start h m i _ e with h | ⟨v, k1, ⟨_, k2, k3⟩ | ⟨_, _, k, _⟩⟩
    · cases h
    · cases k2; exact ⟨v, k1, k3⟩
    · cases k
  · rcases at_start h m i _ e with h | ⟨v, k1, ⟨_, k2, k3⟩ | ⟨_, a, k2, k3, k4, k5, _⟩⟩
    · subst h; cases o
    · subst k2; cases o
    · subst k2 k3; cases o; exact ⟨a, k1, k4, k5⟩
  · have isrw : ∀ {i : Nat} {s : Sl} {t : T}, (slots0 bs ts ++ List.replicate m .no)[i]? = some s → s.own = some t → s = .rw t := fun {i s t} e o => by
      rcases at_start h m i _ e with h | ⟨v, k1, ⟨_, k2, k3⟩ | ⟨_, a, k2, k3, k4, k5, _⟩⟩
      · subst h; cases o
      · subst k2; cases o
      · subst k2; cases o; rfl
    cases isrw e1 o1
    cases isrw e2 o2
    exact dj_start h nd m i j t t' a e1 e2 g1 g2
theorem w_start (h : AR K H Z bs ts vs) (m : Nat) {b : Addr} (w : W (slots0 bs ts ++ List.replicate m .no) (vs.map some ++ List.replicate m none) b) : b ∈ lroots bs vs := by
  obtain ⟨i, s, h1, h2, h3⟩ := w
  rcases at_start h m i _ h1 with h | ⟨v, k1, ⟨_, k2, k3⟩ | ⟨_, a, k2, k3, k4, k5, k6⟩⟩
  · subst h; cases h2
  · subst k2; cases h2
  · rw [h3] at k1
    cases k1
    cases k3
    exact k6
theorem ow_start (h : AR K H Z bs ts vs) (m : Nat) {b : Addr} (w : OwR (slots0 bs ts ++ List.replicate m .no) (vs.map some ++ List.replicate m none) b) : False := by
  obtain ⟨i, t, h1, _⟩ := w
  rcases at_start h m i _ h1 with h | ⟨v, k1, ⟨_, k2, k3⟩ | ⟨_, a, k2, _⟩⟩
  · cases h
  · cases k2
  · cases k2
/-- what was lent, at the end -/
theorem fr_end (h : AR K H Z bs ts vs) : ∀ {l' : Loc} {fin : List T}, (∀ (i : Nat) (a : Addr) (t' : T), bs[i]? = some true → vs[i]? = some (.ref a) → l'[i]? = some (.rw t') → OA K H' Z' t' a ∧ ¬ Z' a) → finals bs l' = some fin → FR K H' Z' bs fin vs := by
  induction h with
  | nil => intro l' fin _ e; cases e; exact .nil
  | ro r _ ih =>
    intro l' fin g e
    cases l' with
    | nil => simp [finals] at e
    | cons s l' => exact .ro (ih (fun i a t' h1 h2 h3 => g (i + 1) a t' (by simpa using h1) (by simpa using h2) (by simpa using h3)) (by simpa [finals] using e))
  | rw o n r ih =>
    intro l' fin g e
    cases l' with
    | nil => simp [finals] at e
    | cons s l' =>
      cases s <;> first | (simp [finals] at e; done) | skip
      rename_i t'
      have e : (finals _ l').map (t' :: ·) = some fin := e
      obtain ⟨f, e1, rfl⟩ := Option.map_eq_some_iff.mp e
      obtain ⟨k1, k2⟩ := g 0 _ t' rfl rfl rfl
      exact .rw k1 k2 (ih (fun i a t' h1 h2 h3 => g (i + 1) a t' (by simpa using h1) (by simpa using h2) (by simpa using h3)) e1)
theorem start_rw (h : AR K H Z bs ts vs) (m : Nat) {i : Nat} (e : bs[i]? = some true) : ∃ t, (slots0 bs ts ++ List.replicate m .no)[i]? = some (.rw t) := by
  induction h generalizing i with
  | nil => simp at e
  | ro r _ ih =>
    cases i with
    | zero => simp at e
    | succ i => obtain ⟨t, ht⟩ := ih (by simpa using e); exact ⟨t, by simpa [slots0] using ht⟩
  | rw o n r ih =>
    cases i with
    | zero => exact ⟨_, by simp [slots0]; rfl⟩
    | succ i => obtain ⟨t, ht⟩ := ih (by simpa using e); exact ⟨t, by simpa [slots0] using ht⟩
theorem start_at {i : Nat} {v : V} (m : Nat) (e : vs[i]? = some v) : (vs.map some ++ List.replicate m none)[i]? = some (some v) := by
  have hi := (List.getElem?_eq_some_iff.mp e).1
  rw [List.getElem?_append_left (by simpa using hi), List.getElem?_map, e]
  rfl
/-- a body run from its start keeps the promise -/
theorem run_body {C : Cx} {d : Fd} {D : Ends} {Q : VK} {r : Vl} (hr : runF C d ts = some (r, fin)) (h : AR K H Z d.rw ts vs) (nd : (lroots d.rw vs).Nodup) (zd : ∀ b, Z b → H b ≠ none)
    (q : ∀ v H' Z', Ex (fun b => b ∈ lroots d.rw vs) Z Z' H H' → FR K H' Z' d.rw fin vs → VR K H Z' H' r v → Q v H') :
    rS K (fun b => H b = none) (evSs C d.body) { nx := fun _ H' => Q .non H', rt := Q } (vs.map some ++ List.replicate (d.ns - vs.length) none) H := by
  unfold runF at hr
  split at hr
  · rename_i hl
    obtain ⟨l1, l2⟩ := h.lens
    have es : Ir.start d.rw ts d.ns = slots0 d.rw ts ++ List.replicate (d.ns - vs.length) .no := by
      unfold Ir.start slots0
      rw [l1]
    rw [es] at hr
    have A := al_start h nd zd (d.ns - vs.length)
    have hd : ∀ b, b ∈ lroots d.rw vs → H b ≠ none := fun b hb => (h.mu b hb).1.ne
    have done : ∀ {σ' : St} {H' : Hp} {Z' : Addr → Prop} {l' : Loc} (f : List T), Post K (slots0 d.rw ts ++ List.replicate (d.ns - vs.length) .no) (vs.map some ++ List.replicate (d.ns - vs.length) none) Z H l' σ' Z' H' → finals d.rw l' = some f → Ex (fun b => b ∈ lroots d.rw vs) Z Z' H H' ∧ FR K H' Z' d.rw f vs := fun f P hf => by
      refine ⟨P.ex.mono (fun b w => w_start h _ w) hd, fr_end h (fun i a t' e1 e2 e3 => ?_) hf⟩
      obtain ⟨t, ht⟩ := start_rw h (d.ns - vs.length) e1
      obtain ⟨_, g2⟩ := P.rw i t ht
      rw [start_at _ e2] at g2
      obtain ⟨a', k1, k2, k3⟩ := P.al.ow i _ t' e3 rfl
      rw [g2] at k1
      cases k1
      exact ⟨k2, k3⟩
    split at hr
    · rename_i v l' he
      obtain ⟨f, hf, e⟩ := Option.map_eq_some_iff.mp hr
      cases e
      refine ⟨_, Z, _, _, A, fun b w => (ow_start h _ w).elim, fun b n => n, he, fun σ' H' Z' P x V => ?_⟩
      obtain ⟨g1, g2⟩ := done _ P hf
      refine q x H' Z' g1 g2 ?_
      cases r with
      | fr t => exact V
      | ow t => exact V
    · rename_i l' he
      obtain ⟨f, hf, e⟩ := Option.map_eq_some_iff.mp hr
      cases e
      refine ⟨_, Z, _, _, A, fun b w => (ow_start h _ w).elim, fun b n => n, he, fun σ' H' Z' P => ?_⟩
      obtain ⟨g1, g2⟩ := done _ P hf
      exact q .non H' Z' g1 g2 .non
    · cases hr
  · cases hr

/-! ### a program -/
/-- a look at a def: its names and parameters, its text -/
def chkF (fns glos : List Str) (N ps : List Str) (d : Fd) (st : Stmt) : Bool :=
  decide ((defScope st).kind = .function) && !(defScope st).isCoroutine && !(defScope st).isGenerator && decide N.Nodup && decide (N.take ps.length = ps) && ps.all (locB (defScope st)) &&
    (defScope st).names.all (fun y => !decide (y.2 = .free)) && decide (d.rw.length = ps.length) && decide (N.length = d.ns) && decide (ps.length ≤ N.length) && chkSs ⟨N, fns, glos⟩ ⟨defScope st, none⟩ d.body (defBody st)
/-- a def of the program as it stands in the module -/
structure DefOk (K : PySem.W.Frag) (mg : Str → Option Value) (fns glos : List Str) (x : Str) (d : Fd) : Prop where
  ex : ∃ (st : Stmt) (a : Addr) (fd : FuncData) (N ps : List Str), Fun K x x st a fd ∧ mg x = some (.ref a) ∧ (∀ us : List Value, us.length = ps.length → bindArgs fd ⟨us, []⟩ = pure (ps.zip us)) ∧ chkF fns glos N ps d st = true
structure PgOk (K : PySem.W.Frag) (mg : Str → Option Value) (P : Pg) (fns glos : List Str) : Prop where
  fns : ∀ (f : Nat) (x : Str), fns[f]? = some x → ∃ d, P.tab[f]? = some d ∧ DefOk K mg fns glos x d
  glo : ∀ (g : Nat) (x : Str), glos[g]? = some x → ∃ (t : T) (v : V) (u : Value), P.glo[g]? = some t ∧ mg x = some u ∧ RelV v u ∧ ∀ H Z, RF K H Z t v
  bi : ∀ x ∈ bltNames, mg x = none
section
variable {prog : Program} {w : World} {mg : Str → Option Value} {base : Heap} {P : Pg} {fns glos : List Str}
theorem def_ok (B : PgOk K mg P fns glos) (n : Nat) (ih : ∀ (f : Nat) (x : Str), fns[f]? = some x → ∃ (d : Fd) (a : Addr) (fd : FuncData) (ps : List Str), P.tab[f]? = some d ∧ mg x = some (.ref a) ∧ PySem.W.keepIn K (.ref a) = true ∧ Binds K fd ps [] ∧
    FnOk prog w K mg base CX0 n a fd ps (spF K (callT P n f) d.rw)) {f : Nat} {x : Str} (hf : fns[f]? = some x) {d : Fd} {st : Stmt} {a : Addr} {fd : FuncData} {N ps : List Str} (hd : P.tab[f]? = some d) (F : Fun K x x st a fd) (hc : chkF fns glos N ps d st = true) :
    FnOk prog w K mg base CX0 (n + 1) a fd ps (spF K (callT P (n + 1) f) d.rw) := by
  unfold chkF at hc
  simp only [Bool.and_eq_true, Bool.not_eq_true', decide_eq_true_eq, List.all_eq_true] at hc
  obtain ⟨⟨⟨⟨⟨⟨⟨⟨⟨⟨c1, c2⟩, c3⟩, c4⟩, c5⟩, c6⟩, c7⟩, c8⟩, c9⟩, c10⟩, c11⟩ := hc
  have S : FnScope N ps (defScope st) := ⟨c1, c2, c3, c4, c5, fun y hy => locB_of (c6 y hy), fun y hy => by simpa using c7 y hy⟩
  have hcall : ∀ ts, callT P (n + 1) f ts = runF ⟨P.tab, P.glo, callT P n⟩ d ts := fun ts => by
    show (match P.tab[f]? with | some d => runF ⟨P.tab, P.glo, callT P n⟩ d ts | none => none) = _
    rw [hd]
  refine F.ok S (fun vs H Q E ⟨ts, r, fin, Z, zd, e, ar, _⟩ => by rw [ar.length, c8]) (fun cdv A outer s H vs Q E hr ⟨ts, r, fin, Z, zd, e, ar, nd, q⟩ => ?_)
  rw [hcall] at e
  have G : FX ⟨N, fns, glos⟩ ⟨P.tab, P.glo, callT P n⟩ n (cxOf CX0 prog w K mg base N x (defScope st) a cdv A outer s H E).nox ⟨defScope st, none⟩ :=
    ⟨⟨rfl, c4, rfl, rfl, fun _ _ => rfl, hr, fun f x h => ih f x h, fun g x h => B.glo g x h, B.bi⟩, c1, PassesOwn.never⟩
  refine ⟨_, chkSs_ok (F := fun b => H b = none) d.body (defBody st) G c11, ?_⟩
  have rb := run_body (K := K) (D := { nx := fun _ H' => Q .non H', rt := Q }) (Q := Q) e ar nd zd q
  unfold L2.start
  rw [c9]
  exact rb
theorem all_ok (B : PgOk K mg P fns glos) : ∀ (n f : Nat) (x : Str), fns[f]? = some x → ∃ (d : Fd) (a : Addr) (fd : FuncData) (ps : List Str), P.tab[f]? = some d ∧ mg x = some (.ref a) ∧ PySem.W.keepIn K (.ref a) = true ∧ Binds K fd ps [] ∧
    FnOk prog w K mg base CX0 n a fd ps (spF K (callT P n f) d.rw)
  | 0, f, x, hf => by
    obtain ⟨d, hd, st, a, fd, N, ps, F, m, b, c⟩ := B.fns f x hf
    refine ⟨d, a, fd, ps, hd, m, F.kp, .all b, fun vs H Q E ⟨ts, r, fin, Z, zd, e, _⟩ => ?_, fun A outer s H args us vs Q E _ _ _ _ ⟨ts, r, fin, Z, zd, e, _⟩ => ?_⟩
    · cases e
    · cases e
  | n + 1, f, x, hf => by
    obtain ⟨d, hd, st, a, fd, N, ps, F, m, b, c⟩ := B.fns f x hf
    exact ⟨d, a, fd, ps, hd, m, F.kp, .all b, def_ok B n (all_ok B n) hf hd F c⟩
end
end
end Ir

set_option Elab.async false
set_option linter.all false
set_option maxRecDepth 20000
set_option maxHeartbeats 2000000
namespace Ir
open PySem L2

/-! ### the law's end -/
theorem ints_RF {K : PySem.W.Frag} {H : Hp} {Z : Addr → Prop} (ns : List Int) : RFs K H Z (ns.map T.int) (ns.map V.int) := RFs.ofInts ns
/-- what is asked of a law: its answer to each script -/
def LawT (P : Pg) (k fl : Nat) : Prop := ∀ ns : List Int, ns.length ≤ 63 → (∀ z ∈ ns, Builtin.Int.intBits z ≤ 1048576) → callT P k fl [.lst (ns.map .int)] = some (.fr (.bl true), [])
theorem walk_ir {l : PySem.W.OpenLaw} {k fl : Nat} {q : Program} {loose : List Str} {XP : (Str → Option Value) → Heap → Prop} {YP : World → Heap → Prop} {d : DefRec} {K : Params → PySem.W.Frag} {P : Pg} {fns glos : List Str} {body : Ss} {m : Nat}
    (hn : l.most = some 63) (hdf : d.params.defaults = []) (hr : Room (k + 1) callerA) (hfl : fns[fl]? = some d.name) (hd : P.tab[fl]? = some ⟨[false], m, body⟩)
    (hY : ∀ (w : World) (h : Heap), YP w h → (K w.params).In h)
    (B : ∀ (w : World) (mg : Str → Option Value) (h : Heap), (K w.params).In h → h.Ns mainGlobals mg → PgOk (K w.params) mg P fns glos)
    (law : LawT P (k + 1) fl) : PySem.W.WalkO q loose XP YP l.row.toRowW d [] (fun f vs => PySem.call f vs) := by
  refine Att.attach_callB hn hdf fun w s₀ s₁ mg mb fa o pm cd doc a vs ns G Y ho hdd hcd hmg hobj hints hlen hbits hg => ?_
  have KX := hY w _ Y
  have Bw := B w mg _ KX G.T.g
  obtain ⟨d', hd', st, fa', fd, N, ps, F, m', b, c⟩ := Bw.fns fl _ hfl
  rw [hd] at hd'
  cases hd'
  rw [hmg] at m'
  cases m'
  have hps : ps.length = 1 := by
    unfold chkF at c
    simp only [Bool.and_eq_true, decide_eq_true_eq] at c
    exact c.1.1.1.2.symm
  obtain ⟨y, rfl⟩ : ∃ y, ps = [y] := by
    match ps, hps with
    | [y], _ => exact ⟨y, rfl⟩
  refine law_call KX G.T.g G.T.b G.T.builtins G.T.nolimit hg hobj hints (Nat.le_trans hlen (by decide)) hr (fun base kb gb => def_ok (prog := l.prog) (w := w) (base := base) Bw k (all_ok Bw k) hfl hd F c) (fun s u => .of_eq (b [u] rfl)) (fun H hO hS => ?_) fun H e s' => id
  have fin : ∀ {Z : Addr → Prop}, (∀ b, Z b → H b ≠ none) → RF (K w.params) H Z (.lst (ns.map .int)) (.ref a) → spF (K w.params) (callT P (k + 1) fl) [false] [.ref a] H (fun v _ => v = .bl true) fun _ _ _ => False := fun {Z} zd r =>
    ⟨[.lst (ns.map .int)], .fr (.bl true), [], Z, zd, law ns hlen hbits, .ro r .nil, .nil, fun v H' Z' _ _ R => by cases R; rfl⟩
  rcases hS with hS | ⟨o', its, n', e1, _, _, _, _, r⟩
  · refine fin (Z := fun b => b = a) (fun b e => ?_) (.lst hS rfl (ints_RF ns))
    subst e
    rcases hS with h | ⟨_, h⟩ <;> (rw [h]; simp)
  · have e2 := KX _ _ e1
    rw [hobj] at e2
    cases e2
    refine fin (Z := fun _ => False) (fun b e => e.elim) (.kls ⟨by rw [List.length_map]; exact Nat.le_trans hlen (by decide), vs, 0, ?_, e1⟩ (ints_RF ns))
    exact vals_of_ints hints
end Ir

set_option maxRecDepth 100000
set_option maxHeartbeats 2000000
namespace Ir.Wk.Law
abbrev F.ends_of : Nat := 0
abbrev F.spans : Nat := 1
abbrev F.covering : Nat := 2
abbrev F.pieces : Nat := 3
abbrev F.best_place : Nat := 4
abbrev F._law_draws : Nat := 5
abbrev F._law_take : Nat := 6
abbrev F._law_raw : Nat := 7
abbrev F._law_same : Nat := 8
abbrev F._law_is_integer : Nat := 9
abbrev F._law_length : Nat := 10
abbrev F._law_strip : Nat := 11
abbrev F._law_parts : Nat := 12
abbrev F._law_ends : Nat := 13
abbrev F._law_best : Nat := 14
abbrev F._law_gone_through : Nat := 15
abbrev F.law : Nat := 16
def d_ends_of : Fd := { rw := [false], ns := 3, body := 
  (.cons (.asg 1 (.lst (.cons (.con (.int 0)) .nil)))
  (.cons (.for_ (.nm 2) (.rng1 (.pr .len (.cons (.var 0) .nil))) 
   (.cons (.app 1 (.pr .add (.cons (.pr .idx (.cons (.var 1) (.cons (.pr .neg (.cons (.con (.int 1)) .nil)) .nil))) (.cons (.ite (.pr .eq (.cons (.pr .mod (.cons (.var 2) (.cons (.con (.int 2)) .nil))) (.cons (.con (.int 0)) .nil))) (.pr .idx (.cons (.var 0) (.cons (.var 2) .nil))) (.pr .neg (.cons (.pr .idx (.cons (.var 0) (.cons (.var 2) .nil))) .nil))) .nil)))) .nil) [2])
  (.cons (.retv 1) .nil))) }
def d_spans : Fd := { rw := [false], ns := 3, body := 
  (.cons (.asg 1 (.call F.ends_of true (.cons (.pr .idx (.cons (.var 0) (.cons (.con (.int 0)) .nil))) .nil)))
  (.cons (.ret (.pr .tuple (.cons (.cmp (.tup (.cons (.pr .min2 (.cons (.pr .idx (.cons (.var 1) (.cons (.var 2) .nil))) (.cons (.pr .idx (.cons (.var 1) (.cons (.pr .add (.cons (.var 2) (.cons (.con (.int 1)) .nil))) .nil))) .nil))) (.cons (.pr .max2 (.cons (.pr .idx (.cons (.var 1) (.cons (.var 2) .nil))) (.cons (.pr .idx (.cons (.var 1) (.cons (.pr .add (.cons (.var 2) (.cons (.con (.int 1)) .nil))) .nil))) .nil))) .nil))) (.nm 2) (.rng1 (.pr .len (.cons (.pr .idx (.cons (.var 0) (.cons (.con (.int 0)) .nil))) .nil))) .nil [2]) .nil))) .nil)) }
def d_covering : Fd := { rw := [false, false], ns := 4, body := 
  (.cons (.asg 2 (.call F.spans true (.cons (.var 0) .nil)))
  (.cons (.ret (.pr .tuple (.cons (.cmp (.var 3) (.nm 3) (.rng1 (.pr .len (.cons (.var 2) .nil))) (.cons (.chn .lt .lt (.pr .idx (.cons (.pr .idx (.cons (.var 2) (.cons (.var 3) .nil))) (.cons (.con (.int 0)) .nil))) (.var 1) (.pr .idx (.cons (.pr .idx (.cons (.var 2) (.cons (.var 3) .nil))) (.cons (.con (.int 1)) .nil)))) .nil) [3]) .nil))) .nil)) }
def d_pieces : Fd := { rw := [false, false], ns := 7, body := 
  (.cons (.asg 2 (.call F.ends_of true (.cons (.pr .idx (.cons (.var 0) (.cons (.con (.int 0)) .nil))) .nil)))
  (.cons (.asg 3 (.call F.covering true (.cons (.var 0) (.cons (.var 1) .nil))))
  (.cons (.asg 4 (.lst (.cons (.con (.int 0)) .nil)))
  (.cons (.for_ (.nm 5) (.rng1 (.pr .len (.cons (.pr .idx (.cons (.var 0) (.cons (.con (.int 0)) .nil))) .nil))) 
   (.cons (.iff (.pr .inn (.cons (.var 5) (.cons (.var 3) .nil))) 
    (.cons (.asg 6 (.pr .abs (.cons (.pr .sub (.cons (.var 1) (.cons (.pr .idx (.cons (.var 2) (.cons (.var 5) .nil))) .nil))) .nil)))
    (.cons (.augi 4 (.pr .neg (.cons (.con (.int 1)) .nil)) .add (.var 6))
    (.cons (.app 4 (.pr .sub (.cons (.pr .idx (.cons (.pr .idx (.cons (.var 0) (.cons (.con (.int 0)) .nil))) (.cons (.var 5) .nil))) (.cons (.var 6) .nil)))) .nil))) 
    (.cons (.augi 4 (.pr .neg (.cons (.con (.int 1)) .nil)) .add (.pr .idx (.cons (.pr .idx (.cons (.var 0) (.cons (.con (.int 0)) .nil))) (.cons (.var 5) .nil)))) .nil)) .nil) [5, 6])
  (.cons (.ret (.pr .tuple (.cons (.var 4) .nil))) .nil))))) }
def d_best_place : Fd := { rw := [false], ns := 12, body := 
  (.cons (.asg 1 (.call F.spans true (.cons (.tup (.cons (.pr .tuple (.cons (.cmp (.pr .mul (.cons (.con (.int 2)) (.cons (.var 11) .nil))) (.nm 11) (.e (.pr .idx (.cons (.var 0) (.cons (.con (.int 0)) .nil)))) .nil [11]) .nil)) (.cons (.pr .idx (.cons (.var 0) (.cons (.con (.int 1)) .nil))) .nil))) .nil)))
  (.cons (.asg 2 (.pr .sset (.cons (.cmp2 (.var 7) (.nm 8) (.e (.var 1)) .nil (.nm 7) (.e (.var 8)) .nil [8, 7] [7]) .nil)))
  (.cons (.par 3 4 (.con (.int 0)) (.pr .add (.cons (.pr .idx (.cons (.var 2) (.cons (.con (.int 0)) .nil))) (.cons (.con (.int 1)) .nil))))
  (.cons (.for_ (.nm 5) (.e (.cmp (.pr .add (.cons (.var 7) (.cons (.con (.int 1)) .nil))) (.nm 7) (.e (.var 2)) .nil [7])) 
   (.cons (.asg 6 (.pr .len (.cons (.cmp (.var 9) (.tp [9, 10]) (.e (.var 1)) (.cons (.chn .lt .lt (.var 9) (.var 5) (.var 10)) .nil) [9, 10]) .nil)))
   (.cons (.iff (.pr .gt (.cons (.var 6) (.cons (.var 3) .nil))) 
    (.cons (.par 3 4 (.var 6) (.var 5)) .nil) .nil) .nil)) [5, 6])
  (.cons (.retv 4) .nil))))) }
def d__law_draws : Fd := { rw := [false, false], ns := 9, body := 
  (.cons (.asg 2 (.cmp (.pr .int (.cons (.var 8) .nil)) (.nm 8) (.e (.var 0)) .nil [8]))
  (.cons (.iff (.pr .eq (.cons (.pr .len (.cons (.var 2) .nil)) (.cons (.con (.int 0)) .nil))) 
   (.cons (.app 2 (.con (.int 0))) .nil) .nil)
  (.cons (.asg 3 (.pr .list (.cons (.var 2) .nil)))
  (.cons (.asg 4 (.lst .nil))
  (.cons (.for_ (.nm 5) (.rng1 (.var 1)) 
   (.cons (.asg 6 (.pr .mod (.cons (.pr .int (.cons (.var 5) .nil)) (.cons (.pr .len (.cons (.var 2) .nil)) .nil))))
   (.cons (.iff (.and (.pr .ge (.cons (.pr .idx (.cons (.var 2) (.cons (.var 6) .nil))) (.cons (.pr .pow (.cons (.con (.int 10)) (.cons (.con (.int 18)) .nil))) .nil))) (.pr .gt (.cons (.pr .idx (.cons (.var 3) (.cons (.var 6) .nil))) (.cons (.con (.int 0)) .nil)))) 
    (.cons (.app 4 (.pr .mod (.cons (.pr .int (.cons (.pr .idx (.cons (.var 3) (.cons (.var 6) .nil))) .nil)) (.cons (.con (.int 1000)) .nil))))
    (.cons (.seti 3 (.var 6) (.pr .fdv (.cons (.pr .idx (.cons (.var 3) (.cons (.var 6) .nil))) (.cons (.con (.int 1000)) .nil)))) .nil)) 
    (.cons (.asg 7 (.pr .mod (.cons (.pr .int (.cons (.pr .add (.cons (.pr .add (.cons (.pr .mul (.cons (.pr .idx (.cons (.var 2) (.cons (.var 6) .nil))) (.cons (.con (.int 48271)) .nil))) (.cons (.pr .mul (.cons (.var 5) (.cons (.con (.int 69621)) .nil))) .nil))) (.cons (.con (.int 11)) .nil))) .nil)) (.cons (.con (.int 2147483647)) .nil))))
    (.cons (.app 4 (.pr .mod (.cons (.pr .int (.cons (.pr .add (.cons (.pr .add (.cons (.pr .mul (.cons (.var 7) (.cons (.var 7) .nil))) (.cons (.pr .mul (.cons (.con (.int 3)) (.cons (.var 7) .nil))) .nil))) (.cons (.var 5) .nil))) .nil)) (.cons (.con (.int 1000003)) .nil)))) .nil))) .nil)) [5, 6, 7])
  (.cons (.rev 4)
  (.cons (.retv 4) .nil))))))) }
def d__law_take : Fd := { rw := [true, false], ns := 2, body := 
  (.cons (.iff (.pr .eq (.cons (.pr .len (.cons (.var 0) .nil)) (.cons (.con (.int 0)) .nil))) 
   (.cons (.ret (.con (.int 0))) .nil) .nil)
  (.cons (.ret (.pr .mod (.cons (.pr .int (.cons (.pop 0) .nil)) (.cons (.var 1) .nil)))) .nil)) }
def d__law_raw : Fd := { rw := [false, true], ns := 2, body := 
  (.cons (.iff (.pr .eq (.cons (.pr .len (.cons (.var 0) .nil)) (.cons (.con (.int 0)) .nil))) 
   (.cons (.ret (.con (.int 0))) .nil) .nil)
  (.cons (.ret (.pr .int (.cons (.pr .idx (.cons (.var 0) (.cons (.call F._law_take true (.cons (.var 1) (.cons (.pr .len (.cons (.var 0) .nil)) .nil))) .nil))) .nil))) .nil)) }
def d__law_same : Fd := { rw := [false, false], ns := 3, body := 
  (.cons (.iff (.pr .isN (.cons (.var 1) .nil)) 
   (.cons (.ret (.pr .isN (.cons (.var 0) .nil))) .nil) .nil)
  (.cons (.iff (.pr .isB (.cons (.var 1) .nil)) 
   (.cons (.ret (.and (.pr .isB (.cons (.var 0) .nil)) (.pr .eq (.cons (.var 0) (.cons (.var 1) .nil))))) .nil) .nil)
  (.cons (.iff (.pr .isI (.cons (.var 1) .nil)) 
   (.cons (.ret (.and (.pr .isI (.cons (.var 0) .nil)) (.and (.not (.pr .isB (.cons (.var 0) .nil))) (.pr .eq (.cons (.var 0) (.cons (.var 1) .nil)))))) .nil) .nil)
  (.cons (.iff (.pr .isS (.cons (.var 1) .nil)) 
   (.cons (.ret (.and (.pr .isS (.cons (.var 0) .nil)) (.pr .eq (.cons (.var 0) (.cons (.var 1) .nil))))) .nil) .nil)
  (.cons (.iff (.or (.not (.pr .isT (.cons (.var 0) .nil))) (.pr .ne (.cons (.pr .len (.cons (.var 0) .nil)) (.cons (.pr .len (.cons (.var 1) .nil)) .nil)))) 
   (.cons (.ret (.con (.bl false))) .nil) .nil)
  (.cons (.for_ (.nm 2) (.rng1 (.pr .len (.cons (.var 1) .nil))) 
   (.cons (.iff (.not (.call F._law_same true (.cons (.pr .idx (.cons (.var 0) (.cons (.var 2) .nil))) (.cons (.pr .idx (.cons (.var 1) (.cons (.var 2) .nil))) .nil)))) 
    (.cons (.ret (.con (.bl false))) .nil) .nil) .nil) [2])
  (.cons (.ret (.con (.bl true))) .nil))))))) }
def d__law_is_integer : Fd := { rw := [false], ns := 1, body := 
  (.cons (.ret (.and (.pr .isI (.cons (.var 0) .nil)) (.not (.pr .isB (.cons (.var 0) .nil))))) .nil) }
def d__law_length : Fd := { rw := [true, false], ns := 3, body := 
  (.cons (.asg 2 (.call F._law_take true (.cons (.var 0) (.cons (.con (.int 5)) .nil))))
  (.cons (.iff (.pr .eq (.cons (.var 2) (.cons (.con (.int 0)) .nil))) 
   (.cons (.ret (.pr .add (.cons (.con (.int 1)) (.cons (.pr .abs (.cons (.var 1) .nil)) .nil)))) .nil) .nil)
  (.cons (.iff (.pr .eq (.cons (.var 2) (.cons (.con (.int 1)) .nil))) 
   (.cons (.ret (.pr .add (.cons (.con (.int 1)) (.cons (.call F._law_take true (.cons (.var 0) (.cons (.con (.int 100)) .nil))) .nil)))) .nil) .nil)
  (.cons (.ret (.pr .add (.cons (.con (.int 1)) (.cons (.call F._law_take true (.cons (.var 0) (.cons (.con (.int 4)) .nil))) .nil)))) .nil)))) }
def d__law_strip : Fd := { rw := [true, false, false], ns := 10, body := 
  (.cons (.asg 3 (.cmp (.call F._law_length true (.cons (.var 0) (.cons (.var 1) .nil))) (.nm 9) (.rng1 (.con (.int 5))) .nil [9]))
  (.cons (.asg 4 (.pr .add (.cons (.con (.int 2)) (.cons (.pr .int (.cons (.and (.pr .eq (.cons (.call F._law_take true (.cons (.var 0) (.cons (.con (.int 3)) .nil))) (.cons (.con (.int 0)) .nil))) (.pr .lt (.cons (.var 2) (.cons (.con (.int 42)) .nil)))) .nil)) .nil))))
  (.cons (.asg 5 (.lst .nil))
  (.cons (.asg 6 (.con (.str [])))
  (.cons (.for_ (.nm 7) (.rng1 (.var 2)) 
   (.cons (.asg 8 (.call F._law_take true (.cons (.var 0) (.cons (.con (.int 1000)) .nil))))
   (.cons (.app 5 (.pr .idx (.cons (.var 3) (.cons (.pr .mod (.cons (.pr .int (.cons (.var 8) .nil)) (.cons (.con (.int 5)) .nil))) .nil))))
   (.cons (.iff (.pr .gt (.cons (.var 7) (.cons (.con (.int 0)) .nil))) 
    (.cons (.aug 6 .add (.pr .idx (.cons (.con (.str [77, 86, 70])) (.cons (.pr .mod (.cons (.pr .int (.cons (.pr .fdv (.cons (.var 8) (.cons (.con (.int 5)) .nil))) .nil)) (.cons (.var 4) .nil))) .nil)))) .nil) .nil) .nil))) [7, 8])
  (.cons (.ret (.tup (.cons (.pr .tuple (.cons (.var 5) .nil)) (.cons (.var 6) .nil)))) .nil)))))) }
def d__law_parts : Fd := { rw := [true], ns := 2, body := 
  (.cons (.asg 1 (.call F._law_take true (.cons (.var 0) (.cons (.con (.int 16)) .nil))))
  (.cons (.iff (.pr .eq (.cons (.var 1) (.cons (.con (.int 0)) .nil))) 
   (.cons (.ret (.pr .add (.cons (.con (.int 300)) (.cons (.call F._law_take true (.cons (.var 0) (.cons (.con (.int 102)) .nil))) .nil)))) .nil) .nil)
  (.cons (.iff (.pr .lt (.cons (.var 1) (.cons (.con (.int 4)) .nil))) 
   (.cons (.ret (.pr .add (.cons (.con (.int 9)) (.cons (.call F._law_take true (.cons (.var 0) (.cons (.con (.int 52)) .nil))) .nil)))) .nil) .nil)
  (.cons (.ret (.pr .add (.cons (.con (.int 1)) (.cons (.call F._law_take true (.cons (.var 0) (.cons (.con (.int 8)) .nil))) .nil)))) .nil)))) }
def d__law_ends : Fd := { rw := [false], ns := 3, body := 
  (.cons (.asg 1 (.lst (.cons (.con (.int 0)) .nil)))
  (.cons (.for_ (.nm 2) (.rng1 (.pr .len (.cons (.var 0) .nil))) 
   (.cons (.app 1 (.pr .add (.cons (.pr .idx (.cons (.var 1) (.cons (.pr .neg (.cons (.con (.int 1)) .nil)) .nil))) (.cons (.pr .idx (.cons (.lst (.cons (.pr .idx (.cons (.var 0) (.cons (.var 2) .nil))) (.cons (.pr .neg (.cons (.pr .idx (.cons (.var 0) (.cons (.var 2) .nil))) .nil)) .nil))) (.cons (.pr .mod (.cons (.pr .int (.cons (.var 2) .nil)) (.cons (.con (.int 2)) .nil))) .nil))) .nil)))) .nil) [2])
  (.cons (.retv 1) .nil))) }
def d__law_best : Fd := { rw := [false], ns := 10, body := 
  (.cons (.asg 1 (.call F._law_ends true (.cons (.var 0) .nil)))
  (.cons (.asg 2 (.dnew false))
  (.cons (.for_ (.nm 3) (.rng1 (.pr .len (.cons (.var 0) .nil))) 
   (.cons (.unp [4, 5] (.pr .sorted (.cons (.lst (.cons (.pr .mul (.cons (.con (.int 2)) (.cons (.pr .idx (.cons (.var 1) (.cons (.var 3) .nil))) .nil))) (.cons (.pr .mul (.cons (.con (.int 2)) (.cons (.pr .idx (.cons (.var 1) (.cons (.pr .add (.cons (.var 3) (.cons (.con (.int 1)) .nil))) .nil))) .nil))) .nil))) .nil)))
   (.cons (.dput false 2 (.cons (.var 4) .nil) (.pr .add (.cons (.dgt false 2 (.cons (.var 4) .nil) (.con (.int 0))) (.cons (.con (.int 1)) .nil))))
   (.cons (.dput false 2 (.cons (.var 5) .nil) (.pr .sub (.cons (.dgt false 2 (.cons (.var 5) .nil) (.con (.int 0))) (.cons (.con (.int 1)) .nil)))) .nil))) [3, 4, 5])
  (.cons (.unp [6, 7, 8] (.tup (.cons (.con (.int 0)) (.cons (.con (.int 0)) (.cons (.con (.int 0)) .nil)))))
  (.cons (.for_ (.nm 9) (.e (.pr .sorted (.cons (.var 2) .nil))) 
   (.cons (.asg 8 (.pr .add (.cons (.var 8) (.cons (.dix false 2 (.cons (.var 9) .nil)) .nil))))
   (.cons (.iff (.pr .gt (.cons (.var 8) (.cons (.var 6) .nil))) 
    (.cons (.par 6 7 (.var 8) (.pr .add (.cons (.var 9) (.cons (.con (.int 1)) .nil)))) .nil) .nil) .nil)) [9])
  (.cons (.ret (.tup (.cons (.var 6) (.cons (.var 7) .nil)))) .nil)))))) }
def d__law_gone_through : Fd := { rw := [false], ns := 7, body := 
  (.cons (.asg 1 (.call F._law_ends true (.cons (.var 0) .nil)))
  (.cons (.unp [2, 3] (.tup (.cons (.con (.int 0)) (.cons (.con (.int 0)) .nil))))
  (.cons (.iff (.or (.pr .lt (.cons (.pr .min1 (.cons (.var 1) .nil)) (.cons (.pr .neg (.cons (.con (.int 30)) .nil)) .nil))) (.pr .gt (.cons (.pr .max1 (.cons (.var 1) .nil)) (.cons (.con (.int 30)) .nil)))) 
   (.cons (.ret (.tup (.cons (.var 2) (.cons (.var 3) .nil)))) .nil) .nil)
  (.cons (.for_ (.nm 4) (.rng2 (.pr .neg (.cons (.con (.int 60)) .nil)) (.con (.int 61))) 
   (.cons (.asg 5 (.con (.int 0)))
   (.cons (.for_ (.nm 6) (.rng1 (.pr .len (.cons (.var 0) .nil))) 
    (.cons (.aug 5 .add (.pr .int (.cons (.chn .lt .lt (.pr .min2 (.cons (.pr .mul (.cons (.con (.int 2)) (.cons (.pr .idx (.cons (.var 1) (.cons (.var 6) .nil))) .nil))) (.cons (.pr .mul (.cons (.con (.int 2)) (.cons (.pr .idx (.cons (.var 1) (.cons (.pr .add (.cons (.var 6) (.cons (.con (.int 1)) .nil))) .nil))) .nil))) .nil))) (.var 4) (.pr .max2 (.cons (.pr .mul (.cons (.con (.int 2)) (.cons (.pr .idx (.cons (.var 1) (.cons (.var 6) .nil))) .nil))) (.cons (.pr .mul (.cons (.con (.int 2)) (.cons (.pr .idx (.cons (.var 1) (.cons (.pr .add (.cons (.var 6) (.cons (.con (.int 1)) .nil))) .nil))) .nil))) .nil)))) .nil))) .nil) [6])
   (.cons (.iff (.pr .gt (.cons (.var 5) (.cons (.var 2) .nil))) 
    (.cons (.par 2 3 (.var 5) (.var 4)) .nil) .nil) .nil))) [4, 5, 6])
  (.cons (.ret (.tup (.cons (.var 2) (.cons (.var 3) .nil)))) .nil))))) }
def d_law : Fd := { rw := [false], ns := 16, body := 
  (.cons (.asg 1 (.call F._law_draws true (.cons (.var 0) (.cons (.con (.int 470)) .nil))))
  (.cons (.asg 2 (.call F._law_raw true (.cons (.var 0) (.cons (.var 1) .nil))))
  (.cons (.asg 3 (.pr .tuple (.cons (.cmp (.pr .add (.cons (.con (.int 1)) (.cons (.call F._law_take true (.cons (.var 1) (.cons (.con (.int 9)) .nil))) .nil))) (.nm 13) (.rng1 (.pr .add (.cons (.con (.int 1)) (.cons (.call F._law_take true (.cons (.var 1) (.cons (.con (.int 7)) .nil))) .nil)))) .nil [13]) .nil)))
  (.cons (.asg 4 (.call F._law_strip true (.cons (.var 1) (.cons (.var 2) (.cons (.call F._law_parts true (.cons (.var 1) .nil)) .nil)))))
  (.cons (.asg 5 (.call F._law_gone_through true (.cons (.var 3) .nil)))
  (.cons (.iff (.and (.pr .gt (.cons (.pr .idx (.cons (.var 5) (.cons (.con (.int 0)) .nil))) (.cons (.con (.int 0)) .nil))) (.pr .ne (.cons (.var 5) (.cons (.call F._law_best true (.cons (.var 3) .nil)) .nil)))) 
   (.cons (.ret (.con (.bl false))) .nil) .nil)
  (.cons (.asg 6 (.join [] (.cmp (.pr .idx (.cons (.con (.str [77, 86, 70])) (.cons (.pr .mod (.cons (.var 13) (.cons (.con (.int 3)) .nil))) .nil))) (.nm 13) (.rng1 (.pr .sub (.cons (.pr .len (.cons (.var 3) .nil)) (.cons (.con (.int 1)) .nil)))) .nil [13])))
  (.cons (.for_ (.nm 7) (.e (.lst (.cons (.tup (.cons (.var 3) (.cons (.var 6) .nil))) (.cons (.var 4) (.cons (.tup (.cons (.var 3) (.cons (.var 6) .nil))) .nil))))) 
   (.cons (.unp [8, 9] (.call F._law_best true (.cons (.pr .idx (.cons (.var 7) (.cons (.con (.int 0)) .nil))) .nil)))
   (.cons (.asg 10 (.call F.best_place true (.cons (.var 7) .nil)))
   (.cons (.iff (.not (.call F._law_same true (.cons (.var 10) (.cons (.var 9) .nil)))) 
    (.cons (.ret (.con (.bl false))) .nil) .nil)
   (.cons (.asg 11 (.tup (.cons (.pr .tuple (.cons (.cmp (.pr .mul (.cons (.con (.int 2)) (.cons (.var 14) .nil))) (.nm 14) (.e (.pr .idx (.cons (.var 7) (.cons (.con (.int 0)) .nil)))) .nil [14]) .nil)) (.cons (.pr .idx (.cons (.var 7) (.cons (.con (.int 1)) .nil))) .nil))))
   (.cons (.asg 12 (.call F.pieces true (.cons (.var 11) (.cons (.var 10) .nil))))
   (.cons (.iff (.or (.not (.pr .isT (.cons (.var 12) .nil))) (.pr .ne (.cons (.pr .len (.cons (.var 12) .nil)) (.cons (.pr .add (.cons (.var 8) (.cons (.con (.int 1)) .nil))) .nil)))) 
    (.cons (.ret (.con (.bl false))) .nil) .nil)
   (.cons (.iff (.or (.pr .gt (.cons (.pr .len (.cons (.cmp (.var 15) (.nm 15) (.e (.var 12)) (.cons (.or (.not (.call F._law_is_integer true (.cons (.var 15) .nil))) (.pr .lt (.cons (.var 15) (.cons (.con (.int 1)) .nil)))) .nil) [15]) .nil)) (.cons (.con (.int 0)) .nil))) (.pr .ne (.cons (.pr .sum (.cons (.var 12) .nil)) (.cons (.pr .sum (.cons (.pr .idx (.cons (.var 11) (.cons (.con (.int 0)) .nil))) .nil)) .nil)))) 
    (.cons (.ret (.con (.bl false))) .nil) .nil) .nil))))))) [7, 8, 9, 10, 11, 12])
  (.cons (.ret (.con (.bl true))) .nil))))))))) }
def prog : Pg := ⟨[d_ends_of, d_spans, d_covering, d_pieces, d_best_place, d__law_draws, d__law_take, d__law_raw, d__law_same, d__law_is_integer, d__law_length, d__law_strip, d__law_parts, d__law_ends, d__law_best, d__law_gone_through, d_law], []⟩

section
open PySem L2
def top (i : Nat) : Stmt := PySem.Challenge.pw_creasehold_k60_best_places_for_a_stroke.main.body.getD i (.Pass ⟨0, 0, 0, 0⟩)
def fns : List Str := ["ends_of", "spans", "covering", "pieces", "best_place", "_law_draws", "_law_take", "_law_raw", "_law_same", "_law_is_integer", "_law_length", "_law_strip", "_law_parts", "_law_ends", "_law_best", "_law_gone_through", "law"]
def glos : List Str := []
theorem look_ends_of : chkF fns glos ["lengths", "found", "part"] ["lengths"] d_ends_of (top 1) = true := by decide +kernel
theorem look_spans : chkF fns glos ["strip", "ends", "part"] ["strip"] d_spans (top 2) = true := by decide +kernel
theorem look_covering : chkF fns glos ["strip", "place", "told", "part"] ["strip", "place"] d_covering (top 3) = true := by decide +kernel
theorem look_pieces : chkF fns glos ["strip", "place", "ends", "cuts", "found", "part", "here"] ["strip", "place"] d_pieces (top 5) = true := by decide +kernel
theorem look_best_place : chkF fns glos ["strip", "told", "ends", "best", "least", "place", "many", "end", "span", "low", "high", "length"] ["strip"] d_best_place (top 6) = true := by decide +kernel
theorem look__law_draws : chkF fns glos ["script", "many", "cells", "rest", "draws", "k", "at", "mixed", "cell"] ["script", "many"] d__law_draws (top 8) = true := by decide +kernel
theorem look__law_take : chkF fns glos ["draws", "many"] ["draws", "many"] d__law_take (top 9) = true := by decide +kernel
theorem look__law_raw : chkF fns glos ["script", "draws"] ["script", "draws"] d__law_raw (top 10) = true := by decide +kernel
theorem look__law_same : chkF fns glos ["told", "due", "k"] ["told", "due"] d__law_same (top 11) = true := by decide +kernel
theorem look__law_is_integer : chkF fns glos ["told"] ["told"] d__law_is_integer (top 12) = true := by decide +kernel
theorem look__law_length : chkF fns glos ["draws", "cell", "style"] ["draws", "cell"] d__law_length (top 13) = true := by decide +kernel
theorem look__law_strip : chkF fns glos ["draws", "cell", "many", "pool", "kinds", "lengths", "signs", "part", "draw", "k"] ["draws", "cell", "many"] d__law_strip (top 14) = true := by decide +kernel
theorem look__law_parts : chkF fns glos ["draws", "style"] ["draws"] d__law_parts (top 15) = true := by decide +kernel
theorem look__law_ends : chkF fns glos ["lengths", "ends", "part"] ["lengths"] d__law_ends (top 16) = true := by decide +kernel
theorem look__law_best : chkF fns glos ["lengths", "ends", "changes", "part", "low", "high", "most", "least", "now", "end"] ["lengths"] d__law_best (top 17) = true := by decide +kernel
theorem look__law_gone_through : chkF fns glos ["lengths", "ends", "most", "least", "at", "over", "part"] ["lengths"] d__law_gone_through (top 18) = true := by decide +kernel
theorem look_law : chkF fns glos ["script", "draws", "cell", "small", "strip", "through_all", "signs", "asked", "most", "least", "told", "twice", "cut", "k", "length", "piece"] ["script"] d_law (top 19) = true := by decide +kernel
section
variable {K : PySem.W.Frag} {h : Heap} {mg : Str → Option Value} {f0 f1 f2 f3 f4 f5 f6 f7 f8 f9 f10 f11 f12 f13 f14 f15 f16 : Addr} {od0 an0 od1 an1 od2 an2 od3 an3 od4 an4 od5 an5 od6 an6 od7 an7 od8 an8 od9 an9 od10 an10 od11 an11 od12 an12 od13 an13 od14 an14 od15 an15 od16 an16 : Option Addr} {sl0 sl1 sl2 sl3 sl4 sl5 sl6 sl7 sl8 sl9 sl10 sl11 sl12 sl13 sl14 sl15 sl16 : Array (Option Value)} {oc0 kV0 dc0 pm0 cd0 ct0 oc1 kV1 dc1 pm1 cd1 ct1 oc2 kV2 dc2 pm2 cd2 ct2 oc3 kV3 dc3 pm3 cd3 ct3 oc4 kV4 dc4 pm4 cd4 ct4 oc5 kV5 dc5 pm5 cd5 ct5 oc6 kV6 dc6 pm6 cd6 ct6 oc7 kV7 dc7 pm7 cd7 ct7 oc8 kV8 dc8 pm8 cd8 ct8 oc9 kV9 dc9 pm9 cd9 ct9 oc10 kV10 dc10 pm10 cd10 ct10 oc11 kV11 dc11 pm11 cd11 ct11 oc12 kV12 dc12 pm12 cd12 ct12 oc13 kV13 dc13 pm13 cd13 ct13 oc14 kV14 dc14 pm14 cd14 ct14 oc15 kV15 dc15 pm15 cd15 ct15 oc16 kV16 dc16 pm16 cd16 ct16 : Value}
theorem mk (X : K.In h) (G : h.Ns mainGlobals mg)
    (a0 : PySem.W.nsIn K mainGlobals "ends_of" = some (some (.ref f0))) (l0 : K.lookup f0 = some ⟨oc0, od0, .func (PySem.W.fnOf "ends_of" "ends_of" (defArgs (top 1)) (defBody (top 1)) (defScope (top 1)) .none kV0 dc0 pm0 an0 cd0 ct0), sl0⟩) (c0 : PySem.W.codeIn K cd0 "ends_of" = true) (k0 : PySem.W.keepIn K (.ref f0) = true)
    (a1 : PySem.W.nsIn K mainGlobals "spans" = some (some (.ref f1))) (l1 : K.lookup f1 = some ⟨oc1, od1, .func (PySem.W.fnOf "spans" "spans" (defArgs (top 2)) (defBody (top 2)) (defScope (top 2)) .none kV1 dc1 pm1 an1 cd1 ct1), sl1⟩) (c1 : PySem.W.codeIn K cd1 "spans" = true) (k1 : PySem.W.keepIn K (.ref f1) = true)
    (a2 : PySem.W.nsIn K mainGlobals "covering" = some (some (.ref f2))) (l2 : K.lookup f2 = some ⟨oc2, od2, .func (PySem.W.fnOf "covering" "covering" (defArgs (top 3)) (defBody (top 3)) (defScope (top 3)) .none kV2 dc2 pm2 an2 cd2 ct2), sl2⟩) (c2 : PySem.W.codeIn K cd2 "covering" = true) (k2 : PySem.W.keepIn K (.ref f2) = true)
    (a3 : PySem.W.nsIn K mainGlobals "pieces" = some (some (.ref f3))) (l3 : K.lookup f3 = some ⟨oc3, od3, .func (PySem.W.fnOf "pieces" "pieces" (defArgs (top 5)) (defBody (top 5)) (defScope (top 5)) .none kV3 dc3 pm3 an3 cd3 ct3), sl3⟩) (c3 : PySem.W.codeIn K cd3 "pieces" = true) (k3 : PySem.W.keepIn K (.ref f3) = true)
    (a4 : PySem.W.nsIn K mainGlobals "best_place" = some (some (.ref f4))) (l4 : K.lookup f4 = some ⟨oc4, od4, .func (PySem.W.fnOf "best_place" "best_place" (defArgs (top 6)) (defBody (top 6)) (defScope (top 6)) .none kV4 dc4 pm4 an4 cd4 ct4), sl4⟩) (c4 : PySem.W.codeIn K cd4 "best_place" = true) (k4 : PySem.W.keepIn K (.ref f4) = true)
    (a5 : PySem.W.nsIn K mainGlobals "_law_draws" = some (some (.ref f5))) (l5 : K.lookup f5 = some ⟨oc5, od5, .func (PySem.W.fnOf "_law_draws" "_law_draws" (defArgs (top 8)) (defBody (top 8)) (defScope (top 8)) .none kV5 dc5 pm5 an5 cd5 ct5), sl5⟩) (c5 : PySem.W.codeIn K cd5 "_law_draws" = true) (k5 : PySem.W.keepIn K (.ref f5) = true)
    (a6 : PySem.W.nsIn K mainGlobals "_law_take" = some (some (.ref f6))) (l6 : K.lookup f6 = some ⟨oc6, od6, .func (PySem.W.fnOf "_law_take" "_law_take" (defArgs (top 9)) (defBody (top 9)) (defScope (top 9)) .none kV6 dc6 pm6 an6 cd6 ct6), sl6⟩) (c6 : PySem.W.codeIn K cd6 "_law_take" = true) (k6 : PySem.W.keepIn K (.ref f6) = true)
    (a7 : PySem.W.nsIn K mainGlobals "_law_raw" = some (some (.ref f7))) (l7 : K.lookup f7 = some ⟨oc7, od7, .func (PySem.W.fnOf "_law_raw" "_law_raw" (defArgs (top 10)) (defBody (top 10)) (defScope (top 10)) .none kV7 dc7 pm7 an7 cd7 ct7), sl7⟩) (c7 : PySem.W.codeIn K cd7 "_law_raw" = true) (k7 : PySem.W.keepIn K (.ref f7) = true)
    (a8 : PySem.W.nsIn K mainGlobals "_law_same" = some (some (.ref f8))) (l8 : K.lookup f8 = some ⟨oc8, od8, .func (PySem.W.fnOf "_law_same" "_law_same" (defArgs (top 11)) (defBody (top 11)) (defScope (top 11)) .none kV8 dc8 pm8 an8 cd8 ct8), sl8⟩) (c8 : PySem.W.codeIn K cd8 "_law_same" = true) (k8 : PySem.W.keepIn K (.ref f8) = true)
    (a9 : PySem.W.nsIn K mainGlobals "_law_is_integer" = some (some (.ref f9))) (l9 : K.lookup f9 = some ⟨oc9, od9, .func (PySem.W.fnOf "_law_is_integer" "_law_is_integer" (defArgs (top 12)) (defBody (top 12)) (defScope (top 12)) .none kV9 dc9 pm9 an9 cd9 ct9), sl9⟩) (c9 : PySem.W.codeIn K cd9 "_law_is_integer" = true) (k9 : PySem.W.keepIn K (.ref f9) = true)
    (a10 : PySem.W.nsIn K mainGlobals "_law_length" = some (some (.ref f10))) (l10 : K.lookup f10 = some ⟨oc10, od10, .func (PySem.W.fnOf "_law_length" "_law_length" (defArgs (top 13)) (defBody (top 13)) (defScope (top 13)) .none kV10 dc10 pm10 an10 cd10 ct10), sl10⟩) (c10 : PySem.W.codeIn K cd10 "_law_length" = true) (k10 : PySem.W.keepIn K (.ref f10) = true)
    (a11 : PySem.W.nsIn K mainGlobals "_law_strip" = some (some (.ref f11))) (l11 : K.lookup f11 = some ⟨oc11, od11, .func (PySem.W.fnOf "_law_strip" "_law_strip" (defArgs (top 14)) (defBody (top 14)) (defScope (top 14)) .none kV11 dc11 pm11 an11 cd11 ct11), sl11⟩) (c11 : PySem.W.codeIn K cd11 "_law_strip" = true) (k11 : PySem.W.keepIn K (.ref f11) = true)
    (a12 : PySem.W.nsIn K mainGlobals "_law_parts" = some (some (.ref f12))) (l12 : K.lookup f12 = some ⟨oc12, od12, .func (PySem.W.fnOf "_law_parts" "_law_parts" (defArgs (top 15)) (defBody (top 15)) (defScope (top 15)) .none kV12 dc12 pm12 an12 cd12 ct12), sl12⟩) (c12 : PySem.W.codeIn K cd12 "_law_parts" = true) (k12 : PySem.W.keepIn K (.ref f12) = true)
    (a13 : PySem.W.nsIn K mainGlobals "_law_ends" = some (some (.ref f13))) (l13 : K.lookup f13 = some ⟨oc13, od13, .func (PySem.W.fnOf "_law_ends" "_law_ends" (defArgs (top 16)) (defBody (top 16)) (defScope (top 16)) .none kV13 dc13 pm13 an13 cd13 ct13), sl13⟩) (c13 : PySem.W.codeIn K cd13 "_law_ends" = true) (k13 : PySem.W.keepIn K (.ref f13) = true)
    (a14 : PySem.W.nsIn K mainGlobals "_law_best" = some (some (.ref f14))) (l14 : K.lookup f14 = some ⟨oc14, od14, .func (PySem.W.fnOf "_law_best" "_law_best" (defArgs (top 17)) (defBody (top 17)) (defScope (top 17)) .none kV14 dc14 pm14 an14 cd14 ct14), sl14⟩) (c14 : PySem.W.codeIn K cd14 "_law_best" = true) (k14 : PySem.W.keepIn K (.ref f14) = true)
    (a15 : PySem.W.nsIn K mainGlobals "_law_gone_through" = some (some (.ref f15))) (l15 : K.lookup f15 = some ⟨oc15, od15, .func (PySem.W.fnOf "_law_gone_through" "_law_gone_through" (defArgs (top 18)) (defBody (top 18)) (defScope (top 18)) .none kV15 dc15 pm15 an15 cd15 ct15), sl15⟩) (c15 : PySem.W.codeIn K cd15 "_law_gone_through" = true) (k15 : PySem.W.keepIn K (.ref f15) = true)
    (a16 : PySem.W.nsIn K mainGlobals "law" = some (some (.ref f16))) (l16 : K.lookup f16 = some ⟨oc16, od16, .func (PySem.W.fnOf "law" "law" (defArgs (top 19)) (defBody (top 19)) (defScope (top 19)) .none kV16 dc16 pm16 an16 cd16 ct16), sl16⟩) (c16 : PySem.W.codeIn K cd16 "law" = true) (k16 : PySem.W.keepIn K (.ref f16) = true)
    (b0 : PySem.W.nsIn K mainGlobals "len" = some none)
    (b1 : PySem.W.nsIn K mainGlobals "abs" = some none)
    (b2 : PySem.W.nsIn K mainGlobals "int" = some none)
    (b3 : PySem.W.nsIn K mainGlobals "tuple" = some none)
    (b4 : PySem.W.nsIn K mainGlobals "list" = some none)
    (b5 : PySem.W.nsIn K mainGlobals "sum" = some none)
    (b6 : PySem.W.nsIn K mainGlobals "min" = some none)
    (b7 : PySem.W.nsIn K mainGlobals "max" = some none)
    (b8 : PySem.W.nsIn K mainGlobals "all" = some none)
    (b9 : PySem.W.nsIn K mainGlobals "any" = some none)
    (b10 : PySem.W.nsIn K mainGlobals "sorted" = some none)
    (b11 : PySem.W.nsIn K mainGlobals "range" = some none)
    (b12 : PySem.W.nsIn K mainGlobals "isinstance" = some none)
    (b13 : PySem.W.nsIn K mainGlobals "bool" = some none)
    (b14 : PySem.W.nsIn K mainGlobals "str" = some none)
    (b15 : PySem.W.nsIn K mainGlobals "set" = some none) : PgOk K mg prog fns glos where
  fns := fun f x e => by
    match f, e with
    | 0, e => cases e; exact ⟨_, rfl, top 1, f0, _, ["lengths", "found", "part"], ["lengths"], fun_mk l0 c0 k0, PySem.W.mg_of X G a0, fun us hl => (match us, hl with | [_], _ => rfl), look_ends_of⟩
    | 1, e => cases e; exact ⟨_, rfl, top 2, f1, _, ["strip", "ends", "part"], ["strip"], fun_mk l1 c1 k1, PySem.W.mg_of X G a1, fun us hl => (match us, hl with | [_], _ => rfl), look_spans⟩
    | 2, e => cases e; exact ⟨_, rfl, top 3, f2, _, ["strip", "place", "told", "part"], ["strip", "place"], fun_mk l2 c2 k2, PySem.W.mg_of X G a2, fun us hl => (match us, hl with | [_, _], _ => rfl), look_covering⟩
    | 3, e => cases e; exact ⟨_, rfl, top 5, f3, _, ["strip", "place", "ends", "cuts", "found", "part", "here"], ["strip", "place"], fun_mk l3 c3 k3, PySem.W.mg_of X G a3, fun us hl => (match us, hl with | [_, _], _ => rfl), look_pieces⟩
    | 4, e => cases e; exact ⟨_, rfl, top 6, f4, _, ["strip", "told", "ends", "best", "least", "place", "many", "end", "span", "low", "high", "length"], ["strip"], fun_mk l4 c4 k4, PySem.W.mg_of X G a4, fun us hl => (match us, hl with | [_], _ => rfl), look_best_place⟩
    | 5, e => cases e; exact ⟨_, rfl, top 8, f5, _, ["script", "many", "cells", "rest", "draws", "k", "at", "mixed", "cell"], ["script", "many"], fun_mk l5 c5 k5, PySem.W.mg_of X G a5, fun us hl => (match us, hl with | [_, _], _ => rfl), look__law_draws⟩
    | 6, e => cases e; exact ⟨_, rfl, top 9, f6, _, ["draws", "many"], ["draws", "many"], fun_mk l6 c6 k6, PySem.W.mg_of X G a6, fun us hl => (match us, hl with | [_, _], _ => rfl), look__law_take⟩
    | 7, e => cases e; exact ⟨_, rfl, top 10, f7, _, ["script", "draws"], ["script", "draws"], fun_mk l7 c7 k7, PySem.W.mg_of X G a7, fun us hl => (match us, hl with | [_, _], _ => rfl), look__law_raw⟩
    | 8, e => cases e; exact ⟨_, rfl, top 11, f8, _, ["told", "due", "k"], ["told", "due"], fun_mk l8 c8 k8, PySem.W.mg_of X G a8, fun us hl => (match us, hl with | [_, _], _ => rfl), look__law_same⟩
    | 9, e => cases e; exact ⟨_, rfl, top 12, f9, _, ["told"], ["told"], fun_mk l9 c9 k9, PySem.W.mg_of X G a9, fun us hl => (match us, hl with | [_], _ => rfl), look__law_is_integer⟩
    | 10, e => cases e; exact ⟨_, rfl, top 13, f10, _, ["draws", "cell", "style"], ["draws", "cell"], fun_mk l10 c10 k10, PySem.W.mg_of X G a10, fun us hl => (match us, hl with | [_, _], _ => rfl), look__law_length⟩
    | 11, e => cases e; exact ⟨_, rfl, top 14, f11, _, ["draws", "cell", "many", "pool", "kinds", "lengths", "signs", "part", "draw", "k"], ["draws", "cell", "many"], fun_mk l11 c11 k11, PySem.W.mg_of X G a11, fun us hl => (match us, hl with | [_, _, _], _ => rfl), look__law_strip⟩
    | 12, e => cases e; exact ⟨_, rfl, top 15, f12, _, ["draws", "style"], ["draws"], fun_mk l12 c12 k12, PySem.W.mg_of X G a12, fun us hl => (match us, hl with | [_], _ => rfl), look__law_parts⟩
    | 13, e => cases e; exact ⟨_, rfl, top 16, f13, _, ["lengths", "ends", "part"], ["lengths"], fun_mk l13 c13 k13, PySem.W.mg_of X G a13, fun us hl => (match us, hl with | [_], _ => rfl), look__law_ends⟩
    | 14, e => cases e; exact ⟨_, rfl, top 17, f14, _, ["lengths", "ends", "changes", "part", "low", "high", "most", "least", "now", "end"], ["lengths"], fun_mk l14 c14 k14, PySem.W.mg_of X G a14, fun us hl => (match us, hl with | [_], _ => rfl), look__law_best⟩
    | 15, e => cases e; exact ⟨_, rfl, top 18, f15, _, ["lengths", "ends", "most", "least", "at", "over", "part"], ["lengths"], fun_mk l15 c15 k15, PySem.W.mg_of X G a15, fun us hl => (match us, hl with | [_], _ => rfl), look__law_gone_through⟩
    | 16, e => cases e; exact ⟨_, rfl, top 19, f16, _, ["script", "draws", "cell", "small", "strip", "through_all", "signs", "asked", "most", "least", "told", "twice", "cut", "k", "length", "piece"], ["script"], fun_mk l16 c16 k16, PySem.W.mg_of X G a16, fun us hl => (match us, hl with | [_], _ => rfl), look_law⟩
    | n + 17, e => cases e
  glo := fun g x e => by cases e
  bi := fun x hx => by
    simp only [bltNames, List.mem_cons, List.not_mem_nil, or_false] at hx
    rcases hx with rfl | rfl | rfl | rfl | rfl | rfl | rfl | rfl | rfl | rfl | rfl | rfl | rfl | rfl | rfl | rfl
    · exact PySem.W.mg_none_of X G b0
    · exact PySem.W.mg_none_of X G b1
    · exact PySem.W.mg_none_of X G b2
    · exact PySem.W.mg_none_of X G b3
    · exact PySem.W.mg_none_of X G b4
    · exact PySem.W.mg_none_of X G b5
    · exact PySem.W.mg_none_of X G b6
    · exact PySem.W.mg_none_of X G b7
    · exact PySem.W.mg_none_of X G b8
    · exact PySem.W.mg_none_of X G b9
    · exact PySem.W.mg_none_of X G b10
    · exact PySem.W.mg_none_of X G b11
    · exact PySem.W.mg_none_of X G b12
    · exact PySem.W.mg_none_of X G b13
    · exact PySem.W.mg_none_of X G b14
    · exact PySem.W.mg_none_of X G b15
end

end
end Ir.Wk.Law
section
open PySem PySem.W PyProof.Rows
set_option maxRecDepth 100000 in
set_option maxHeartbeats 0 in
theorem Ir.Wk.Law.said_of (hs : PySem.Challenge.rw_creasehold_k60_best_places_for_a_stroke.row.wellSaid = true → PySem.Challenge.rw_creasehold_k60_best_places_for_a_stroke.row.Holds) : PySem.Challenge.rw_creasehold_k60_best_places_for_a_stroke.Holds := by
  w_on; o_law; exact hs (by assumption)

end

set_option Elab.async false
set_option linter.all false
namespace Ir.Wk
/-! ### what a run brings about -/
structure Ph {α : Type} (K : α) : Type where
def WR {α : Type} (o : Option α) (K : α → Prop) (_ : Ph K := .mk) : Prop := match o with
  | some a => K a
  | none => False
def WP {α : Type} (m : M α) (l : Loc) (Q : α → Loc → Prop) : Prop := WR (m l) fun p => Q p.1 p.2
theorem WR.mono {α : Type} {o : Option α} {K K' : α → Prop} (h : WR o K) (f : ∀ a, K a → K' a) : WR o K' := by
  cases o with
  | none => exact h
  | some a => exact f a h
theorem WR.ex {α : Type} {o : Option α} {K : α → Prop} (h : WR o K) : ∃ a, o = some a ∧ K a := by
  cases o with
  | none => exact h.elim
  | some a => exact ⟨a, rfl, h⟩
theorem WP.mono {α : Type} {m : M α} {l : Loc} {K K' : α → Loc → Prop} (h : WP m l K) (f : ∀ a l, K a l → K' a l) : WP m l K' := by
  exact WR.mono h fun p => f p.1 p.2
section
variable {α β : Type} {X : Cx} {l : Loc} {Q : α → Loc → Prop} {R : Vl → Loc → Prop} {F : Fl → Loc → Prop}
theorem wr_some {a : α} {K : α → Prop} : WR (some a) K = K a := rfl
theorem wr_none {K : α → Prop} : WR none K = False := rfl
theorem wr_ite {c : Prop} [Decidable c] {a b : Option α} {K : α → Prop} : WR (if c then a else b) K = if c then WR a K else WR b K := by split <;> rfl
theorem wr_map {γ : Type} {o : Option γ} {f : γ → α} {K : α → Prop} : WR (o.map f) K = WR o (fun x => K (f x)) := by cases o <;> rfl
theorem w_ret {a : α} : WP (ret a) l Q = Q a l := rfl
theorem w_fail : WP (fun _ => none) l Q = False := rfl
theorem w_bind {m : M β} {f : β → M α} : WP (bind m f) l Q = WP m l (fun a l' => WP (f a) l' Q) := by
  unfold WP bind
  rcases m l with _ | ⟨a, l'⟩ <;> rfl
theorem w_lift {o : Option α} : WP (lift o) l Q = WR o (fun a => Q a l) := by
  unfold WP lift; cases o <;> rfl
theorem w_ite {c : Prop} [Decidable c] {a b : M α} : WP (if c then a else b) l Q = if c then WP a l Q else WP b l Q := by split <;> rfl
/-- a slot -/
def SlQ (l : Loc) (k : Nat) (K : Sl → Prop) : Prop := WR l[k]? K
theorem slq0 {s : Sl} {K : Sl → Prop} : SlQ (s :: l) 0 K = K s := rfl
theorem slqS {s : Sl} {k : Nat} {K : Sl → Prop} : SlQ (s :: l) (k + 1) K = SlQ l k K := by simp [SlQ]
/-- what may be read -/
def RdS (K : T → Prop) : Sl → Prop
  | .fr t => K t
  | .ow t => K t
  | .rw t => K t
  | .lk t => K t
  | .no => False
theorem rds1 {K : T → Prop} {t : T} : RdS K (.fr t) = K t := rfl
theorem rds2 {K : T → Prop} {t : T} : RdS K (.ow t) = K t := rfl
theorem rds3 {K : T → Prop} {t : T} : RdS K (.rw t) = K t := rfl
theorem rds4 {K : T → Prop} {t : T} : RdS K (.lk t) = K t := rfl
theorem slT_q {k : Nat} {K : T → Prop} : WR (slT l[k]?) K = SlQ l k (RdS K) := by
  unfold SlQ
  rcases l[k]? with _ | (_ | _ | _ | _ | _) <;> rfl
/-- what is given away -/
def TkS (l : Loc) (k : Nat) (K : T → Loc → Prop) : Sl → Prop
  | .fr t => K t l
  | .ow t => K t (l.set k (.fr t))
  | _ => False
theorem tks1 {K : T → Loc → Prop} {k : Nat} {t : T} : TkS l k K (.fr t) = K t l := rfl
theorem tks2 {K : T → Loc → Prop} {k : Nat} {t : T} : TkS l k K (.ow t) = K t (l.set k (.fr t)) := rfl
theorem w_take {k : Nat} {K : T → Loc → Prop} : WP (take k) l K = SlQ l k (TkS l k K) := by
  simp only [SlQ, take, WP]
  rcases l[k]? with _ | (_ | _ | _ | _ | _) <;> rfl
theorem set0 {s s' : Sl} : List.set (s :: l) 0 s' = s' :: l := rfl
theorem setS {s s' : Sl} {k : Nat} : List.set (s :: l) (k + 1) s' = s :: List.set l k s' := rfl
/-- a store -/
def StS (K : Prop) : Sl → Prop
  | .no => K
  | .fr _ => K
  | .ow _ => K
  | _ => False
theorem sts1 {K : Prop} {t : T} : StS K (.fr t) = K := rfl
theorem sts2 {K : Prop} {t : T} : StS K (.ow t) = K := rfl
theorem sts3 {K : Prop} : StS K .no = K := rfl
theorem w_stV {k : Nat} {s : Sl} {K : Unit → Loc → Prop} : WP (stV k s) l K = SlQ l k (StS (K () (l.set k s))) := by
  simp only [SlQ, stV, WP]
  rcases l[k]? with _ | (_ | _ | _ | _ | _) <;> rfl
def OwS (K : T → Prop) : Sl → Prop
  | .ow t => K t
  | .rw t => K t
  | _ => False
theorem ows1 {K : T → Prop} {t : T} : OwS K (.ow t) = K t := rfl
theorem ows2 {K : T → Prop} {t : T} : OwS K (.rw t) = K t := rfl
theorem w_own {k : Nat} {K : T → Loc → Prop} : WP (own k) l K = SlQ l k (OwS fun t => K t l) := by
  simp only [SlQ, own, WP]
  rcases l[k]? with _ | (_ | _ | _ | _ | _) <;> rfl
def PtS (l : Loc) (k : Nat) (t : T) (K : Loc → Prop) : Sl → Prop
  | .ow _ => K (l.set k (.ow t))
  | .rw _ => K (l.set k (.rw t))
  | _ => False
theorem pts1 {K : Loc → Prop} {k : Nat} {t u : T} : PtS l k t K (.ow u) = K (l.set k (.ow t)) := rfl
theorem pts2 {K : Loc → Prop} {k : Nat} {t u : T} : PtS l k t K (.rw u) = K (l.set k (.rw t)) := rfl
theorem w_put {k : Nat} {t : T} {K : Unit → Loc → Prop} : WP (put k t) l K = SlQ l k (PtS l k t (K ())) := by
  simp only [SlQ, put, WP]
  rcases l[k]? with _ | (_ | _ | _ | _ | _) <;> rfl
/-! operands -/
def OpQ (l : Loc) (K : T → Prop) : Op → Prop
  | .vl v => K v.t
  | .pl k => SlQ l k (RdS K)
theorem opq1 {K : T → Prop} {t : T} : OpQ l K (.vl (.fr t)) = K t := rfl
theorem opq2 {K : T → Prop} {t : T} : OpQ l K (.vl (.ow t)) = K t := rfl
theorem opq3 {K : T → Prop} {k : Nat} : OpQ l K (.pl k) = SlQ l k (RdS K) := rfl
theorem tree_q {o : Op} {K : T → Prop} : WR (o.tree l) K = OpQ l K o := by
  cases o with
  | vl v => rfl
  | pl k => exact slT_q
def TsQ (l : Loc) (os : List Op) (K : List T → Prop) : Prop := WR (trees l os) K
theorem tsq_nil {K : List T → Prop} : TsQ l [] K = K [] := rfl
theorem tsq_cons {o : Op} {os : List Op} {K : List T → Prop} : TsQ l (o :: os) K = OpQ l (fun t => TsQ l os fun ts => K (t :: ts)) o := by
  rw [← tree_q]
  unfold TsQ
  rw [trees]
  rcases o.tree l with _ | t
  · rfl
  · simp only []
    rcases trees l os with _ | ts <;> rfl
/-- expressions -/
def EQ (X : Cx) (e : E) (l : Loc) (R : Vl → Loc → Prop) : Prop := WP (evE X e) l R
def OQ (X : Cx) (e : E) (l : Loc) (K : Op → Loc → Prop) : Prop := WP (opO e (evE X e)) l K
def OsQ (X : Cx) (es : Es) (l : Loc) (K : List Op → Loc → Prop) : Prop := WP (evOs X es) l K
/-- primitives -/
def PQ (p : Pr) (ts : List T) (K : Vl → Prop) (_ : Ph K := .mk) : Prop := WR (prS p ts) K
def TrQ (K : Bool → Prop) : Vl → Prop
  | .fr (.bl b) => K b
  | _ => False
theorem trq {K : Bool → Prop} {b : Bool} : TrQ K (.fr (.bl b)) = K b := rfl
theorem w_truth {v : Vl} {K : Bool → Loc → Prop} : WP (truth v) l K = TrQ (fun b => K b l) v := by
  unfold truth
  split
  · rw [w_ret]; rfl
  · rw [w_fail]
    rename_i h
    unfold TrQ
    split
    · rename_i h2; exact (h _ rfl).elim
    · rfl
def InQ (K : Int → Prop) : Vl → Prop
  | .fr (.int b) => K b
  | _ => False
theorem inq {K : Int → Prop} {b : Int} : InQ K (.fr (.int b)) = K b := rfl
theorem w_intOf {v : Vl} {K : Int → Loc → Prop} : WP (intOf v) l K = InQ (fun b => K b l) v := by
  unfold intOf
  split
  · rw [w_ret]; rfl
  · rw [w_fail]
    rename_i h
    unfold InQ
    split
    · rename_i h2; exact (h _ rfl).elim
    · rfl
theorem e_con {t : T} : EQ X (.con t) l R = R (.fr t) l := by unfold EQ evE; exact w_ret
theorem e_glo {g : Nat} : EQ X (.glo g) l R = WR X.glo[g]? (fun t => R (.fr t) l) := by unfold EQ evE; rw [w_lift, wr_map]
theorem e_var {k : Nat} : EQ X (.var k) l R = SlQ l k (TkS l k fun t l => R (.fr t) l) := by
  unfold EQ evE; rw [w_bind, w_take]; simp only [w_ret]
theorem os_nil {K : List Op → Loc → Prop} : OsQ X .nil l K = K [] l := by unfold OsQ evOs; exact w_ret
theorem os_cons {e : E} {es : Es} {K : List Op → Loc → Prop} : OsQ X (.cons e es) l K = OQ X e l (fun o l => OsQ X es l fun os l => K (o :: os) l) := by
  unfold OsQ OQ; rw [evOs, w_bind]; simp only [w_bind, w_ret]
theorem o_var {k : Nat} {K : Op → Loc → Prop} : OQ X (.var k) l K = SlQ l k (RdS fun _ => K (.pl k) l) := by
  rw [← slT_q]
  simp only [OQ, opO, WP]
  rcases slT l[k]? with _ | _ <;> rfl
theorem o_e {e : E} {K : Op → Loc → Prop} (h : ∀ k, e ≠ .var k) : OQ X e l K = EQ X e l (fun v l => K (.vl v) l) := by
  unfold OQ opO EQ
  cases e <;> first | exact (h _ rfl).elim | (simp only [w_bind, w_ret])
def trM (p : Pr) (os : List Op) : M Vl := fun l => match trees l os with
    | some ts => lift (prS p ts) l
    | none => none
theorem w_trM {p : Pr} {os : List Op} : WP (trM p os) l R = TsQ l os (fun ts => PQ p ts fun v => R v l) := by
  simp only [TsQ, PQ, WP, trM]
  rcases trees l os with _ | ts
  · rfl
  · simp only [lift, wr_some]
    rcases prS p ts with _ | _ <;> rfl
theorem e_pr {p : Pr} {as : Es} : EQ X (.pr p as) l R = OsQ X as l (fun os l => TsQ l os fun ts => PQ p ts fun v => R v l) := by
  unfold EQ OsQ
  show WP (bind (evOs X as) (trM p)) l R = _
  rw [w_bind]
  simp only [w_trM]
def GvQ (l : Loc) (K : T → Loc → Prop) : Op → Prop
  | .vl v => K v.t l
  | .pl k => SlQ l k (TkS l k K)
theorem gvq1 {K : T → Loc → Prop} {t : T} : GvQ l K (.vl (.fr t)) = K t l := rfl
theorem gvq2 {K : T → Loc → Prop} {t : T} : GvQ l K (.vl (.ow t)) = K t l := rfl
theorem gvq3 {K : T → Loc → Prop} {k : Nat} : GvQ l K (.pl k) = SlQ l k (TkS l k K) := rfl
theorem w_give {o : Op} {K : T → Loc → Prop} : WP o.give l K = GvQ l K o := by
  cases o with
  | vl v => exact w_ret
  | pl k => exact w_take
def GsQ (l : Loc) (os : List Op) (K : List T → Loc → Prop) : Prop := WP (gives os) l K
theorem gsq_nil {K : List T → Loc → Prop} : GsQ l [] K = K [] l := w_ret
theorem gsq_cons {o : Op} {os : List Op} {K : List T → Loc → Prop} : GsQ l (o :: os) K = GvQ l (fun t l => GsQ l os fun ts l => K (t :: ts) l) o := by
  unfold GsQ; rw [gives, w_bind, w_give]; simp only [w_bind, w_ret]
theorem e_tup {as : Es} : EQ X (.tup as) l R = OsQ X as l (fun os l => GsQ l os fun ts l => R (.fr (.tup ts)) l) := by
  unfold EQ OsQ GsQ; rw [evE]; simp only [w_bind, w_ret]
theorem e_lst {as : Es} : EQ X (.lst as) l R = OsQ X as l (fun os l => GsQ l os fun ts l => R (.ow (.lst ts)) l) := by
  unfold EQ OsQ GsQ; rw [evE]; simp only [w_bind, w_ret]
theorem e_and {a b : E} : EQ X (.and a b) l R = EQ X a l (fun v l => TrQ (fun c => if c then EQ X b l R else R (.fr (.bl false)) l) v) := by
  unfold EQ; rw [evE]; simp only [w_bind, w_truth, w_ite, w_ret]
theorem e_or {a b : E} : EQ X (.or a b) l R = EQ X a l (fun v l => TrQ (fun c => if c then R (.fr (.bl true)) l else EQ X b l R) v) := by
  unfold EQ; rw [evE]; simp only [w_bind, w_truth, w_ite, w_ret]
theorem e_not {a : E} : EQ X (.not a) l R = EQ X a l (fun v l => TrQ (fun c => R (.fr (.bl !c)) l) v) := by
  unfold EQ; rw [evE]; simp only [w_bind, w_truth, w_ret]
theorem e_ite {c a b : E} : EQ X (.ite c a b) l R = EQ X c l (fun v l => TrQ (fun c => if c then EQ X a l R else EQ X b l R) v) := by
  unfold EQ; rw [evE]; simp only [w_bind, w_truth, w_ite]
theorem e_chn {p q : Pr} {a b c : E} : EQ X (.chn p q a b c) l R = OQ X a l fun x l => OQ X b l fun y l => TsQ l [x, y] fun ts => PQ p ts fun v => TrQ (fun d => if d then OQ X c l (fun z l => TsQ l [y, z] fun ts => PQ q ts fun v => R v l) else R (.fr (.bl false)) l) v := by
  unfold EQ OQ
  show WP (bind (opO a (evE X a)) fun x => bind (opO b (evE X b)) fun y => bind (trM p [x, y]) fun v => bind (truth v) fun d =>
      if d then bind (opO c (evE X c)) fun z => trM q [y, z]
      else ret (.fr (.bl false))) l R = _
  simp only [w_bind, w_truth, w_trM, w_ite, w_ret]
/-- pops -/
def PopQ (l : Loc) (k : Nat) (R : Vl → Loc → Prop) : T → Prop
  | .lst xs => WR xs.getLast? fun x => SlQ l k (PtS l k (.lst xs.dropLast) fun l => R (.fr x) l)
  | _ => False
theorem popq {k : Nat} {xs : List T} : PopQ l k R (.lst xs) = WR xs.getLast? fun x => SlQ l k (PtS l k (.lst xs.dropLast) fun l => R (.fr x) l) := rfl
theorem e_pop {k : Nat} : EQ X (.pop k) l R = SlQ l k (OwS (PopQ l k R)) := by
  unfold EQ; rw [evE, w_bind, w_own]
  congr; funext t
  cases t <;> first | exact w_fail | skip
  rename_i xs
  unfold PopQ
  simp only
  cases xs.getLast? with
  | none => simp [w_fail, wr_none]
  | some x => simp only [w_bind, w_put, w_ret, wr_some]
def PopAtQ (l : Loc) (k : Nat) (i : Int) (R : Vl → Loc → Prop) : T → Prop
  | .lst xs => WR (if small i then ixN xs.length i else none) fun j => WR xs[j]? fun x => SlQ l k (PtS l k (.lst (xs.eraseIdx j)) fun l => R (.fr x) l)
  | _ => False
theorem e_popAt {k : Nat} {e : E} : EQ X (.popAt k e) l R = SlQ l k (OwS fun t => isLst t = true ∧ EQ X e l fun v l => InQ (fun i => SlQ l k (OwS (PopAtQ l k i R))) v) := by
  unfold EQ; rw [evE, w_bind, w_own]
  congr; funext t
  rw [w_ite]
  cases t <;> first | (simp [isLst, w_fail]; done) | skip
  simp only [isLst, if_true, true_and, w_bind]
  congr; funext v l
  cases v with
  | ow t => simp [InQ, w_fail]
  | fr t =>
    cases t <;> first | (simp [InQ, w_fail]; done) | skip
    simp only [InQ, w_bind, w_own]
    congr; funext t
    cases t <;> first | (simp [PopAtQ, w_fail]; done) | skip
    rename_i ys
    unfold PopAtQ
    simp only
    rename_i i _
    cases (if small _ = true then ixN ys.length _ else none) with
    | none => simp [w_fail, wr_none]
    | some j =>
      simp only [wr_some]
      cases ys[j]? with
      | none => simp [w_fail, wr_none]
      | some x => simp only [w_bind, w_put, w_ret, wr_some]
theorem e_join {s : List Nat} {a : E} : EQ X (.join s a) l R = OQ X a l fun o l => OpQ l (fun t => PQ .join [.str s, t] fun v => R v l) o := by
  unfold EQ OQ
  show WP (bind (bind (ret (.vl (.fr (.str s)))) fun o => bind (bind (opO a (evE X a)) fun o => bind (ret []) fun os => ret (o :: os)) fun os => ret (o :: os)) (trM .join)) l R = _
  simp only [w_bind, w_ret, w_trM, tsq_cons, tsq_nil, opq1]
theorem e_count {s : List Nat} {a : E} : EQ X (.count a s) l R = OQ X a l fun o l => OpQ l (fun t => PQ .count [t, .str s] fun v => R v l) o := by
  unfold EQ OQ
  show WP (bind (bind (opO a (evE X a)) fun o => bind (bind (ret (.vl (.fr (.str s)))) fun o => bind (ret []) fun os => ret (o :: os)) fun os => ret (o :: os)) (trM .count)) l R = _
  simp only [w_bind, w_ret, w_trM, tsq_cons, tsq_nil, opq1]
theorem e_sl {x a b : E} : EQ X (.sl x a b) l R = OQ X x l fun o l => EQ X a l fun v l => InQ (fun i => EQ X b l fun w l => InQ (fun j => OpQ l (fun t => WR (prCut (some i) (some j) t) fun v => R v l) o) w) v := by
  unfold EQ OQ; rw [evE, slM]
  simp only [w_bind, w_intOf]
  congr; funext o l
  congr; funext v l
  congr; funext i
  congr; funext w l
  congr; funext j
  rw [← tree_q]
  simp only [WP]
  rcases o.tree l with _ | t
  · rfl
  · simp only [lift, wr_some]
    rcases prCut (some i) (some j) t with _ | _ <;> rfl
def StQ (K : List Nat → Prop) : Vl → Prop
  | .fr (.str s) => K s
  | _ => False
theorem stq {K : List Nat → Prop} {s : List Nat} : StQ K (.fr (.str s)) = K s := rfl
theorem e_dget {k1 v1 k2 v2 : List Nat} {a b : E} : EQ X (.dget k1 v1 k2 v2 a b) l R = EQ X a l fun v l => EQ X b l fun w l => StQ (fun s => StQ (fun t => R (.fr (.str (if s = k1 then v1 else if s = k2 then v2 else t))) l) w) v := by
  unfold EQ; rw [evE, w_bind]
  congr; funext v l
  rw [w_bind]
  congr; funext w l
  rcases v with (_ | _ | _ | _ | _ | _ | _ | _) | _ <;> first | rfl | skip
  rcases w with (_ | _ | _ | _ | _ | _ | _ | _) | _ <;> rfl
def lstM (o a : Op) : M Vl := fun l => match trees l [o, a] with
    | some ts => lift (prIndex ts) l
    | none => none
theorem w_lstM {o a : Op} : WP (lstM o a) l R = TsQ l [o, a] (fun ts => WR (prIndex ts) fun v => R v l) := by
  simp only [TsQ, WP, lstM]
  rcases trees l [o, a] with _ | ts
  · rfl
  · simp only [lift, wr_some]
    rcases prIndex ts with _ | _ <;> rfl
def idxM (m : M Vl) (l : Loc) : Option T → Option (Vl × Loc)
  | some (.lst _) => m l
  | _ => none
theorem e_index {x a : E} : EQ X (.index x a) l R = OQ X x l fun o l => OpQ l (fun t => isLst t = true ∧ OQ X a l fun a l => TsQ l [o, a] fun ts => WR (prIndex ts) fun v => R v l) o := by
  unfold EQ OQ; rw [evE, indexM, w_bind]
  congr; funext o l
  rw [← tree_q]
  show WR (idxM (bind (opO a (evE X a)) fun a => lstM o a) l (o.tree l)) (fun p => R p.1 p.2) = _
  rcases o.tree l with _ | t
  · rfl
  · rw [wr_some]
    cases t <;> first | (simp only [isLst, Bool.false_eq_true, false_and]; rfl) | skip
    simp only [isLst, true_and]
    show WP (bind (opO a (evE X a)) fun a => lstM o a) l R = _
    rw [w_bind]
    simp only [w_lstM]
end
end Ir.Wk

set_option Elab.async false
set_option linter.all false
namespace Ir.Wk
section
variable {α β : Type} {X : Cx} {l : Loc} {R : Vl → Loc → Prop} {F : Fl → Loc → Prop}
/-! calls -/
def LQ (l : Loc) (bs : List Bool) (os : List Op) (K : List T → Prop) : Prop := WR (lent l bs os) K
theorem lq_nil {K : List T → Prop} : LQ l [] [] K = K [] := rfl
theorem lq_t {bs : List Bool} {k : Nat} {os : List Op} {K : List T → Prop} : LQ l (true :: bs) (.pl k :: os) K = SlQ l k (OwS fun t => LQ l bs os fun ts => K (t :: ts)) := by
  simp only [LQ, SlQ, lent]
  rcases l[k]? with _ | (_ | _ | _ | _ | _) <;> rcases lent l bs os with _ | _ <;> rfl
theorem lq_v {bs : List Bool} {t : T} {os : List Op} {K : List T → Prop} : LQ l (true :: bs) (.vl (.ow t) :: os) K = LQ l bs os fun ts => K (t :: ts) := by
  simp only [LQ, lent, wr_map]
theorem lq_f {bs : List Bool} {o : Op} {os : List Op} {K : List T → Prop} : LQ l (false :: bs) (o :: os) K = OpQ l (fun t => LQ l bs os fun ts => K (t :: ts)) o := by
  rw [← tree_q]
  simp only [LQ]
  rw [lent]
  rcases o.tree l with _ | t
  · rfl
  · rcases lent l bs os with _ | _ <;> rfl
def BQ (bs : List Bool) (os : List Op) (fin : List T) (l : Loc) (K : Loc → Prop) : Prop := WP (back bs os fin) l fun _ l' => K l'
theorem bq_nil {K : Loc → Prop} : BQ [] [] [] l K = K l := rfl
theorem bq_t {bs : List Bool} {k : Nat} {t : T} {os : List Op} {ts : List T} {K : Loc → Prop} : BQ (true :: bs) (.pl k :: os) (t :: ts) l K = SlQ l k (PtS l k t fun l => BQ bs os ts l K) := by
  unfold BQ; rw [back, w_bind, w_put]
theorem bq_v {bs : List Bool} {t : T} {v : Vl} {os : List Op} {ts : List T} {K : Loc → Prop} : BQ (true :: bs) (.vl v :: os) (t :: ts) l K = BQ bs os ts l K := by
  unfold BQ; rw [back]
theorem bq_f {bs : List Bool} {o : Op} {os : List Op} {ts : List T} {K : Loc → Prop} : BQ (false :: bs) (o :: os) ts l K = BQ bs os ts l K := by
  unfold BQ; rw [back]
def CQ2 (call : List T → Option (Vl × List T)) (bs : List Bool) (sh : List Nat) (os : List Op) (l : Loc) (R : Vl → Loc → Prop) : Prop :=
  LQ l bs os fun ts => WR (call ts) fun p => ((owned l sh).isEmpty || (p.1.clear && p.2.all clearT)) = true ∧ BQ bs os p.2 l fun l' => R p.1 l'
def CQ (call : List T → Option (Vl × List T)) (bs : List Bool) (fz : Bool) (os : List Op) (l0 : Loc) (R : Vl → Loc → Prop) : Prop :=
  (nodupB (lents bs os) && !(shown bs os).any (lents bs os).contains) = true ∧ CQ2 call bs (shown bs os) os (if fz then freeze (shown bs os) l0 else l0) R
theorem w_call {f : Nat} {fz : Bool} {os : List Op} {d : Fd} (hd : X.tab[f]? = some d) : WP (doCall X f fz os) l R = CQ (X.call f) d.rw fz os l R := by
  unfold CQ CQ2 LQ BQ WP doCall
  rw [hd]
  simp only
  split
  · rename_i h
    simp only [h, true_and]
    generalize (if fz = true then freeze (shown d.rw os) l else l) = l1
    rcases lent l1 d.rw os with _ | ts
    · rfl
    · simp only [wr_some]
      rcases X.call f ts with _ | ⟨r, fin⟩
      · rfl
      · simp only [wr_some]
        split
        · rename_i g
          simp only [g, true_and]
          show WP (bind (back d.rw os fin) fun _ => ret r) l1 R = _
          rw [w_bind]
          rfl
        · rename_i g
          exact propext ⟨False.elim, fun x => g x.1⟩
  · rename_i h
    exact propext ⟨False.elim, fun x => h x.1⟩
theorem e_call {f : Nat} {fz : Bool} {as : Es} {d : Fd} {bs : List Bool} (hd : X.tab[f]? = some d) (hr : d.rw = bs) : EQ X (.call f fz as) l R = OsQ X as l fun os l => CQ (X.call f) bs fz os l R := by
  subst hr
  unfold EQ OsQ
  rw [evE, w_bind]
  simp only [w_call hd]
/-! what is walked -/
def IQ (X : Cx) (it : It) (l : Loc) (K : Op → List T → Loc → Prop) : Prop := WP (evI X it) l fun oi l => K oi.1 oi.2 l
def WkT (K : List T → Prop) : T → Prop
  | .lst xs => K xs
  | .tup xs => K xs
  | .str xs => K (xs.map fun c => .str [c])
  | _ => False
theorem wk1 {K : List T → Prop} {xs : List T} : WkT K (.lst xs) = K xs := rfl
theorem wk2 {K : List T → Prop} {xs : List T} : WkT K (.tup xs) = K xs := rfl
theorem wk3 {K : List T → Prop} {xs : List Nat} : WkT K (.str xs) = K (xs.map fun c => .str [c]) := rfl
theorem i_e {e : E} {K : Op → List T → Loc → Prop} : IQ X (.e e) l K = OQ X e l fun o l => OpQ l (WkT fun xs => K o xs l) o := by
  unfold IQ OQ
  rw [evI, w_bind]
  congr; funext o l
  rw [← tree_q]
  simp only [WP]
  rcases o.tree l with _ | (_ | _ | _ | _ | _ | _ | _ | _) <;> rfl
theorem i_r1 {a : E} {K : Op → List T → Loc → Prop} : IQ X (.rng1 a) l K = EQ X a l fun v l => InQ (fun b => small b = true ∧ K (.vl (.fr .non)) ((rangeL 0 b).map .int) l) v := by
  unfold IQ EQ
  rw [evI, w_bind]
  congr; funext v l
  rcases v with (_ | _ | _ | _ | _ | _ | _ | _) | _ <;> first | rfl | skip
  rename_i b
  simp only [InQ, w_ite]
  split <;> simp_all [w_ret, w_fail]
theorem i_r2 {a b : E} {K : Op → List T → Loc → Prop} : IQ X (.rng2 a b) l K = EQ X a l fun v l => EQ X b l fun w l => InQ (fun a => InQ (fun b => (small a && small b) = true ∧ K (.vl (.fr .non)) ((rangeL a b).map .int) l) w) v := by
  unfold IQ EQ
  rw [evI, w_bind]
  congr; funext v l
  rw [w_bind]
  congr; funext w l
  rcases v with (_ | _ | _ | _ | _ | _ | _ | _) | _ <;> first | rfl | skip
  rcases w with (_ | _ | _ | _ | _ | _ | _ | _) | _ <;> first | rfl | skip
  simp only [InQ, w_ite]
  split <;> simp_all [w_ret, w_fail]
theorem i_r3 {a b : E} {c : Int} {K : Op → List T → Loc → Prop} : IQ X (.rng3 a b c) l K = EQ X a l fun v l => EQ X b l fun w l => InQ (fun a => InQ (fun b => (small a && small b && (c == -1 || c == 2)) = true ∧ K (.vl (.fr .non)) ((rangeS a b c).map .int) l) w) v := by
  unfold IQ EQ
  rw [evI, w_bind]
  congr; funext v l
  rw [w_bind]
  congr; funext w l
  rcases v with (_ | _ | _ | _ | _ | _ | _ | _) | _ <;> first | rfl | skip
  rcases w with (_ | _ | _ | _ | _ | _ | _ | _) | _ <;> first | rfl | skip
  simp only [InQ, w_ite]
  split <;> simp_all [w_ret, w_fail]
/-! stores -/
def SaQ (ks : List Nat) (ts : List T) (l : Loc) (K : Loc → Prop) : Prop := WP (stAll ks ts) l fun _ l => K l
theorem sa_nil {K : Loc → Prop} : SaQ [] [] l K = K l := rfl
theorem sa_cons {k : Nat} {t : T} {ks : List Nat} {ts : List T} {K : Loc → Prop} : SaQ (k :: ks) (t :: ts) l K = SlQ l k (StS (SaQ ks ts (l.set k (.fr t)) K)) := by
  unfold SaQ; rw [stAll, w_bind, w_stV]
def TgQ (tg : Tg) (x : T) (l : Loc) (K : Loc → Prop) : Prop := WP (tg.store x) l fun _ l => K l
theorem tg_nm {k : Nat} {x : T} {K : Loc → Prop} : TgQ (.nm k) x l K = SlQ l k (StS (K (l.set k (.fr x)))) := by
  unfold TgQ; rw [Tg.store, w_stV]
theorem tg_tp {ks : List Nat} {ts : List T} {K : Loc → Prop} : TgQ (.tp ks) (.tup ts) l K = (ks.length = ts.length ∧ SaQ ks ts l K) := by
  unfold TgQ SaQ; rw [Tg.store]
  split
  · rename_i h; simp only [h, true_and]
  · rename_i h; exact propext ⟨False.elim, fun x => h x.1⟩
/-! tests -/
def CsQ (X : Cx) (cs : Es) (l : Loc) (K : Bool → Loc → Prop) : Prop := WP (evC X cs) l K
theorem cs_nil {K : Bool → Loc → Prop} : CsQ X .nil l K = K true l := rfl
theorem cs_cons {e : E} {es : Es} {K : Bool → Loc → Prop} : CsQ X (.cons e es) l K = EQ X e l fun v l => TrQ (fun c => if c then CsQ X es l K else K false l) v := by
  unfold CsQ EQ; rw [evC, w_bind]; simp only [w_bind, w_truth, w_ite, w_ret]
/-! comprehensions -/
/-- a turn of a comprehension -/
def TnQ (X : Cx) (elt : E) (tg : Tg) (cs : Es) (ks : List Nat) (x : T) (l : Loc) (K : List T → Loc → Prop) : Prop :=
  TgQ tg x l fun l => CsQ X cs l fun c l => if c then EQ X elt l fun v l => K [v.t] (wipeL ks l) else K [] (wipeL ks l)
def turnM (X : Cx) (elt : E) (tg : Tg) (cs : Es) (ks : List Nat) (x : T) : M (List T) := bind (tg.store x) fun _ => bind (evC X cs) fun c =>
        if c then bind (evE X elt) fun v => fun l => some ([v.t], wipeL ks l) else fun l => some ([], wipeL ks l)
theorem w_turn {elt : E} {tg : Tg} {cs : Es} {ks : List Nat} {x : T} {K : List T → Loc → Prop} : WP (turnM X elt tg cs ks x) l K = TnQ X elt tg cs ks x l K := by
  unfold turnM TnQ TgQ CsQ EQ
  simp only [w_bind, w_ite]
  rfl
def CmQ (X : Cx) (elt : E) (tg : Tg) (cs : Es) (ks : List Nat) (xs : List T) (l : Loc) (K : List T → Loc → Prop) (_ : Ph K := .mk) : Prop := WP (compL (turnM X elt tg cs ks) xs) l K
theorem e_cmp {elt : E} {tg : Tg} {it : It} {cs : Es} {ks : List Nat} : EQ X (.cmp elt tg it cs ks) l R = IQ X it l fun o xs l0 => CmQ X elt tg cs ks xs (wipeL ks (lock o l0)) fun ys l => ys.length ≤ sizeMax ∧ R (.ow (.lst ys)) (unlock l0 o (back0 l0 ks l)) := by
  unfold EQ IQ CmQ
  rw [evE, w_bind]
  congr; funext oi l0
  have e : ∀ {o : Option (List T × Loc)} {k : Op}, WR (match o with
    | some (ys, l) => some (Vl.ow (.lst ys), unlock l0 k (back0 l0 ks l))
    | none => none) (fun p => R p.1 p.2) = WR o (fun p => R (.ow (.lst p.1)) (unlock l0 k (back0 l0 ks p.2))) := fun {o k} => by rcases o with _ | ⟨_, _⟩ <;> rfl
  have e2 : ∀ {m : M (List T)} {l : Loc} {K : List T → Loc → Prop}, WP (bind m fun ys => if ys.length ≤ sizeMax then ret ys else fun _ => none) l K = WP m l fun ys l => ys.length ≤ sizeMax ∧ K ys l := fun {m l K} => by
    rw [w_bind]
    congr; funext ys l
    rw [w_ite]
    split
    · rename_i h; simp only [h, true_and]; rfl
    · rename_i h; exact propext ⟨False.elim, fun x => h x.1⟩
  exact e.trans ((e2 (m := compL (turnM X elt tg cs ks) oi.2) (l := wipeL ks (lock oi.1 l0)) (K := fun ys l => R (.ow (.lst ys)) (unlock l0 oi.1 (back0 l0 ks l)))))
theorem cm_rule {elt : E} {tg : Tg} {cs : Es} {ks : List Nat} {K : List T → Loc → Prop} (I : List T → List T → Loc → Prop) {xs : List T} (h0 : I xs [] l)
    (hs : ∀ x xs ys l, I (x :: xs) ys l → TnQ X elt tg cs ks x l fun a l' => I xs (ys ++ a) l') (h1 : ∀ ys l, I [] ys l → K ys l) : CmQ X elt tg cs ks xs l K := by
  have g : ∀ (xs ys : List T) (l : Loc), I xs ys l → CmQ X elt tg cs ks xs l fun a l' => I [] (ys ++ a) l' := by
    intro xs
    induction xs with
    | nil => intro ys l h; exact (by simpa using h : I [] (ys ++ []) l)
    | cons x xs ih =>
      intro ys l h
      unfold CmQ
      rw [compL, w_bind, w_turn]
      have h2 := hs x xs ys l h
      rw [← w_turn] at h2 ⊢
      refine WP.mono h2 fun a l' h3 => ?_
      rw [w_bind]
      refine WP.mono (ih (ys ++ a) l' h3) fun b l'' h4 => ?_
      rw [w_ret, ← List.append_assoc]
      exact h4
  exact WP.mono (g xs [] l h0) fun a l' h => h1 a l' h
theorem cm_pure {elt : E} {tg : Tg} {cs : Es} {ks : List Nat} {K : List T → Loc → Prop} {γ : Type} {enc : γ → T} {as : List γ} (g : γ → List T)
    (hs : ∀ a ∈ as, TnQ X elt tg cs ks (enc a) l fun r l' => r = g a ∧ l' = l) (h1 : K (as.flatMap g) l) : CmQ X elt tg cs ks (as.map enc) l K := by
  have H : ∀ (bs as : List γ), (∀ a ∈ as, TnQ X elt tg cs ks (enc a) l fun r l' => r = g a ∧ l' = l) → CmQ X elt tg cs ks (as.map enc) l fun a l' => a = as.flatMap g ∧ l' = l := by
    intro bs as
    induction as with
    | nil => intro _; exact ⟨rfl, rfl⟩
    | cons a as ih =>
      intro h
      have h2 := h a List.mem_cons_self
      unfold CmQ
      rw [List.map_cons, compL, w_bind]
      rw [← w_turn] at h2
      refine WP.mono h2 fun r l' ⟨e1, e2⟩ => ?_
      subst e1 e2
      rw [w_bind]
      refine WP.mono (ih fun a h3 => h a (List.mem_cons_of_mem _ h3)) fun b l'' ⟨e1, e2⟩ => ?_
      subst e1 e2
      exact ⟨by simp, rfl⟩
  refine WP.mono (H [] as hs) fun a l' ⟨e1, e2⟩ => ?_
  subst e1 e2
  exact h1
theorem cm_map {elt : E} {tg : Tg} {cs : Es} {ks : List Nat} {K : List T → Loc → Prop} {γ : Type} {enc : γ → T} {as : List γ} (g : γ → T)
    (hs : ∀ a ∈ as, TnQ X elt tg cs ks (enc a) l fun r l' => r = [g a] ∧ l' = l) (h1 : K (as.map g) l) : CmQ X elt tg cs ks (as.map enc) l K :=
  cm_pure (fun a => [g a]) hs (by rw [← List.map_eq_flatMap]; exact h1)
/-! two clauses -/
/-- a turn of the outer clause -/
def Tn2Q (X : Cx) (elt : E) (tg : Tg) (cs : Es) (tg1 : Tg) (it1 : It) (cs1 : Es) (ks ks1 : List Nat) (x : T) (l : Loc) (K : List T → Loc → Prop) : Prop :=
  TgQ tg x l fun l => CsQ X cs l fun c l => if c then IQ X it1 l (fun o1 xs1 l1 => fixed l1 o1 = true ∧ CmQ X elt tg1 cs1 ks1 xs1 (wipeL ks1 l1) fun ys l => K ys (wipeL ks l)) else K [] (wipeL ks l)
def turn2M (X : Cx) (elt : E) (tg : Tg) (cs : Es) (tg1 : Tg) (it1 : It) (cs1 : Es) (ks ks1 : List Nat) (x : T) : M (List T) := bind (tg.store x) fun _ => bind (evC X cs) fun c =>
        if c then bind (evI X it1) fun oi1 => fun l1 => if fixed l1 oi1.1 then
          match compL (turnM X elt tg1 cs1 ks1) oi1.2 (wipeL ks1 l1) with
          | some (ys, l) => some (ys, wipeL ks l)
          | none => none
          else none
        else fun l => some ([], wipeL ks l)
theorem w_turn2 {elt : E} {tg : Tg} {cs : Es} {tg1 : Tg} {it1 : It} {cs1 : Es} {ks ks1 : List Nat} {x : T} {K : List T → Loc → Prop} : WP (turn2M X elt tg cs tg1 it1 cs1 ks ks1 x) l K = Tn2Q X elt tg cs tg1 it1 cs1 ks ks1 x l K := by
  unfold turn2M Tn2Q TgQ CsQ IQ CmQ
  simp only [w_bind, w_ite]
  congr; funext _ l
  congr; funext c l
  split
  · congr; funext oi l
    simp only [WP]
    split
    · rename_i h
      simp only [h, true_and]
      rcases compL (turnM X elt tg1 cs1 ks1) oi.2 (wipeL ks1 l) with _ | ⟨_, _⟩ <;> rfl
    · rename_i h; exact propext ⟨False.elim, fun x => h x.1⟩
  · rfl
def Cm2Q (X : Cx) (elt : E) (tg : Tg) (cs : Es) (tg1 : Tg) (it1 : It) (cs1 : Es) (ks ks1 : List Nat) (xs : List T) (l : Loc) (K : List T → Loc → Prop) (_ : Ph K := .mk) : Prop := WP (compL (turn2M X elt tg cs tg1 it1 cs1 ks ks1) xs) l K
theorem e_cmp2 {elt : E} {tg : Tg} {it : It} {cs : Es} {tg1 : Tg} {it1 : It} {cs1 : Es} {ks ks1 : List Nat} : EQ X (.cmp2 elt tg it cs tg1 it1 cs1 ks ks1) l R = IQ X it l fun o xs l0 => Cm2Q X elt tg cs tg1 it1 cs1 ks ks1 xs (wipeL ks (lock o l0)) fun ys l => ys.length ≤ sizeMax ∧ R (.ow (.lst ys)) (unlock l0 o (back0 l0 ks l)) := by
  unfold EQ IQ Cm2Q
  rw [evE, w_bind]
  congr; funext oi l0
  have e : ∀ {o : Option (List T × Loc)} {k : Op}, WR (match o with
    | some (ys, l) => some (Vl.ow (.lst ys), unlock l0 k (back0 l0 ks l))
    | none => none) (fun p => R p.1 p.2) = WR o (fun p => R (.ow (.lst p.1)) (unlock l0 k (back0 l0 ks p.2))) := fun {o k} => by rcases o with _ | ⟨_, _⟩ <;> rfl
  have e2 : ∀ {m : M (List T)} {l : Loc} {K : List T → Loc → Prop}, WP (bind m fun ys => if ys.length ≤ sizeMax then ret ys else fun _ => none) l K = WP m l fun ys l => ys.length ≤ sizeMax ∧ K ys l := fun {m l K} => by
    rw [w_bind]
    congr; funext ys l
    rw [w_ite]
    split
    · rename_i h; simp only [h, true_and]; rfl
    · rename_i h; exact propext ⟨False.elim, fun x => h x.1⟩
  exact e.trans ((e2 (m := compL (turn2M X elt tg cs tg1 it1 cs1 ks ks1) oi.2) (l := wipeL ks (lock oi.1 l0)) (K := fun ys l => R (.ow (.lst ys)) (unlock l0 oi.1 (back0 l0 ks l)))))
theorem cm2_rule {elt : E} {tg : Tg} {cs : Es} {tg1 : Tg} {it1 : It} {cs1 : Es} {ks ks1 : List Nat} {K : List T → Loc → Prop} (I : List T → List T → Loc → Prop) {xs : List T} (h0 : I xs [] l)
    (hs : ∀ x xs ys l, I (x :: xs) ys l → Tn2Q X elt tg cs tg1 it1 cs1 ks ks1 x l fun a l' => I xs (ys ++ a) l') (h1 : ∀ ys l, I [] ys l → K ys l) : Cm2Q X elt tg cs tg1 it1 cs1 ks ks1 xs l K := by
  have g : ∀ (xs ys : List T) (l : Loc), I xs ys l → Cm2Q X elt tg cs tg1 it1 cs1 ks ks1 xs l fun a l' => I [] (ys ++ a) l' := by
    intro xs
    induction xs with
    | nil => intro ys l h; exact (by simpa using h : I [] (ys ++ []) l)
    | cons x xs ih =>
      intro ys l h
      unfold Cm2Q
      rw [compL, w_bind, w_turn2]
      have h2 := hs x xs ys l h
      rw [← w_turn2] at h2 ⊢
      refine WP.mono h2 fun a l' h3 => ?_
      rw [w_bind]
      refine WP.mono (ih (ys ++ a) l' h3) fun b l'' h4 => ?_
      rw [w_ret, ← List.append_assoc]
      exact h4
  exact WP.mono (g xs [] l h0) fun a l' h => h1 a l' h
theorem cm2_pure {elt : E} {tg : Tg} {cs : Es} {tg1 : Tg} {it1 : It} {cs1 : Es} {ks ks1 : List Nat} {K : List T → Loc → Prop} {γ : Type} {enc : γ → T} {as : List γ} (g : γ → List T)
    (hs : ∀ a ∈ as, Tn2Q X elt tg cs tg1 it1 cs1 ks ks1 (enc a) l fun r l' => r = g a ∧ l' = l) (h1 : K (as.flatMap g) l) : Cm2Q X elt tg cs tg1 it1 cs1 ks ks1 (as.map enc) l K := by
  refine cm2_rule (fun xs ys l' => ∃ done rest, done ++ rest = as ∧ xs = rest.map enc ∧ ys = done.flatMap g ∧ l' = l) ⟨[], as, rfl, rfl, rfl, rfl⟩ (fun x xs ys l' => ?_) (fun ys l' => ?_)
  · rintro ⟨done, rest, e1, e2, e3, e4⟩
    cases rest with
    | nil => simp at e2
    | cons a rest =>
      rw [List.map_cons] at e2
      obtain ⟨rfl, rfl⟩ := List.cons.inj e2
      subst e4
      have h := hs a (by rw [← e1]; simp)
      rw [← w_turn2] at h ⊢
      refine WP.mono h fun r l2 ⟨h2, h3⟩ => ?_
      subst h2 h3
      exact ⟨done ++ [a], rest, by simpa using e1, rfl, by rw [e3]; simp, rfl⟩
  · rintro ⟨done, rest, e1, e2, e3, e4⟩
    cases rest with
    | cons a rest => simp at e2
    | nil =>
      simp at e1
      subst e1 e3 e4
      exact h1
/-! statements -/
def SQ (X : Cx) (s : S) (l : Loc) (F : Fl → Loc → Prop) : Prop := WP (evS X s) l F
@[irreducible] def SsQ (X : Cx) (ss : Ss) (l : Loc) (F : Fl → Loc → Prop) : Prop := WP (evSs X ss) l F
def NxQ (K : Loc → Prop) (F : Fl → Loc → Prop) : Fl → Loc → Prop
  | .nx, l => K l
  | f, l => F f l
theorem nx1 {K : Loc → Prop} : NxQ K F .nx l = K l := rfl
theorem nx2 {K : Loc → Prop} {v : Vl} : NxQ K F (.rt v) l = F (.rt v) l := rfl
theorem nx3 {K : Loc → Prop} : NxQ K F .bk l = F .bk l := rfl
theorem nx4 {K : Loc → Prop} : NxQ K F .ct l = F .ct l := rfl
theorem w_seq {a b : M Fl} : WP (seqM a b) l F = WP a l (NxQ (fun l => WP b l F) F) := by
  simp only [WP, seqM]
  rcases a l with _ | ⟨(_ | _ | _ | _), l'⟩ <;> rfl
theorem SsQ.mono {ss : Ss} {F' : Fl → Loc → Prop} (h : SsQ X ss l F) (g : ∀ f l, F f l → F' f l) : SsQ X ss l F' := by
  unfold SsQ at h ⊢; exact WP.mono h g
theorem ss_nil : SsQ X .nil l F = F .nx l := by unfold SsQ; rfl
theorem ss_cons {s : S} {ss : Ss} : SsQ X (.cons s ss) l F = SQ X s l (NxQ (fun l => SsQ X ss l F) F) := by
  unfold SsQ SQ; rw [evSs, w_seq]
theorem s_asg {k : Nat} {e : E} : SQ X (.asg k e) l F = EQ X e l fun v l => SlQ l k (StS (F .nx (l.set k v.sl))) := by
  unfold SQ EQ; rw [evS, w_bind]; simp only [w_bind, w_stV, w_ret]
def MvS (k j : Nat) (l : Loc) (F : Fl → Loc → Prop) : Sl → Prop
  | .fr t => SlQ (l.set j .no) k (StS (F .nx ((l.set j .no).set k (.fr t))))
  | .ow t => SlQ (l.set j .no) k (StS (F .nx ((l.set j .no).set k (.ow t))))
  | _ => False
theorem mvs1 {k j : Nat} {t : T} : MvS k j l F (.fr t) = SlQ (l.set j .no) k (StS (F .nx ((l.set j .no).set k (.fr t)))) := rfl
theorem mvs2 {k j : Nat} {t : T} : MvS k j l F (.ow t) = SlQ (l.set j .no) k (StS (F .nx ((l.set j .no).set k (.ow t)))) := rfl
theorem s_mov {k j : Nat} : SQ X (.mov k j) l F = SlQ l j (MvS k j l F) := by
  have b1 : ∀ {s : Sl} {l : Loc}, WR (bind (stV k s) (fun _ => ret Fl.nx) l) (fun p => F p.1 p.2) = SlQ l k (StS (F .nx (l.set k s))) := fun {s l} => by
    show WP (bind (stV k s) (fun _ => ret Fl.nx)) l F = _
    rw [w_bind, w_stV]
    rfl
  unfold SQ
  rw [evS]
  simp only [WP, movM, SlQ]
  rcases l[j]? with _ | (_ | _ | _ | _ | _) <;> first | rfl | exact b1
/-- what may be taken apart -/
def UnQ (ks : List Nat) : T → Loc → (Loc → Prop) → Prop
  | .tup ts, l, K => ks.length = ts.length ∧ SaQ ks ts l K
  | .lst ts, l, K => ks.length = ts.length ∧ SaQ ks ts l K
  | _, _, _ => False
theorem unq_t {ks : List Nat} {ts : List T} {K : Loc → Prop} : UnQ ks (.tup ts) l K = (ks.length = ts.length ∧ SaQ ks ts l K) := rfl
theorem unq_l {ks : List Nat} {ts : List T} {K : Loc → Prop} : UnQ ks (.lst ts) l K = (ks.length = ts.length ∧ SaQ ks ts l K) := rfl
theorem s_unp {ks : List Nat} {e : E} : SQ X (.unp ks e) l F = OQ X e l fun o l => OpQ l (fun t => UnQ ks t l (F .nx)) o := by
  unfold SQ OQ; rw [evS, unpM, w_bind]
  congr; funext o l
  rw [← tree_q]
  simp only [WP]
  rcases o.tree l with _ | t
  · rfl
  cases t <;> first | rfl | skip
  all_goals
    rename_i ts
    simp only [wr_some, UnQ, wr_ite]
    split
    · rename_i h
      simp only [h, true_and]
      show WP (bind (stAll ks ts) fun _ => ret Fl.nx) l F = _
      rw [w_bind]
      rfl
    · rename_i h; exact propext ⟨False.elim, fun x => h x.1⟩
/-- a, b = x, y, by the operands -/
def ParQ (i j : Nat) (l : Loc) (F : Fl → Loc → Prop) : Op → Op → Prop
  | .vl (.ow t), .vl (.ow u) => SlQ l i (StS (SlQ (l.set i (.ow t)) j (StS (F .nx ((l.set i (.ow t)).set j (.ow u))))))
  | x, y => GvQ l (fun v l => GvQ l (fun w l => SlQ l i (StS (SlQ (l.set i (.fr v)) j (StS (F .nx ((l.set i (.fr v)).set j (.fr w))))))) y) x
theorem parq1 {i j : Nat} {t u : T} : ParQ i j l F (.vl (.ow t)) (.vl (.ow u)) = SlQ l i (StS (SlQ (l.set i (.ow t)) j (StS (F .nx ((l.set i (.ow t)).set j (.ow u)))))) := rfl
theorem parq2 {i j : Nat} {t : T} {y : Op} : ParQ i j l F (.vl (.fr t)) y = GvQ l (fun w l => SlQ l i (StS (SlQ (l.set i (.fr t)) j (StS (F .nx ((l.set i (.fr t)).set j (.fr w))))))) y := rfl
theorem parq3 {i j k : Nat} {y : Op} : ParQ i j l F (.pl k) y = GvQ l (fun v l => GvQ l (fun w l => SlQ l i (StS (SlQ (l.set i (.fr v)) j (StS (F .nx ((l.set i (.fr v)).set j (.fr w))))))) y) (.pl k) := rfl
theorem parq4 {i j : Nat} {t u : T} : ParQ i j l F (.vl (.ow t)) (.vl (.fr u)) = SlQ l i (StS (SlQ (l.set i (.fr t)) j (StS (F .nx ((l.set i (.fr t)).set j (.fr u)))))) := rfl
theorem parq5 {i j k : Nat} {t : T} : ParQ i j l F (.vl (.ow t)) (.pl k) = GvQ l (fun w l => SlQ l i (StS (SlQ (l.set i (.fr t)) j (StS (F .nx ((l.set i (.fr t)).set j (.fr w))))))) (.pl k) := rfl
theorem s_par {i j : Nat} {a b : E} : SQ X (.par i j a b) l F = OQ X a l fun x l => OQ X b l fun y l => ParQ i j l F x y := by
  unfold SQ OQ; rw [evS, parM]; simp only [w_bind]
  congr; funext x l
  congr; funext y l
  rcases x with (t | t) | k <;> rcases y with (u | u) | k' <;> simp only [ParQ, w_bind, w_give, w_stV, w_ret]
theorem s_stk : SQ X .stk l F = False := rfl
def AgS (k : Nat) (p : Pr) (l : Loc) (F : Fl → Loc → Prop) (o : Op) : Sl → Prop
  | .fr t => OpQ l (fun u => WR (prS p [t, u]) fun v => match v with
    | .fr w => augOk p w = true ∧ F .nx (l.set k (.fr w))
    | .ow _ => False) o
  | .ow (.lst xs) => match o with
    | .vl (.ow (.lst ys)) => p = .add ∧ xs.length + ys.length ≤ sizeMax ∧ F .nx (l.set k (.ow (.lst (xs ++ ys))))
    | _ => False
  | _ => False
/-- what op= makes of what stays -/
def AgK (p : Pr) (K : T → Prop) : Vl → Prop
  | .fr w => augOk p w = true ∧ K w
  | .ow _ => False
theorem agk {p : Pr} {K : T → Prop} {w : T} : AgK p K (.fr w) = (augOk p w = true ∧ K w) := rfl
theorem ags1 {k : Nat} {p : Pr} {o : Op} {t : T} : AgS k p l F o (.fr t) = OpQ l (fun u => PQ p [t, u] (AgK p fun w => F .nx (l.set k (.fr w)))) o := by
  unfold AgS PQ AgK; congr
theorem ags2 {k : Nat} {xs ys : List T} : AgS k .add l F (.vl (.ow (.lst ys))) (.ow (.lst xs)) = (xs.length + ys.length ≤ sizeMax ∧ F .nx (l.set k (.ow (.lst (xs ++ ys))))) := by
  simp [AgS]
theorem s_aug {k : Nat} {p : Pr} {e : E} : SQ X (.aug k p e) l F = SlQ l k (RdS fun _ => OQ X e l fun o l => SlQ l k (AgS k p l F o)) := by
  unfold SQ OQ; rw [evS, ← slT_q]
  simp only [WP, augM]
  rcases slT l[k]? with _ | t
  · rfl
  simp only [wr_some]
  show WP (bind _ _) l F = WP (opO e (evE X e)) l (fun o l => SlQ l k (AgS k p l F o))
  rw [w_bind]
  congr; funext o l
  simp only [WP, SlQ]
  rcases hk : l[k]? with _ | (_ | t | t | _ | _) <;> first | rfl | skip
  · simp only [wr_some, ags1]
    rw [← tree_q]
    rcases o.tree l with _ | u
    · rfl
    simp only [wr_some, PQ]
    rcases prS p [t, u] with _ | (w | w)
    · rfl
    · simp only [wr_some, wr_ite, agk]
      split
      · rename_i h
        simp only [h, true_and]
        show WP (bind _ _) l F = _
        rw [w_bind, w_stV]
        simp only [SlQ, hk, wr_some, sts1, w_ret]
      · rename_i h
        exact propext ⟨False.elim, fun x => h x.1⟩
    · rfl
  · simp only [wr_some]
    cases t <;> first | rfl | skip
    rename_i xs
    rcases o with v | _
    · cases v <;> first | rfl | skip
      rename_i t
      cases t <;> first | rfl | skip
      rename_i ys
      simp only [AgS, wr_ite]
      split
      · rename_i h
        obtain ⟨h, h'⟩ := h
        subst h
        simp only [h', true_and]
        show WP (bind _ _) l F = _
        rw [w_bind, w_put]
        simp only [SlQ, hk, wr_some, pts1, w_ret]
      · rename_i h
        have : ¬ (p = .add ∧ xs.length + ys.length ≤ sizeMax ∧ F .nx (l.set k (.ow (.lst (xs ++ ys))))) := fun ⟨a, b, _⟩ => h ⟨a, b⟩
        simp only [this]; rfl
    · rfl
theorem s_exp {e : E} : SQ X (.exp e) l F = EQ X e l fun _ l => F .nx l := by
  unfold SQ EQ; rw [evS, w_bind]; rfl
theorem w_giveE {e : E} {K : T → Loc → Prop} : WP (giveE X e) l K = OQ X e l fun o l => GvQ l K o := by
  unfold giveE OQ; rw [w_bind]; simp only [w_give]
def ApT (l : Loc) (k : Nat) (x : T) (F : Fl → Loc → Prop) : T → Prop
  | .lst xs => xs.length < sizeMax ∧ SlQ l k (PtS l k (.lst (xs ++ [x])) (F .nx))
  | _ => False
theorem apt {k : Nat} {x : T} {xs : List T} : ApT l k x F (.lst xs) = (xs.length < sizeMax ∧ SlQ l k (PtS l k (.lst (xs ++ [x])) (F .nx))) := rfl
theorem s_app {k : Nat} {e : E} : SQ X (.app k e) l F = SlQ l k (OwS fun t => isLst t = true ∧ OQ X e l fun o l => GvQ l (fun x l => SlQ l k (OwS (ApT l k x F))) o) := by
  unfold SQ; rw [evS, appM, w_bind, w_own]
  congr; funext t
  rw [w_ite]
  split
  · rename_i h
    simp only [h, true_and, w_bind, w_giveE, w_own]
    congr; funext o l
    congr; funext x l
    congr; funext t
    cases t <;> first | rfl | skip
    rename_i xs
    simp only [WP, apt, wr_ite]
    split
    · rename_i h
      simp only [h, true_and]
      show WP (bind _ _) l F = _
      rw [w_bind, w_put]
      rfl
    · rename_i h; exact propext ⟨False.elim, fun x => h x.1⟩
  · rename_i h
    exact propext ⟨False.elim, fun x => h x.1⟩
def InsT (l : Loc) (k : Nat) (i : Int) (x : T) (F : Fl → Loc → Prop) : T → Prop
  | .lst xs => (xs.length < sizeMax ∧ 0 ≤ i ∧ i < 2 ^ 62) ∧ SlQ l k (PtS l k (.lst (xs.take i.toNat ++ [x] ++ xs.drop i.toNat)) (F .nx))
  | _ => False
theorem inst {k : Nat} {i : Int} {x : T} {xs : List T} : InsT l k i x F (.lst xs) = ((xs.length < sizeMax ∧ 0 ≤ i ∧ i < 2 ^ 62) ∧ SlQ l k (PtS l k (.lst (xs.take i.toNat ++ [x] ++ xs.drop i.toNat)) (F .nx))) := rfl
theorem s_ins {k : Nat} {i e : E} : SQ X (.ins k i e) l F = SlQ l k (OwS fun t => isLst t = true ∧ EQ X i l fun v l => InQ (fun i => OQ X e l fun o l => GvQ l (fun x l => SlQ l k (OwS (InsT l k i x F))) o) v) := by
  unfold SQ; rw [evS, insM, w_bind, w_own]
  congr; funext t
  rw [w_ite]
  split
  · rename_i h
    simp only [h, true_and, w_bind, w_giveE, w_own, w_intOf]
    unfold EQ
    congr; funext v l
    congr; funext i
    congr; funext o l
    congr; funext x l
    congr; funext t
    cases t <;> first | rfl | skip
    rename_i xs
    simp only [WP, inst, wr_ite]
    split
    · rename_i h
      simp only [h, true_and]
      show WP (bind _ _) l F = _
      rw [w_bind, w_put]
      rfl
    · rename_i h; exact propext ⟨False.elim, fun x => h x.1⟩
  · rename_i h
    exact propext ⟨False.elim, fun x => h x.1⟩
def RvT (l : Loc) (k : Nat) (F : Fl → Loc → Prop) : T → Prop
  | .lst xs => SlQ l k (PtS l k (.lst xs.reverse) (F .nx))
  | _ => False
theorem rvt {k : Nat} {xs : List T} : RvT l k F (.lst xs) = SlQ l k (PtS l k (.lst xs.reverse) (F .nx)) := rfl
theorem s_rev {k : Nat} : SQ X (.rev k) l F = SlQ l k (OwS (RvT l k F)) := by
  unfold SQ; rw [evS, revM, w_bind, w_own]
  congr; funext t
  cases t <;> first | rfl | skip
  rename_i xs
  show WP (bind _ _) l F = _
  rw [w_bind, w_put]
  rfl
def SiT (l : Loc) (k : Nat) (i x : T) (F : Fl → Loc → Prop) : T → Prop
  | .lst xs => match i with
    | .int i => WR (ixN xs.length i) fun j => SlQ l k (PtS l k (.lst (xs.set j x)) (F .nx))
    | _ => False
  | _ => False
theorem sit {k : Nat} {i : Int} {x : T} {xs : List T} : SiT l k (.int i) x F (.lst xs) = WR (ixN xs.length i) fun j => SlQ l k (PtS l k (.lst (xs.set j x)) (F .nx)) := rfl
theorem w_setAt {k : Nat} {i x : T} {K : Unit → Loc → Prop} : WP (setAt k i x) l K = SlQ l k (OwS (SiT l k i x fun _ l => K () l)) := by
  unfold setAt
  rw [w_bind, w_own]
  congr; funext t
  cases t <;> first | rfl | skip
  rename_i xs
  cases i <;> first | rfl | skip
  rename_i i
  simp only [WP, sit]
  rcases ixN xs.length i with _ | j
  · rfl
  · simp only [wr_some]
    exact w_put
theorem sit_F {k : Nat} {i x t : T} : SiT l k i x F t = SiT l k i x (fun _ l => F .nx l) t := by
  cases t <;> rfl
theorem s_seti {k : Nat} {i e : E} : SQ X (.seti k i e) l F = SlQ l k (OwS fun _ => OQ X e l fun o l => GvQ l (fun x l => OQ X i l fun o l => GvQ l (fun i l => SlQ l k (OwS (SiT l k i x F))) o) o) := by
  unfold SQ; rw [evS, setM]
  simp only [w_bind, w_own, w_giveE, w_setAt, w_ret]
  have e : ∀ (l : Loc) (i x : T), SiT l k i x F = SiT l k i x (fun _ l => F .nx l) := fun l i x => by
    funext t; exact sit_F
  simp only [e]
/-- what stays -/
def FrK (p : Pr) (K : T → Prop) : Vl → Prop
  | .fr w => augOk p w = true ∧ K w
  | .ow _ => False
theorem frk {p : Pr} {K : T → Prop} {w : T} : FrK p K (.fr w) = (augOk p w = true ∧ K w) := rfl
def AiT (X : Cx) (k : Nat) (i : Int) (p : Pr) (e : E) (l : Loc) (F : Fl → Loc → Prop) : T → Prop
  | .lst xs => WR (atI xs i) fun old => OQ X e l fun o l => OpQ l (fun u => PQ p [old, u] (FrK p fun w => SlQ l k (OwS (SiT l k (.int i) w F)))) o
  | _ => False
theorem ait {k : Nat} {i : Int} {p : Pr} {e : E} {xs : List T} : AiT X k i p e l F (.lst xs) = WR (atI xs i) fun old => OQ X e l fun o l => OpQ l (fun u => PQ p [old, u] (FrK p fun w => SlQ l k (OwS (SiT l k (.int i) w F)))) o := rfl
theorem s_augi {k : Nat} {i e : E} {p : Pr} : SQ X (.augi k i p e) l F = SlQ l k (OwS fun _ => EQ X i l fun v l => InQ (fun i => SlQ l k (OwS (AiT X k i p e l F))) v) := by
  unfold SQ; rw [evS, augiM]
  simp only [w_bind, w_own, w_intOf]
  congr; funext _
  unfold EQ
  congr; funext v l
  congr; funext i
  congr; funext t
  cases t <;> first | rfl | skip
  rename_i xs
  rw [ait]
  simp only [WP]
  rcases atI xs i with _ | old
  · rfl
  · simp only [wr_some]
    show WP (bind (opO e (evE X e)) _) l F = _
    rw [w_bind]
    unfold OQ
    congr; funext o l
    rw [← tree_q]
    simp only [WP]
    rcases o.tree l with _ | u
    · rfl
    · simp only [wr_some, PQ]
      rcases prS p [old, u] with _ | (w | w)
      · rfl
      · simp only [wr_some, frk, wr_ite]
        split
        · rename_i h
          simp only [h, true_and]
          show WP (bind (setAt k (.int i) w) fun _ => ret Fl.nx) l F = _
          rw [w_bind]
          simp only [w_ret]
          have e2 : SiT l k (T.int i) w (fun _ l => F Fl.nx l) = SiT l k (T.int i) w F := by funext t; exact sit_F.symm
          rw [w_setAt, e2]
        · rename_i h; exact propext ⟨False.elim, fun x => h x.1⟩
      · rfl
theorem s_iff {c : E} {a b : Ss} : SQ X (.iff c a b) l F = EQ X c l fun v l => TrQ (fun d => if d then SsQ X a l F else SsQ X b l F) v := by
  unfold SQ EQ; rw [evS, w_bind]; simp only [w_bind, w_truth, w_ite]; unfold SsQ; rfl
@[irreducible] def ForQ (X : Cx) (tg : Tg) (b : Ss) (fg : List Nat) (xs : List T) (l : Loc) (F : Fl → Loc → Prop) (_ : Ph F := .mk) : Prop := WP (forM tg.store (evSs X b) fg xs) l F
theorem s_for {tg : Tg} {it : It} {b : Ss} {fg : List Nat} : SQ X (.for_ tg it b fg) l F = IQ X it l fun o xs l0 => ForQ X tg b fg xs (forget fg (lock o l0)) fun f l => F f (unlock l0 o l) := by
  unfold SQ IQ ForQ
  rw [evS, forS, w_bind]
  congr; funext oi l0
  simp only [WP]
  rcases forM tg.store (evSs X b) fg oi.2 (forget fg (lock oi.1 l0)) with _ | ⟨_, _⟩ <;> rfl
/-- how a turn of a loop goes on -/
def GoQ (fg : List Nat) (K : Loc → Prop) (F : Fl → Loc → Prop) : Fl → Loc → Prop
  | .nx, l => K (forget fg l)
  | .ct, l => K (forget fg l)
  | .bk, l => F .nx (forget fg l)
  | .rt v, l => F (.rt v) l
theorem go1 {fg : List Nat} {K : Loc → Prop} : GoQ fg K F .nx l = K (forget fg l) := rfl
theorem go2 {fg : List Nat} {K : Loc → Prop} : GoQ fg K F .ct l = K (forget fg l) := rfl
theorem go3 {fg : List Nat} {K : Loc → Prop} : GoQ fg K F .bk l = F .nx (forget fg l) := rfl
theorem go4 {fg : List Nat} {K : Loc → Prop} {v : Vl} : GoQ fg K F (.rt v) l = F (.rt v) l := rfl
theorem for_nil {tg : Tg} {b : Ss} {fg : List Nat} : ForQ X tg b fg [] l F = F .nx l := by unfold ForQ; rfl
theorem for_cons {tg : Tg} {b : Ss} {fg : List Nat} {x : T} {xs : List T} : ForQ X tg b fg (x :: xs) l F = TgQ tg x l fun l => SsQ X b l (GoQ fg (fun l => ForQ X tg b fg xs l F) F) := by
  unfold ForQ TgQ SsQ
  have : WP (bind (tg.store x) fun _ => evSs X b) l (GoQ fg (fun l => WP (forM tg.store (evSs X b) fg xs) l F) F) = WP (tg.store x) l fun _ l => WP (evSs X b) l (GoQ fg (fun l => WP (forM tg.store (evSs X b) fg xs) l F) F) := w_bind
  rw [← this, forM]
  simp only [WP]
  rcases bind (tg.store x) (fun _ => evSs X b) l with _ | ⟨(_ | _ | _ | _), l'⟩ <;> rfl
theorem for_rule {tg : Tg} {b : Ss} {fg : List Nat} (I : List T → Loc → Prop) {xs : List T} (h0 : I xs l)
    (hs : ∀ x xs l, I (x :: xs) l → TgQ tg x l fun l => SsQ X b l (GoQ fg (I xs) F)) (h1 : ∀ l, I [] l → F .nx l) : ForQ X tg b fg xs l F := by
  induction xs generalizing l with
  | nil => rw [for_nil]; exact h1 l h0
  | cons x xs ih =>
    rw [for_cons]
    have h := hs x xs l h0
    refine WP.mono h fun _ l h => ?_
    refine SsQ.mono h fun f l h => ?_
    rcases f with _ | _ | _ | _
    · exact ih h
    · exact h
    · exact h
    · exact ih h
/-- over a list made from others: by place -/
theorem for_at {tg : Tg} {b : Ss} {fg : List Nat} {γ : Type} {enc : γ → T} {as : List γ} (I : List γ → List γ → Loc → Prop) (h0 : I [] as l)
    (hs : ∀ done a rest l, done ++ a :: rest = as → I done (a :: rest) l → TgQ tg (enc a) l fun l => SsQ X b l (GoQ fg (I (done ++ [a]) rest) F)) (h1 : ∀ l, I as [] l → F .nx l) : ForQ X tg b fg (as.map enc) l F := by
  refine for_rule (fun xs l => ∃ done rest, done ++ rest = as ∧ xs = rest.map enc ∧ I done rest l) ⟨[], as, rfl, rfl, h0⟩ (fun x xs l => ?_) (fun l => ?_)
  · rintro ⟨done, rest, e1, e2, i⟩
    cases rest with
    | nil => simp at e2
    | cons a rest =>
      rw [List.map_cons] at e2
      obtain ⟨rfl, rfl⟩ := List.cons.inj e2
      have h := hs done a rest l e1 i
      refine WP.mono h fun _ l h => ?_
      refine SsQ.mono h fun f l h => ?_
      have e3 : done ++ [a] ++ rest = as := by simpa using e1
      rcases f with _ | _ | _ | _
      · exact ⟨_, _, e3, rfl, h⟩
      · exact h
      · exact h
      · exact ⟨_, _, e3, rfl, h⟩
  · rintro ⟨done, rest, e1, e2, i⟩
    cases rest with
    | nil => simp at e1; subst e1; exact h1 l i
    | cons a rest => simp at e2
/-- over a range, by the number -/
theorem for_rng {tg : Tg} {b : Ss} {fg : List Nat} {a c : Int} (I : Int → Loc → Prop) (hac : a ≤ c) (h0 : I a l)
    (hs : ∀ i l, a ≤ i → i < c → I i l → TgQ tg (.int i) l fun l => SsQ X b l (GoQ fg (I (i + 1)) F)) (h1 : ∀ l, I c l → F .nx l) : ForQ X tg b fg ((rangeL a c).map .int) l F := by
  have e : (rangeL a c).map T.int = (List.range (c - a).toNat).map fun (i : Nat) => T.int (a + (i : Int)) := by
    unfold rangeL; rw [List.map_map]; rfl
  rw [e]
  refine for_at (fun done _ l => I (a + done.length) l) (by simpa using h0) (fun done k rest l e i => ?_) (fun l i => ?_)
  · have hk : k = done.length := by
      have := congrArg (fun x => x[done.length]?) e
      simp at this
      obtain ⟨_, h⟩ := List.getElem?_eq_some_iff.mp this.symm
      simpa using h.symm
    have hl : done.length < (c - a).toNat := by
      have := congrArg List.length e
      simp at this
      omega
    subst hk
    have h := hs (a + (done.length : Int)) l (by omega) (by omega) i
    have e2 : a + (done.length : Int) + 1 = a + (((done ++ [done.length]).length : Nat) : Int) := by simp; omega
    rw [e2] at h
    exact h
  · rw [List.length_range] at i
    exact h1 l (by rwa [show a + (((c - a).toNat : Nat) : Int) = c by omega] at i)
/-! while -/
def WhQ (X : Cx) (c : E) (b : Ss) (fg : List Nat) (l : Loc) (F : Fl → Loc → Prop) (_ : Ph F := .mk) : Prop := WR (whileM (bind (evE X c) truth) (evSs X b) fg l) fun p => F p.1 p.2
theorem s_whl {c : E} {b : Ss} {fg : List Nat} : SQ X (.whl c b fg) l F = WhQ X c b fg (forget fg l) F := rfl
theorem wh_step {c : E} {b : Ss} {fg : List Nat} : WhQ X c b fg l F = EQ X c l fun v l => TrQ (fun d => if d then SsQ X b l (GoQ fg (fun l => WhQ X c b fg l F) F) else F .nx l) v := by
  have e : EQ X c l (fun v l => TrQ (fun d => if d then SsQ X b l (GoQ fg (fun l => WhQ X c b fg l F) F) else F .nx l) v) = WP (bind (evE X c) truth) l (fun d l => if d then SsQ X b l (GoQ fg (fun l => WhQ X c b fg l F) F) else F .nx l) := by
    rw [w_bind]; simp only [w_truth]; rfl
  rw [e]
  unfold WhQ
  rw [whileM]
  simp only [WP]
  rcases bind (evE X c) truth l with _ | ⟨(_ | _), l1⟩
  · rfl
  · rfl
  · simp only [wr_some, if_true, SsQ, WP]
    rcases evSs X b l1 with _ | ⟨(_ | _ | _ | _), l2⟩ <;> rfl
theorem wh_rule {c : E} {b : Ss} {fg : List Nat} (I : Nat → Loc → Prop) {n : Nat} (h0 : I n l)
    (hs : ∀ n l, I n l → EQ X c l fun v l => TrQ (fun d => if d then SsQ X b l (GoQ fg (fun l => ∃ m, m < n ∧ I m l) F) else F .nx l) v) : WhQ X c b fg l F := by
  induction n using Nat.strongRecOn generalizing l with
  | ind n ih =>
    rw [wh_step]
    refine WP.mono (hs n l h0) fun v l h => ?_
    rcases v with (_ | d | _ | _ | _ | _ | _ | _) | _ <;> first | exact h | skip
    rw [trq] at h ⊢
    cases d
    · exact h
    · simp only [if_true] at h ⊢
      refine SsQ.mono h fun f l h => ?_
      rcases f with _ | _ | _ | _
      · obtain ⟨m, hm, hi⟩ := h; exact ih m hm hi
      · exact h
      · exact h
      · obtain ⟨m, hm, hi⟩ := h; exact ih m hm hi
theorem s_ret {e : E} : SQ X (.ret e) l F = EQ X e l fun v l => F (.rt v) l := by
  unfold SQ EQ; rw [evS, w_bind]; rfl
def RvS (k : Nat) (l : Loc) (F : Fl → Loc → Prop) : Sl → Prop
  | .fr t => F (.rt (.fr t)) l
  | .ow t => F (.rt (.ow t)) (l.set k .no)
  | _ => False
theorem rvs1 {k : Nat} {t : T} : RvS k l F (.fr t) = F (.rt (.fr t)) l := rfl
theorem rvs2 {k : Nat} {t : T} : RvS k l F (.ow t) = F (.rt (.ow t)) (l.set k .no) := rfl
theorem s_retv {k : Nat} : SQ X (.retv k) l F = SlQ l k (RvS k l F) := by
  unfold SQ; rw [evS]
  simp only [WP, retvM, SlQ]
  rcases l[k]? with _ | (_ | _ | _ | _ | _) <;> rfl
theorem s_retN : SQ X .retN l F = F (.rt (.fr .non)) l := rfl
theorem s_brk : SQ X .brk l F = F .bk l := rfl
theorem s_cnt : SQ X .cnt l F = F .ct l := rfl
theorem s_pas : SQ X .pas l F = F .nx l := rfl
/-! a def -/
def FnQ (bs : List Bool) (K : Vl → List T → Prop) : Fl → Loc → Prop
  | .rt v, l => WR (finals bs l) (K v)
  | .nx, l => WR (finals bs l) (K (.fr .non))
  | _, _ => False
theorem fnq1 {bs : List Bool} {K : Vl → List T → Prop} {v : Vl} : FnQ bs K (.rt v) l = WR (finals bs l) (K v) := rfl
theorem fnq2 {bs : List Bool} {K : Vl → List T → Prop} : FnQ bs K .nx l = WR (finals bs l) (K (.fr .non)) := rfl
theorem fin0 {l : Loc} : finals [] l = some [] := rfl
theorem fin1 {bs : List Bool} {s : Sl} {l : Loc} : finals (false :: bs) (s :: l) = finals bs l := rfl
theorem fin2 {bs : List Bool} {t : T} {l : Loc} : finals (true :: bs) (.rw t :: l) = (finals bs l).map (t :: ·) := rfl
/-- what a call gives -/
@[irreducible] def FQ (P : Pg) (n f : Nat) (ts : List T) (K : Vl → List T → Prop) (_ : Ph K := .mk) : Prop := WR (callT P n f ts) fun p => K p.1 p.2
theorem fq_open {P : Pg} {n f : Nat} {d : Fd} {ts : List T} {K : Vl → List T → Prop} (hd : P.tab[f]? = some d) (hl : d.rw.length = ts.length ∧ ts.length ≤ d.ns)
    (h : SsQ ⟨P.tab, P.glo, callT P n⟩ d.body (start d.rw ts d.ns) (FnQ d.rw K)) : FQ P (n + 1) f ts K := by
  unfold FQ
  rw [callT, hd]
  simp only
  unfold runF
  rw [if_pos hl]
  unfold SsQ WP at h
  revert h
  rcases evSs ⟨P.tab, P.glo, callT P n⟩ d.body (start d.rw ts d.ns) with _ | ⟨f, l⟩ <;> intro h
  · exact h
  · rcases f with _ | _ | _ | _
    · simp only [wr_map]; exact h
    · simp only [wr_map]; exact h
    · exact h
    · exact h
theorem FQ.mono {P : Pg} {n f : Nat} {ts : List T} {K K' : Vl → List T → Prop} (h : FQ P n f ts K) (g : ∀ v fin, K v fin → K' v fin) : FQ P n f ts K' := by
  unfold FQ at h ⊢; exact WR.mono h fun p => g p.1 p.2
theorem FQ.ex {P : Pg} {n f : Nat} {ts : List T} {K : Vl → List T → Prop} (h : FQ P n f ts K) : ∃ v fin, callT P n f ts = some (v, fin) ∧ K v fin := by
  unfold FQ at h
  obtain ⟨⟨v, fin⟩, e, h⟩ := WR.ex h
  exact ⟨v, fin, e, h⟩
theorem fq_eq {P : Pg} {n f : Nat} {ts : List T} {v : Vl} {fin : List T} (h : FQ P n f ts fun r g => r = v ∧ g = fin) {K : Vl → List T → Prop} : FQ P n f ts K = K v fin := by
  obtain ⟨a, b, e, h1, h2⟩ := FQ.ex h
  subst h1 h2
  unfold FQ; rw [e]; rfl
end
end Ir.Wk

set_option Elab.async false
set_option linter.all false
namespace Ir.Wk
section
variable {α β : Type} {X : Cx} {l : Loc} {R : Vl → Loc → Prop} {F : Fl → Loc → Prop} {K : Vl → Prop}
theorem wr_if {c : Prop} [Decidable c] {o : Option α} {K : α → Prop} : WR (if c then o else none) K = (c ∧ WR o K) := by
  split
  · rename_i h; simp only [h, true_and]
  · rename_i h; exact propext ⟨False.elim, fun x => h x.1⟩
/-! operands that are no names -/
theorem o_con {t : T} {K : Op → Loc → Prop} : OQ X (.con t) l K = K (.vl (.fr t)) l := by rw [o_e (by intro k h; cases h), e_con]
theorem o_glo {g : Nat} {K : Op → Loc → Prop} : OQ X (.glo g) l K = EQ X (.glo g) l fun v l => K (.vl v) l := o_e (by intro k h; cases h)
theorem o_pr {p : Pr} {as : Es} {K : Op → Loc → Prop} : OQ X (.pr p as) l K = EQ X (.pr p as) l fun v l => K (.vl v) l := o_e (by intro k h; cases h)
theorem o_tup {as : Es} {K : Op → Loc → Prop} : OQ X (.tup as) l K = EQ X (.tup as) l fun v l => K (.vl v) l := o_e (by intro k h; cases h)
theorem o_lst {as : Es} {K : Op → Loc → Prop} : OQ X (.lst as) l K = EQ X (.lst as) l fun v l => K (.vl v) l := o_e (by intro k h; cases h)
theorem o_and {a b : E} {K : Op → Loc → Prop} : OQ X (.and a b) l K = EQ X (.and a b) l fun v l => K (.vl v) l := o_e (by intro k h; cases h)
theorem o_or {a b : E} {K : Op → Loc → Prop} : OQ X (.or a b) l K = EQ X (.or a b) l fun v l => K (.vl v) l := o_e (by intro k h; cases h)
theorem o_not {a : E} {K : Op → Loc → Prop} : OQ X (.not a) l K = EQ X (.not a) l fun v l => K (.vl v) l := o_e (by intro k h; cases h)
theorem o_ite {a b c : E} {K : Op → Loc → Prop} : OQ X (.ite a b c) l K = EQ X (.ite a b c) l fun v l => K (.vl v) l := o_e (by intro k h; cases h)
theorem o_chn {p q : Pr} {a b c : E} {K : Op → Loc → Prop} : OQ X (.chn p q a b c) l K = EQ X (.chn p q a b c) l fun v l => K (.vl v) l := o_e (by intro k h; cases h)
theorem o_call {f : Nat} {z : Bool} {as : Es} {K : Op → Loc → Prop} : OQ X (.call f z as) l K = EQ X (.call f z as) l fun v l => K (.vl v) l := o_e (by intro k h; cases h)
theorem o_pop {k : Nat} {K : Op → Loc → Prop} : OQ X (.pop k) l K = EQ X (.pop k) l fun v l => K (.vl v) l := o_e (by intro k h; cases h)
theorem o_popAt {k : Nat} {e : E} {K : Op → Loc → Prop} : OQ X (.popAt k e) l K = EQ X (.popAt k e) l fun v l => K (.vl v) l := o_e (by intro k h; cases h)
theorem o_sl {a b c : E} {K : Op → Loc → Prop} : OQ X (.sl a b c) l K = EQ X (.sl a b c) l fun v l => K (.vl v) l := o_e (by intro k h; cases h)
theorem o_count {a : E} {b : List Nat} {K : Op → Loc → Prop} : OQ X (.count a b) l K = EQ X (.count a b) l fun v l => K (.vl v) l := o_e (by intro k h; cases h)
theorem o_index {a b : E} {K : Op → Loc → Prop} : OQ X (.index a b) l K = EQ X (.index a b) l fun v l => K (.vl v) l := o_e (by intro k h; cases h)
theorem o_join {s : List Nat} {b : E} {K : Op → Loc → Prop} : OQ X (.join s b) l K = EQ X (.join s b) l fun v l => K (.vl v) l := o_e (by intro k h; cases h)
theorem o_cmp {a : E} {tg : Tg} {it : It} {cs : Es} {ks : List Nat} {K : Op → Loc → Prop} : OQ X (.cmp a tg it cs ks) l K = EQ X (.cmp a tg it cs ks) l fun v l => K (.vl v) l := o_e (by intro k h; cases h)
theorem o_cmp2 {a : E} {tg : Tg} {it : It} {cs : Es} {tg1 : Tg} {it1 : It} {cs1 : Es} {ks ks1 : List Nat} {K : Op → Loc → Prop} : OQ X (.cmp2 a tg it cs tg1 it1 cs1 ks ks1) l K = EQ X (.cmp2 a tg it cs tg1 it1 cs1 ks ks1) l fun v l => K (.vl v) l := o_e (by intro k h; cases h)
theorem o_dget {k1 v1 k2 v2 : List Nat} {a b : E} {K : Op → Loc → Prop} : OQ X (.dget k1 v1 k2 v2 a b) l K = EQ X (.dget k1 v1 k2 v2 a b) l fun v l => K (.vl v) l := o_e (by intro k h; cases h)
/-! calls -/
theorem cq_t {P : Pg} {n f : Nat} {bs : List Bool} {os : List Op} : CQ (callT P n f) bs true os l R = ((nodupB (lents bs os) && !(shown bs os).any (lents bs os).contains) = true ∧
    LQ (freeze (shown bs os) l) bs os fun ts => FQ P n f ts fun v fin => ((owned (freeze (shown bs os) l) (shown bs os)).isEmpty || (v.clear && fin.all clearT)) = true ∧ BQ bs os fin (freeze (shown bs os) l) fun l' => R v l') := by
  unfold FQ; rfl
theorem cq_f {P : Pg} {n f : Nat} {bs : List Bool} {os : List Op} : CQ (callT P n f) bs false os l R = ((nodupB (lents bs os) && !(shown bs os).any (lents bs os).contains) = true ∧
    LQ l bs os fun ts => FQ P n f ts fun v fin => ((owned l (shown bs os)).isEmpty || (v.clear && fin.all clearT)) = true ∧ BQ bs os fin l fun l' => R v l') := by
  unfold FQ; rfl
/-! primitives -/
theorem p_add {a b : Int} : PQ .add [.int a, .int b] K = K (.fr (.int (a + b))) := rfl
theorem p_add_s {a b : List Nat} : PQ .add [.str a, .str b] K = (a.length + b.length ≤ sizeMax ∧ K (.fr (.str (a ++ b)))) := by simp only [PQ, prS, prAdd, wr_if, wr_some]
theorem p_add_t {a b : List T} : PQ .add [.tup a, .tup b] K = (a.length + b.length ≤ sizeMax ∧ K (.fr (.tup (a ++ b)))) := by simp only [PQ, prS, prAdd, wr_if, wr_some]
theorem p_add_l {a b : List T} : PQ .add [.lst a, .lst b] K = (a.length + b.length ≤ sizeMax ∧ K (.ow (.lst (a ++ b)))) := by simp only [PQ, prS, prAdd, wr_if, wr_some]
theorem p_sub {a b : Int} : PQ .sub [.int a, .int b] K = K (.fr (.int (a - b))) := rfl
theorem p_mul {a b : Int} : PQ .mul [.int a, .int b] K = (mulOk a b = true ∧ K (.fr (.int (a * b)))) := by simp only [PQ, prS, prMul, wr_if, wr_some]
theorem p_mul_s {a : List Nat} {b : Int} : PQ .mul [.str a, .int b] K = ((a.length * b.toNat ≤ sizeMax ∧ small b = true) ∧ K (.fr (.str (List.replicate b.toNat a).flatten))) := by simp only [PQ, prS, prMul, wr_if, wr_some]
theorem p_mul_l {a : List T} {b : Int} : PQ .mul [.lst a, .int b] K = ((a.length * b.toNat ≤ sizeMax ∧ small b = true) ∧ K (.ow (.lst (List.replicate b.toNat a).flatten))) := by simp only [PQ, prS, prMul, wr_if, wr_some]
theorem p_mul_t {a : List T} {b : Int} : PQ .mul [.tup a, .int b] K = (((0 < a.length ∧ a.length ≤ 1000) ∧ (1 ≤ b ∧ b ≤ 1000)) ∧ K (.fr (.tup (List.replicate b.toNat a).flatten))) := by simp only [PQ, prS, prMul, wr_if, wr_some]
theorem p_fdv {a b : Int} : PQ .fdv [.int a, .int b] K = ((0 < b ∧ b.natAbs.log2 < 9000) ∧ K (.fr (.int (a / b)))) := by simp only [PQ, prS, prFdv, wr_if, wr_some]
theorem p_mod {a b : Int} : PQ .mod [.int a, .int b] K = (0 < b ∧ K (.fr (.int (a % b)))) := by simp only [PQ, prS, prMod, wr_if, wr_some]
theorem p_pow {a b : Int} : PQ .pow [.int a, .int b] K = ((0 ≤ b ∧ b ≤ 1000 ∧ a.natAbs < 2 ^ 64) ∧ K (.fr (.int (a ^ b.toNat)))) := by simp only [PQ, prS, prPow, wr_if, wr_some]
theorem p_neg {a : Int} : PQ .neg [.int a] K = K (.fr (.int (-a))) := rfl
theorem p_abs {a : Int} : PQ .abs [.int a] K = K (.fr (.int (if a < 0 then -a else a))) := rfl
theorem p_eq {a b : Int} : PQ .eq [.int a, .int b] K = K (.fr (.bl (decide (a = b)))) := by
  simp only [PQ, prS, prEq, eqOk, T.flat, Bool.and_self, Bool.or_true, if_true, bool, wr_some, eqv, Bool.false_bne]
  rfl
theorem p_ne {a b : Int} : PQ .ne [.int a, .int b] K = K (.fr (.bl (decide (a ≠ b)))) := by
  simp only [PQ, prS, prEq, eqOk, T.flat, Bool.and_self, Bool.or_true, if_true, bool, wr_some, eqv, Bool.true_bne, decide_not]
  rfl
theorem p_eq_b {a b : Bool} : PQ .eq [.bl a, .bl b] K = K (.fr (.bl (a == b))) := by
  simp only [PQ, prS, prEq, eqOk, T.flat, Bool.and_self, Bool.or_true, if_true, bool, wr_some, eqv, Bool.false_bne]
theorem p_ne_b {a b : Bool} : PQ .ne [.bl a, .bl b] K = K (.fr (.bl (!(a == b)))) := by
  simp only [PQ, prS, prEq, eqOk, T.flat, Bool.and_self, Bool.or_true, if_true, bool, wr_some, eqv, Bool.true_bne]
theorem p_eq_s {a b : List Nat} : PQ .eq [.str a, .str b] K = K (.fr (.bl (decide (a = b)))) := by
  simp only [PQ, prS, prEq, eqOk, T.flat, Bool.and_self, Bool.or_true, if_true, bool, wr_some, eqv, Bool.false_bne]
  congr; exact Bool.eq_iff_iff.mpr (by simp)
theorem p_ne_s {a b : List Nat} : PQ .ne [.str a, .str b] K = K (.fr (.bl (decide (a ≠ b)))) := by
  simp only [PQ, prS, prEq, eqOk, T.flat, Bool.and_self, Bool.or_true, if_true, bool, wr_some, eqv, Bool.true_bne]
  congr; exact Bool.eq_iff_iff.mpr (by simp)
theorem p_eq_t {a b : List T} : PQ .eq [.tup a, .tup b] K = (eqOk (.tup a) (.tup b) = true ∧ K (.fr (.bl (eqvs a b)))) := by
  simp only [PQ, prS, prEq, wr_if, bool, wr_some, eqv, Bool.false_bne]
theorem p_ne_t {a b : List T} : PQ .ne [.tup a, .tup b] K = (eqOk (.tup a) (.tup b) = true ∧ K (.fr (.bl (!eqvs a b)))) := by
  simp only [PQ, prS, prEq, wr_if, bool, wr_some, eqv, Bool.true_bne]
theorem p_eq_l {a b : List T} : PQ .eq [.lst a, .lst b] K = (eqOk (.lst a) (.lst b) = true ∧ K (.fr (.bl (eqvs a b)))) := by
  simp only [PQ, prS, prEq, wr_if, bool, wr_some, eqv, Bool.false_bne]
theorem p_ne_l {a b : List T} : PQ .ne [.lst a, .lst b] K = (eqOk (.lst a) (.lst b) = true ∧ K (.fr (.bl (!eqvs a b)))) := by
  simp only [PQ, prS, prEq, wr_if, bool, wr_some, eqv, Bool.true_bne]
theorem p_lt {a b : Int} : PQ .lt [.int a, .int b] K = K (.fr (.bl (decide (a < b)))) := rfl
theorem p_le {a b : Int} : PQ .le [.int a, .int b] K = K (.fr (.bl (decide (a ≤ b)))) := rfl
theorem p_gt {a b : Int} : PQ .gt [.int a, .int b] K = K (.fr (.bl (decide (b < a)))) := rfl
theorem p_ge {a b : Int} : PQ .ge [.int a, .int b] K = K (.fr (.bl (decide (b ≤ a)))) := rfl
theorem p_isN {a : T} : PQ .isN [a] K = K (.fr (.bl (isNon a))) := rfl
theorem p_notN {a : T} : PQ .notN [a] K = K (.fr (.bl (!isNon a))) := rfl
theorem p_isi {f : T → Bool} {a : T} : WR (prIsi f [a]) K = (isDc a = false ∧ K (.fr (.bl (f a)))) := by
  show WR (if isDc a = true then none else bool (f a)) K = _
  cases h : isDc a with
  | true => exact propext ⟨False.elim, fun z => by cases z.1⟩
  | false => exact propext ⟨fun z => ⟨rfl, z⟩, fun z => z.2⟩
theorem isDc_non : isDc .non = false := rfl
theorem isDc_bl {b : Bool} : isDc (.bl b) = false := rfl
theorem isDc_int {b : Int} : isDc (.int b) = false := rfl
theorem isDc_str {b : List Nat} : isDc (.str b) = false := rfl
theorem isDc_tup {b : List T} : isDc (.tup b) = false := rfl
theorem isDc_lst {b : List T} : isDc (.lst b) = false := rfl
theorem p_isB {a : T} : PQ .isB [a] K = (isDc a = false ∧ K (.fr (.bl (isBl a)))) := p_isi
theorem p_isI {a : T} : PQ .isI [a] K = (isDc a = false ∧ K (.fr (.bl (isIn a)))) := p_isi
theorem p_isS {a : T} : PQ .isS [a] K = (isDc a = false ∧ K (.fr (.bl (isSt a)))) := p_isi
theorem p_isT {a : T} : PQ .isT [a] K = (isDc a = false ∧ K (.fr (.bl (isTu a)))) := p_isi
theorem p_len {xs : List T} : PQ .len [.lst xs] K = K (.fr (.int xs.length)) := rfl
theorem p_len_t {xs : List T} : PQ .len [.tup xs] K = K (.fr (.int xs.length)) := rfl
theorem p_len_s {xs : List Nat} : PQ .len [.str xs] K = (xs.length ≤ sizeMax ∧ K (.fr (.int xs.length))) := by simp only [PQ, prS, prLen, wr_if, wr_some]
theorem p_idx {xs : List T} {i : Int} : PQ .idx [.lst xs, .int i] K = WR (atI xs i) fun x => K (.fr x) := by simp only [PQ, prS, prIdx, wr_map]
theorem p_idx_t {xs : List T} {i : Int} : PQ .idx [.tup xs, .int i] K = WR (atI xs i) fun x => K (.fr x) := by simp only [PQ, prS, prIdx, wr_map]
theorem p_idx_s {xs : List Nat} {i : Int} : PQ .idx [.str xs, .int i] K = (xs.length ≤ sizeMax ∧ WR (atI xs i) fun x => K (.fr (.str [x]))) := by simp only [PQ, prS, prIdx, wr_if, wr_map]
theorem p_int {a : Int} : PQ .int [.int a] K = K (.fr (.int a)) := rfl
theorem p_int_b {b : Bool} : PQ .int [.bl b] K = K (.fr (.int (if b then 1 else 0))) := rfl
theorem p_tuple {xs : List T} : PQ .tuple [.lst xs] K = K (.fr (.tup xs)) := rfl
theorem p_tuple_t {xs : List T} : PQ .tuple [.tup xs] K = K (.fr (.tup xs)) := rfl
theorem p_list {xs : List T} : PQ .list [.lst xs] K = K (.ow (.lst xs)) := rfl
theorem p_list_t {xs : List T} : PQ .list [.tup xs] K = K (.ow (.lst xs)) := rfl
theorem ints_map {ls : List Int} : T.ints (ls.map .int) = some ls := by
  induction ls with
  | nil => rfl
  | cons a r ih => simp only [List.map_cons, T.ints, ih]
theorem bls_map {ls : List Bool} : T.bls (ls.map .bl) = some ls := by
  induction ls with
  | nil => rfl
  | cons a r ih => simp only [List.map_cons, T.bls, ih]
theorem strs_map {ls : List (List Nat)} : T.strs (ls.map .str) = some ls := by
  induction ls with
  | nil => rfl
  | cons a r ih => simp only [List.map_cons, T.strs, ih]
theorem p_sum {ls : List Int} : PQ .sum [.lst (ls.map .int)] K = K (.fr (.int ls.sum)) := by simp only [PQ, prS, onInts, Bool.true_or, if_true, T.items, ints_map, wr_some]
theorem p_sum_t {ls : List Int} : PQ .sum [.tup (ls.map .int)] K = K (.fr (.int ls.sum)) := by simp only [PQ, prS, onInts, Bool.true_or, if_true, T.items, ints_map, wr_some]
theorem prMin1_eq {x : T} {ls : List Int} (h : onInts true (fun is => (minL is).map fun m => Vl.fr (.int m)) [x] = (minL ls).map fun m => Vl.fr (.int m)) (h0 : ls = [] → prMinT [x] = none) : prMin1 [x] = (minL ls).map fun m => Vl.fr (.int m) := by
  unfold prMin1
  rw [h]
  cases ls with
  | nil => exact h0 rfl
  | cons a r =>
    have : ∃ m, minL (a :: r) = some m := by
      clear h h0
      induction r generalizing a with
      | nil => exact ⟨a, rfl⟩
      | cons b r ih =>
        obtain ⟨m, hm⟩ := ih b
        exact ⟨if m < a then m else a, by simp only [minL, hm]⟩
    obtain ⟨m, hm⟩ := this
    rw [hm]; rfl
theorem p_min1 {ls : List Int} : PQ .min1 [.lst (ls.map .int)] K = WR (minL ls) fun m => K (.fr (.int m)) := by
  have e := prMin1_eq (x := .lst (ls.map .int)) (ls := ls) (by simp only [onInts, Bool.true_or, if_true, T.items, ints_map]) (fun h => by subst h; rfl)
  simp only [PQ, prS, e, wr_map]
theorem p_max1 {ls : List Int} : PQ .max1 [.lst (ls.map .int)] K = WR (maxL ls) fun m => K (.fr (.int m)) := by simp only [PQ, prS, onInts, Bool.true_or, if_true, T.items, ints_map, wr_map]
theorem p_min1_t {ls : List Int} : PQ .min1 [.tup (ls.map .int)] K = WR (minL ls) fun m => K (.fr (.int m)) := by
  have e := prMin1_eq (x := .tup (ls.map .int)) (ls := ls) (by simp only [onInts, Bool.true_or, if_true, T.items, ints_map]) (fun h => by subst h; rfl)
  simp only [PQ, prS, e, wr_map]
theorem tps_map {ls : List (List Int)} : T.tps (ls.map fun is => T.tup (is.map .int)) = some ls := by
  induction ls with
  | nil => rfl
  | cons a r ih => simp only [List.map_cons, T.tps, ints_map, ih]
theorem p_min1_p {l : List Int} {ls : List (List Int)} : PQ .min1 [.lst ((l :: ls).map fun is => T.tup (is.map .int))] K = K (.fr (.tup ((minT l ls).map .int))) := by
  have e := tps_map (ls := l :: ls)
  have e2 : onInts true (fun is => (minL is).map fun m => Vl.fr (.int m)) [.lst ((l :: ls).map fun is => T.tup (is.map .int))] = none := rfl
  simp only [PQ, prS, prMin1, e2, prMinT, e, wr_some]
theorem p_max1_t {ls : List Int} : PQ .max1 [.tup (ls.map .int)] K = WR (maxL ls) fun m => K (.fr (.int m)) := by simp only [PQ, prS, onInts, Bool.true_or, if_true, T.items, ints_map, wr_map]
theorem p_sorted {ls : List Int} : PQ .sorted [.lst (ls.map .int)] K = K (.ow (.lst ((ls.mergeSort leI).map .int))) := by simp only [PQ, prS, prSorted, ints_map, wr_some]
theorem p_sorted_s {ss : List (List Nat)} : PQ .sorted [.lst (ss.map .str)] K = K (.ow (.lst ((ss.mergeSort leS).map .str))) := by
  cases ss with
  | nil => simp [PQ, prS, prSorted, T.ints, wr_some]
  | cons s ss =>
    simp only [PQ, prS, prSorted, List.map_cons, T.ints]
    rw [show T.str s :: ss.map T.str = (s :: ss).map T.str from rfl, strs_map]
    rfl
theorem p_sorted_d {ls : List Int} {vs : List T} : PQ .sorted [.dct false (ls.map .int) vs] K = K (.ow (.lst ((ls.mergeSort leI).map .int))) := by simp only [PQ, prS, prSorted, ints_map, wr_some]
theorem p_sorted_t {ls : List Int} : PQ .sorted [.tup (ls.map .int)] K = K (.ow (.lst ((ls.mergeSort leI).map .int))) := by simp only [PQ, prS, prSorted, ints_map, wr_some]
theorem prs_map {ls : List (Int × Int)} : T.prs (ls.map prT) = some ls := by
  induction ls with
  | nil => rfl
  | cons a r ih => simp only [List.map_cons, T.prs, prT, ih]
theorem p_sorted_p {ls : List (Int × Int)} : PQ .sorted [.lst (ls.map prT)] K = K (.ow (.lst ((ls.mergeSort leP).map prT))) := by
  cases ls with
  | nil => simp [PQ, prS, prSorted, T.ints, wr_some]
  | cons s ss =>
    have e := prs_map (ls := s :: ss)
    simp only [List.map_cons, prT] at e
    simp only [PQ, prS, prSorted, List.map_cons, T.ints, T.strs, prT, e, wr_some]
theorem prs_tps : ∀ {ls : List (List Int)} {ps : List (Int × Int)}, T.prs (ls.map fun is => T.tup (is.map .int)) = some ps → ls = ps.map fun p => [p.1, p.2]
  | [], ps, e => by cases e; rfl
  | [] :: r, ps, e => by cases e
  | [a] :: r, ps, e => by cases e
  | [a, b] :: r, ps, e => by
    have e : (match T.prs (r.map fun is => T.tup (is.map .int)) with
      | some qs => some ((a, b) :: qs)
      | none => none) = some ps := e
    split at e
    · rename_i qs h
      cases e
      rw [List.map_cons, ← prs_tps h]
    · cases e
  | (a :: b :: c :: d) :: r, ps, e => by cases e
theorem tps0_map : ∀ {ls : List (List Int)}, (∀ l ∈ ls, l ≠ []) → T.tps0 (ls.map fun is => T.tup (is.map .int)) = some ls
  | [], _ => rfl
  | a :: r, h => by
    have ha := h a List.mem_cons_self
    simp only [List.map_cons, T.tps0, ints_map, tps0_map fun l hl => h l (List.mem_cons_of_mem _ hl), if_neg ha]
theorem leL_pair {a b : Int × Int} : leP a b = leL [a.1, a.2] [b.1, b.2] := by
  unfold leP leL
  rw [Bool.eq_iff_iff]
  simp only [Bool.or_eq_true, Bool.and_eq_true, decide_eq_true_eq, List.cons_le_cons_iff, List.nil_le, and_true]
  omega
theorem p_sorted_l {ls : List (List Int)} (h : ∀ l ∈ ls, l ≠ []) : PQ .sorted [.lst (ls.map fun is => T.tup (is.map .int))] K = K (.ow (.lst ((ls.mergeSort leL).map fun is => T.tup (is.map .int)))) := by
  cases ls with
  | nil => simp [PQ, prS, prSorted, T.ints, wr_some]
  | cons s ss =>
    have e0 := tps0_map h
    simp only [PQ, prS, prSorted]
    have e1 : T.ints ((s :: ss).map fun is => T.tup (is.map .int)) = none := rfl
    have e2 : T.strs ((s :: ss).map fun is => T.tup (is.map .int)) = none := rfl
    rw [e1, e2]
    simp only
    cases e : T.prs ((s :: ss).map fun is => T.tup (is.map .int)) with
    | none => simp only [e0, wr_some]
    | some ps =>
      simp only [wr_some]
      rw [prs_tps e, ← List.map_mergeSort (r := leP) (fun a _ b _ => leL_pair), List.map_map]
      rfl
theorem insU_len {z : Int} : ∀ {r : List Int}, (insU z r).length ≤ r.length + 1
  | [] => Nat.le_refl _
  | y :: r => by
    unfold insU
    split
    · exact Nat.le_refl _
    · split
      · exact Nat.le_succ _
      · exact Nat.succ_le_succ insU_len
/-- a set has no more members than the list it is made of -/
theorem srtU_len : ∀ {ls : List Int}, (srtU ls).length ≤ ls.length
  | [] => Nat.le_refl _
  | z :: r => Nat.le_trans (insU_len (z := z) (r := srtU r)) (Nat.succ_le_succ srtU_len)
theorem p_sset {ls : List Int} : PQ .sset [.lst (ls.map .int)] K = ((srtU ls).length ≤ 4000 ∧ K (.ow (.lst ((srtU ls).map .int)))) := by simp only [PQ, prS, prSset, prSetI, ints_map, wr_if, wr_some]
theorem p_sset_t {ls : List Int} : PQ .sset [.tup (ls.map .int)] K = (ls.length ≤ 4000 ∧ K (.ow (.lst ((srtU ls).map .int)))) := by simp only [PQ, prS, prSset, prSetI, ints_map, wr_if, wr_some]
theorem p_lset {ls : List Int} : PQ .lset [.lst (ls.map .int)] K = ((srtU ls).length ≤ 4000 ∧ K (.fr (.int ((srtU ls).length : Int)))) := by simp only [PQ, prS, prLset, prSetI, ints_map, wr_if, wr_some]
theorem p_lset_t {ls : List Int} : PQ .lset [.tup (ls.map .int)] K = (ls.length ≤ 4000 ∧ K (.fr (.int ((srtU ls).length : Int)))) := by simp only [PQ, prS, prLset, prSetI, ints_map, wr_if, wr_some]
theorem p_shl {a b : Int} : PQ .shl [.int a, .int b] K = ((0 ≤ b ∧ b ≤ 1000 ∧ a.natAbs.log2 ≤ 1000000) ∧ K (.fr (.int (a * 2 ^ b.toNat)))) := by simp only [PQ, prS, prShl, wr_if, wr_some]
theorem p_shr {a b : Int} : PQ .shr [.int a, .int b] K = (0 ≤ b ∧ K (.fr (.int (a / 2 ^ b.toNat)))) := by simp only [PQ, prS, prShr, wr_if, wr_some]
theorem p_band {a b : Int} : PQ .band [.int a, .int b] K = ((0 ≤ a ∧ 0 ≤ b) ∧ K (.fr (.int ((a.toNat &&& b.toNat : Nat) : Int)))) := by simp only [PQ, prS, prBand, wr_if, wr_some]
theorem p_bor {a b : Int} : PQ .bor [.int a, .int b] K = ((0 ≤ a ∧ 0 ≤ b) ∧ K (.fr (.int ((a.toNat ||| b.toNat : Nat) : Int)))) := by simp only [PQ, prS, prBor, wr_if, wr_some]
theorem p_min3 {a b c : Int} : PQ .min3 [.int a, .int b, .int c] K = K (.fr (.int (if c < (if b < a then b else a) then c else (if b < a then b else a)))) := rfl
theorem p_min2 {a b : Int} : PQ .min2 [.int a, .int b] K = K (.fr (.int (if b < a then b else a))) := rfl
theorem p_max2 {a b : Int} : PQ .max2 [.int a, .int b] K = K (.fr (.int (if b > a then b else a))) := rfl
theorem p_all {bs : List Bool} : PQ .all [.lst (bs.map .bl)] K = K (.fr (.bl (bs.all id))) := by simp only [PQ, prS, onBls, bls_map, bool, wr_some]
theorem p_any {bs : List Bool} : PQ .any [.lst (bs.map .bl)] K = K (.fr (.bl (bs.any id))) := by simp only [PQ, prS, onBls, bls_map, bool, wr_some]
theorem p_sl00 {x : T} : PQ (.sl false false) [x] K = WR (prCut none none x) K := rfl
theorem p_sl10 {x : T} {a : Int} : PQ (.sl true false) [x, .int a] K = WR (prCut (some a) none x) K := rfl
theorem p_sl01 {x : T} {b : Int} : PQ (.sl false true) [x, .int b] K = WR (prCut none (some b) x) K := rfl
theorem p_sl11 {x : T} {a b : Int} : PQ (.sl true true) [x, .int a, .int b] K = WR (prCut (some a) (some b) x) K := rfl
theorem c_l {xs : List T} {a b : Option Int} : WR (prCut a b (.lst xs)) K = K (.ow (.lst (cut xs a b))) := rfl
theorem c_t {xs : List T} {a b : Option Int} : WR (prCut a b (.tup xs)) K = K (.fr (.tup (cut xs a b))) := rfl
theorem c_s {xs : List Nat} {a b : Option Int} : WR (prCut a b (.str xs)) K = (xs.length ≤ sizeMax ∧ K (.fr (.str (cut xs a b)))) := by simp only [prCut, wr_if, wr_some]
theorem p_rev {xs : List T} : PQ .rev [.lst xs] K = K (.ow (.lst xs.reverse)) := rfl
theorem p_rev_t {xs : List T} : PQ .rev [.tup xs] K = K (.fr (.tup xs.reverse)) := rfl
theorem p_rev_s {xs : List Nat} : PQ .rev [.str xs] K = (xs.length ≤ sizeMax ∧ K (.fr (.str xs.reverse))) := by simp only [PQ, prS, prRev, wr_if, wr_some]
theorem p_ev {xs : List T} : PQ .ev [.lst xs] K = K (.ow (.lst (ev2 xs))) := rfl
theorem p_ev_t {xs : List T} : PQ .ev [.tup xs] K = K (.fr (.tup (ev2 xs))) := rfl
theorem p_ev_s {xs : List Nat} : PQ .ev [.str xs] K = (xs.length ≤ sizeMax ∧ K (.fr (.str (ev2 xs)))) := by simp only [PQ, prS, prEv, wr_if, wr_some, List.drop_zero]
theorem p_od {xs : List T} : PQ .od [.lst xs] K = K (.ow (.lst (ev2 (xs.drop 1)))) := rfl
theorem p_od_t {xs : List T} : PQ .od [.tup xs] K = K (.fr (.tup (ev2 (xs.drop 1)))) := rfl
theorem p_od_s {xs : List Nat} : PQ .od [.str xs] K = (xs.length ≤ sizeMax ∧ K (.fr (.str (ev2 (xs.drop 1))))) := by simp only [PQ, prS, prEv, wr_if, wr_some]
theorem p_join {s : List Nat} {ss : List (List Nat)} : PQ .join [.str s, .lst (ss.map .str)] K = ((ss.map List.length).sum + ss.length * s.length ≤ sizeMax ∧ K (.fr (.str (joinS s ss)))) := by
  simp only [PQ, prS, prJoin, T.items, strs_map, wr_if, wr_some]
theorem p_count {s : List Nat} {c : Nat} : PQ .count [.str s, .str [c]] K = (s.length ≤ sizeMax ∧ K (.fr (.int (s.count c : Nat)))) := by simp only [PQ, prS, prCount, wr_if, wr_some]
theorem p_trng1 {b : Int} : PQ .trng1 [.int b] K = ((small b && decide (b ≤ sizeMax)) = true ∧ K (.fr (.tup ((rangeL 0 b).map .int)))) := by simp only [PQ, prS, prTrng1, wr_if, wr_some]
theorem p_trng2 {a b : Int} : PQ .trng2 [.int a, .int b] K = ((small a && small b && decide (b - a ≤ sizeMax)) = true ∧ K (.fr (.tup ((rangeL a b).map .int)))) := by simp only [PQ, prS, prTrng2, wr_if, wr_some]
theorem p_trng3 {a b c : Int} : PQ .trng3 [.int a, .int b, .int c] K = (((0 ≤ a ∧ a ≤ 1000000) ∧ (0 ≤ b ∧ b ≤ 1000000) ∧ 0 < c ∧ c ≤ 1000000) ∧ K (.fr (.tup ((rng3L a b c).map .int)))) := by simp only [PQ, prS, prTrng3, wr_if, wr_some]
theorem p_lrng1 {b : Int} : PQ .lrng1 [.int b] K = ((small b && decide (b ≤ sizeMax)) = true ∧ K (.ow (.lst ((rangeL 0 b).map .int)))) := by simp only [PQ, prS, prLrng1, wr_if, wr_some]
theorem p_lrng2 {a b : Int} : PQ .lrng2 [.int a, .int b] K = ((small a && small b && decide (b - a ≤ sizeMax)) = true ∧ K (.ow (.lst ((rangeL a b).map .int)))) := by simp only [PQ, prS, prLrng2, wr_if, wr_some]
theorem p_in_s {c : Nat} {ys : List Nat} : PQ .inn [.str [c], .str ys] K = K (.fr (.bl (decide (c ∈ ys)))) := by
  simp only [PQ, prS, prIn, bool, wr_some, Bool.false_bne]
theorem p_nin_s {c : Nat} {ys : List Nat} : PQ .nin [.str [c], .str ys] K = K (.fr (.bl (!decide (c ∈ ys)))) := by
  simp only [PQ, prS, prIn, bool, wr_some, Bool.true_bne]
/-! places -/
def gi [Inhabited α] (xs : List α) (i : Int) : α := xs.getD i.toNat default
theorem atI_of [Inhabited α] {xs : List α} {i : Int} (h0 : 0 ≤ i) (h1 : i < xs.length) : atI xs i = some (gi xs i) := by
  have h2 : i.toNat < xs.length := by omega
  simp only [atI, ixN, if_pos h0, if_pos h1, Option.bind_some, gi]
  rw [List.getD_eq_getElem?_getD, List.getElem?_eq_getElem h2]; rfl
theorem at_of [Inhabited α] {xs : List α} {i : Int} {K : α → Prop} (h0 : 0 ≤ i) (h1 : i < xs.length) : WR (atI xs i) K = K (gi xs i) := by rw [atI_of h0 h1]; rfl
theorem at_map {f : α → β} {xs : List α} {i : Int} {K : β → Prop} : WR (atI (xs.map f) i) K = WR (atI xs i) fun x => K (f x) := by
  simp only [atI, List.length_map]
  rcases ixN xs.length i with _ | j
  · rfl
  · simp only [Option.bind_some, List.getElem?_map]
    rcases xs[j]? with _ | x <;> rfl
theorem at_neg [Inhabited α] {xs : List α} {i : Int} {K : α → Prop} (h0 : i < 0) (h1 : 0 ≤ i + xs.length) : WR (atI xs i) K = K (gi xs (i + xs.length)) := by
  have h2 : (i + xs.length).toNat < xs.length := by omega
  simp only [atI, ixN, if_neg (by omega : ¬ 0 ≤ i), if_pos h1, Option.bind_some, gi]
  rw [List.getD_eq_getElem?_getD, List.getElem?_eq_getElem h2]; rfl
theorem ix_of {n : Nat} {i : Int} {K : Nat → Prop} (h0 : 0 ≤ i) (h1 : i < n) : WR (ixN n i) K = K i.toNat := by
  simp only [ixN, if_pos h0, if_pos h1]; rfl
theorem mulOk_l {a b : Int} (h0 : -18446744073709551616 < a) (h1 : a < 18446744073709551616) : mulOk a b = true := by
  simp [mulOk, h0, h1]
theorem mulOk_r {a b : Int} (h0 : -18446744073709551616 < b) (h1 : b < 18446744073709551616) : mulOk a b = true := by
  simp [mulOk, h0, h1]
theorem small_of {a : Int} (h0 : -4611686018427387904 ≤ a) (h1 : a < 4611686018427387904) : small a = true := by
  simp [small, h0, h1]
theorem small_and {a b : Int} (h0 : -4611686018427387904 ≤ a) (h1 : a < 4611686018427387904) (h2 : -4611686018427387904 ≤ b) (h3 : b < 4611686018427387904) : (small a && small b) = true := by
  rw [small_of h0 h1, small_of h2 h3]; rfl
theorem fdv_of {b : Int} (h : 0 < b) (h1 : b < 18446744073709551616) : (0 < b ∧ b.natAbs.log2 < 9000) = True := by
  refine eq_true ⟨h, Nat.lt_of_lt_of_le ((Nat.log2_lt (by omega)).mpr (show b.natAbs < 2 ^ 64 by omega)) (by decide)⟩
/-! data that stay data -/
theorem pures_ints {ls : List Int} : pures (ls.map .int) = true := by
  induction ls with
  | nil => rfl
  | cons a r ih => simp only [List.map_cons, pures, T.pure, ih, Bool.and_self]
theorem pures_append {xs ys : List T} : pures (xs ++ ys) = (pures xs && pures ys) := by
  induction xs with
  | nil => rfl
  | cons a r ih => simp only [List.cons_append, pures, ih, Bool.and_assoc]
end
end Ir.Wk
namespace Ir.Wk
section
variable {α : Type} {xs : List α} {a b c d e f : α} {K : α → Prop}
theorem at0 : WR (atI (a :: xs) 0) K = K a := by simp [atI, ixN, WR]
theorem at1 : WR (atI (a :: b :: xs) 1) K = K b := by simp [atI, ixN, WR]; rw [if_pos (by omega)]; rfl
theorem at2 : WR (atI (a :: b :: c :: xs) 2) K = K c := by simp [atI, ixN, WR]; rw [if_pos (by omega)]; rfl
theorem at3 : WR (atI (a :: b :: c :: d :: xs) 3) K = K d := by simp [atI, ixN, WR]; rw [if_pos (by omega)]; rfl
theorem at4 : WR (atI (a :: b :: c :: d :: e :: xs) 4) K = K e := by simp [atI, ixN, WR]; rw [if_pos (by omega)]; rfl
theorem at5 : WR (atI (a :: b :: c :: d :: e :: f :: xs) 5) K = K f := by simp [atI, ixN, WR]; rw [if_pos (by omega)]; rfl
end
end Ir.Wk
namespace Ir.Wk
def unI : List T → List Int
  | .int a :: r => a :: unI r
  | _ => []
def unS : List T → List (List Nat)
  | .str a :: r => a :: unS r
  | _ => []
/-- one of some written numbers -/
theorem at_rng {xs : List T} {i : Int} {K : T → Prop} (lo hi : Int) (e : xs = (unI xs).map .int) (hb : ((unI xs).all fun z => decide (lo ≤ z ∧ z ≤ hi)) = true) (h0 : 0 ≤ i) (h1 : i < xs.length) (h : ∀ z, lo ≤ z → z ≤ hi → K (.int z)) : WR (atI xs i) K := by
  rw [e] at h1 ⊢
  rw [at_map, at_of h0 (by simpa using h1)]
  have h2 : i.toNat < (unI xs).length := by simp at h1; omega
  have hm : gi (unI xs) i ∈ unI xs := by
    simp only [gi, List.getD_eq_getElem?_getD, List.getElem?_eq_getElem h2, Option.getD_some]
    exact List.getElem_mem h2
  have := List.all_eq_true.mp hb _ hm
  simp only [decide_eq_true_eq] at this
  exact h _ this.1 this.2
/-- one of some things -/
theorem at_mem {α : Type} {xs : List α} {i : Int} {K : α → Prop} (h0 : 0 ≤ i) (h1 : i < xs.length) (h : ∀ x ∈ xs, K x) : WR (atI xs i) K := by
  have h2 : i.toNat < xs.length := by omega
  simp only [atI, ixN, if_pos h0, if_pos h1, Option.bind_some, List.getElem?_eq_getElem h2]
  exact h _ (List.getElem_mem h2)
theorem gi_mem {α : Type} [Inhabited α] {xs : List α} {i : Int} (h0 : 0 ≤ i) (h1 : i < xs.length) : gi xs i ∈ xs := by
  have h2 : i.toNat < xs.length := by omega
  simp only [gi, List.getD_eq_getElem?_getD, List.getElem?_eq_getElem h2, Option.getD_some]
  exact List.getElem_mem h2
theorem cut_to {α : Type} {xs : List α} {b : Int} (h0 : 0 ≤ b) (h1 : b ≤ xs.length) : cut xs none (some b) = xs.take b.toNat := by
  simp only [cut, clO, cl, List.drop_zero, Nat.sub_zero, if_neg (show ¬ b < 0 by omega)]
  congr 1; omega
theorem cut_from {α : Type} {xs : List α} {b : Int} (h0 : 0 ≤ b) (h1 : b ≤ xs.length) : cut xs (some b) none = xs.drop b.toNat := by
  simp only [cut, clO, cl, if_neg (show ¬ b < 0 by omega)]
  rw [show min b.toNat xs.length = b.toNat by omega, List.take_of_length_le (by simp)]
theorem cut_map {α β : Type} {f : α → β} {xs : List α} {a b : Option Int} : cut (xs.map f) a b = (cut xs a b).map f := by
  simp only [cut, List.length_map, List.map_take, List.map_drop]
end Ir.Wk
namespace Ir.Wk
theorem sing {c d : Nat} : ([c] = [d]) = (c = d) := by simp
end Ir.Wk
namespace Ir.Wk
/-- a loop over things of one kind -/
theorem for_all {X : Cx} {tg : Tg} {b : Ss} {fg : List Nat} {xs : List T} {l : Loc} {F : Fl → Loc → Prop} (P : T → Prop) (I : Loc → Prop) (hP : ∀ x ∈ xs, P x) (h0 : I l)
    (hs : ∀ x l, P x → I l → TgQ tg x l fun l => SsQ X b l (GoQ fg I F)) (h1 : ∀ l, I l → F .nx l) : ForQ X tg b fg xs l F := by
  refine for_rule (fun xs l => (∀ x ∈ xs, P x) ∧ I l) ⟨hP, h0⟩ (fun x xs l ⟨hp, hi⟩ => ?_) (fun l ⟨_, hi⟩ => h1 l hi)
  refine WP.mono (hs x l (hp x List.mem_cons_self) hi) fun _ l h => SsQ.mono h fun f l h => ?_
  have hp2 : ∀ x ∈ xs, P x := fun x hx => hp x (List.mem_cons_of_mem _ hx)
  rcases f with _ | _ | _ | _
  · exact ⟨hp2, h⟩
  · exact h
  · exact h
  · exact ⟨hp2, h⟩
theorem cut_mem {α : Type} {xs : List α} {a b : Option Int} {x : α} (h : x ∈ cut xs a b) : x ∈ xs := List.mem_of_mem_drop (List.mem_of_mem_take h)
end Ir.Wk
namespace Ir.Wk
theorem log2_le_of {n k : Nat} (h : n < 2 ^ k) : n.log2 ≤ k := by
  rcases Nat.eq_zero_or_pos n with h0 | h0
  · subst h0; simp
  · exact Nat.le_of_lt ((Nat.log2_lt (by omega)).mpr h)
theorem mulOk_pw {a b : Int} {j k : Nat} (ha : a.natAbs < 2 ^ j) (hb : b.natAbs < 2 ^ k) (h : j + k ≤ 67108864) : mulOk a b = true := by
  have h1 := log2_le_of ha
  have h2 := log2_le_of hb
  have h3 : a.natAbs.log2 + b.natAbs.log2 ≤ 67108864 := by omega
  unfold mulOk
  rw [Bool.or_eq_true]
  right
  rw [decide_eq_true_eq]
  exact h3
end Ir.Wk
namespace Ir.Wk
/-- a statement, and what holds behind it -/
theorem cut_at {X : Cx} {s : S} {l : Loc} {K : Loc → Prop} {F : Fl → Loc → Prop} (I : Loc → Prop) (h1 : SQ X s l (NxQ I F)) (h2 : ∀ l, I l → K l) : SQ X s l (NxQ K F) := by
  unfold SQ at h1 ⊢
  refine WP.mono h1 fun f l h => ?_
  rcases f with _ | _ | _ | _
  · exact h2 l h
  · exact h
  · exact h
  · exact h
theorem mulOk_log {a b : Int} (ha : a.natAbs.log2 ≤ 33554432) (hb : b.natAbs.log2 ≤ 33554432) : mulOk a b = true := by
  have h3 : a.natAbs.log2 + b.natAbs.log2 ≤ 67108864 := by omega
  unfold mulOk
  rw [Bool.or_eq_true]
  right
  rw [decide_eq_true_eq]
  exact h3
theorem log2_mono {a b : Nat} (h : a ≤ b) : a.log2 ≤ b.log2 := by
  rcases Nat.eq_zero_or_pos a with h0 | h0
  · subst h0; simp
  · exact (Nat.le_log2 (by omega)).mpr (Nat.le_trans (Nat.log2_self_le (by omega)) h)
theorem log2_succ {a : Nat} : (1 + a).log2 ≤ a.log2 + 1 := by
  have h1 : (1 + a).log2 < a.log2 + 2 := by
    refine (Nat.log2_lt (by omega)).mpr ?_
    have := @Nat.lt_log2_self a
    rw [Nat.pow_succ]
    omega
  omega
theorem log2_mul {a b : Nat} : (a * b).log2 ≤ a.log2 + b.log2 + 1 := by
  rcases Nat.eq_zero_or_pos (a * b) with h0 | h0
  · rw [h0]; simp
  · have h1 : (a * b).log2 < a.log2 + b.log2 + 2 := by
      refine (Nat.log2_lt (by omega)).mpr ?_
      have h2 := @Nat.lt_log2_self a
      have h3 := @Nat.lt_log2_self b
      have h4 := Nat.mul_lt_mul'' h2 h3
      rw [show a.log2 + b.log2 + 2 = (a.log2 + 1) + (b.log2 + 1) by omega, Nat.pow_add]
      exact h4
    omega
end Ir.Wk
namespace Ir.Wk
theorem mem_rng {a b i : Int} (h : i ∈ rangeL a b) : a ≤ i ∧ i < b := by
  unfold rangeL at h
  obtain ⟨k, hk, rfl⟩ := List.mem_map.mp h
  have := List.mem_range.mp hk
  omega
theorem len_rng {a b : Int} : (rangeL a b).length = (b - a).toNat := by simp [rangeL]
end Ir.Wk
namespace Ir.Wk
def maxV (xs : List Int) : Int := (maxL xs).getD 0
def minV (xs : List Int) : Int := (minL xs).getD 0
theorem maxL_of : ∀ {xs : List Int}, xs ≠ [] → ∃ m, maxL xs = some m ∧ m ∈ xs ∧ ∀ x ∈ xs, x ≤ m
  | [x], _ => ⟨x, rfl, by simp, by simp⟩
  | x :: y :: r, _ => by
    obtain ⟨m, h1, h2, h3⟩ := maxL_of (xs := y :: r) (by simp)
    refine ⟨if x < m then m else x, ?_, ?_, ?_⟩
    · rw [maxL, h1]; simp
    · split
      · exact List.mem_cons_of_mem _ h2
      · exact List.mem_cons_self
    · intro z hz
      rcases List.mem_cons.mp hz with hz | hz
      · subst hz; split <;> omega
      · have := h3 z hz; split <;> omega
theorem minL_of : ∀ {xs : List Int}, xs ≠ [] → ∃ m, minL xs = some m ∧ m ∈ xs ∧ ∀ x ∈ xs, m ≤ x
  | [x], _ => ⟨x, rfl, by simp, by simp⟩
  | x :: y :: r, _ => by
    obtain ⟨m, h1, h2, h3⟩ := minL_of (xs := y :: r) (by simp)
    refine ⟨if m < x then m else x, ?_, ?_, ?_⟩
    · rw [minL, h1]; simp
    · split
      · exact List.mem_cons_of_mem _ h2
      · exact List.mem_cons_self
    · intro z hz
      rcases List.mem_cons.mp hz with hz | hz
      · subst hz; split <;> omega
      · have := h3 z hz; split <;> omega
theorem maxV_mem {xs : List Int} (h : xs ≠ []) : maxV xs ∈ xs := by
  obtain ⟨m, h1, h2, h3⟩ := maxL_of h
  unfold maxV; rw [h1]; exact h2
theorem maxV_ge {xs : List Int} {x : Int} (h : x ∈ xs) : x ≤ maxV xs := by
  obtain ⟨m, h1, h2, h3⟩ := maxL_of (List.ne_nil_of_mem h)
  unfold maxV; rw [h1]; exact h3 x h
theorem minV_mem {xs : List Int} (h : xs ≠ []) : minV xs ∈ xs := by
  obtain ⟨m, h1, h2, h3⟩ := minL_of h
  unfold minV; rw [h1]; exact h2
theorem minV_le {xs : List Int} {x : Int} (h : x ∈ xs) : minV xs ≤ x := by
  obtain ⟨m, h1, h2, h3⟩ := minL_of (List.ne_nil_of_mem h)
  unfold minV; rw [h1]; exact h3 x h
theorem wr_max {xs : List Int} {K : Int → Prop} (h : xs ≠ []) : WR (maxL xs) K = K (maxV xs) := by
  obtain ⟨m, h1, h2, h3⟩ := maxL_of h
  unfold maxV; rw [h1]; rfl
theorem wr_min {xs : List Int} {K : Int → Prop} (h : xs ≠ []) : WR (minL xs) K = K (minV xs) := by
  obtain ⟨m, h1, h2, h3⟩ := minL_of h
  unfold minV; rw [h1]; rfl
end Ir.Wk
namespace Ir.Wk
section
variable {b : Bool} {i : Int} {s : List Nat} {xs : List T}
theorem isNon_non : isNon .non = true := rfl
theorem isNon_bl : isNon (.bl b) = false := rfl
theorem isNon_int : isNon (.int i) = false := rfl
theorem isNon_str : isNon (.str s) = false := rfl
theorem isNon_tup : isNon (.tup xs) = false := rfl
theorem isNon_lst : isNon (.lst xs) = false := rfl
theorem isBl_non : isBl .non = false := rfl
theorem isBl_bl : isBl (.bl b) = true := rfl
theorem isBl_int : isBl (.int i) = false := rfl
theorem isBl_str : isBl (.str s) = false := rfl
theorem isBl_tup : isBl (.tup xs) = false := rfl
theorem isBl_lst : isBl (.lst xs) = false := rfl
theorem isIn_non : isIn .non = false := rfl
theorem isIn_bl : isIn (.bl b) = true := rfl
theorem isIn_int : isIn (.int i) = true := rfl
theorem isIn_str : isIn (.str s) = false := rfl
theorem isIn_tup : isIn (.tup xs) = false := rfl
theorem isIn_lst : isIn (.lst xs) = false := rfl
theorem isSt_non : isSt .non = false := rfl
theorem isSt_bl : isSt (.bl b) = false := rfl
theorem isSt_int : isSt (.int i) = false := rfl
theorem isSt_str : isSt (.str s) = true := rfl
theorem isSt_tup : isSt (.tup xs) = false := rfl
theorem isSt_lst : isSt (.lst xs) = false := rfl
theorem isTu_non : isTu .non = false := rfl
theorem isTu_bl : isTu (.bl b) = false := rfl
theorem isTu_int : isTu (.int i) = false := rfl
theorem isTu_str : isTu (.str s) = false := rfl
theorem isTu_tup : isTu (.tup xs) = true := rfl
theorem isTu_lst : isTu (.lst xs) = false := rfl
theorem isLst_non : isLst .non = false := rfl
theorem isLst_bl : isLst (.bl b) = false := rfl
theorem isLst_int : isLst (.int i) = false := rfl
theorem isLst_str : isLst (.str s) = false := rfl
theorem isLst_tup : isLst (.tup xs) = false := rfl
theorem isLst_lst : isLst (.lst xs) = true := rfl
end
end Ir.Wk
namespace Ir.Wk
/-- a range, one slot changes -/
theorem for_rng_set {X : Cx} {tg : Tg} {b : Ss} {fg : List Nat} {l : Loc} {F : Fl → Loc → Prop} {a c : Int} (k : Nat) (d : Int → Sl) (hac : a ≤ c) (h0 : l = l.set k (d a))
    (hs : ∀ i, a ≤ i → i < c → TgQ tg (.int i) (l.set k (d i)) fun l' => SsQ X b l' (GoQ fg (fun l'' => l'' = l.set k (d (i + 1))) F)) (h1 : F .nx (l.set k (d c))) : ForQ X tg b fg ((rangeL a c).map .int) l F :=
  for_rng (fun i l' => l' = l.set k (d i)) hac h0 (fun i l' g0 g1 e => by subst e; exact hs i g0 g1) (fun l' e => by subst e; exact h1)
theorem for_rng_set2 {X : Cx} {tg : Tg} {b : Ss} {fg : List Nat} {l : Loc} {F : Fl → Loc → Prop} {a c : Int} (k k2 : Nat) (d d2 : Int → Sl) (hac : a ≤ c) (h0 : l = (l.set k (d a)).set k2 (d2 a))
    (hs : ∀ i, a ≤ i → i < c → TgQ tg (.int i) ((l.set k (d i)).set k2 (d2 i)) fun l' => SsQ X b l' (GoQ fg (fun l'' => l'' = (l.set k (d (i + 1))).set k2 (d2 (i + 1))) F)) (h1 : F .nx ((l.set k (d c)).set k2 (d2 c))) : ForQ X tg b fg ((rangeL a c).map .int) l F :=
  for_rng (fun i l' => l' = (l.set k (d i)).set k2 (d2 i)) hac h0 (fun i l' g0 g1 e => by subst e; exact hs i g0 g1) (fun l' e => by subst e; exact h1)
end Ir.Wk
namespace Ir.Wk
theorem shps_ints {ls : List Int} {d : Nat} : shps d (ls.map .int) = true := by
  induction ls with
  | nil => simp [shps]
  | cons a r ih => simp [shps, T.shp, ih]
theorem find_int {ls : List Int} {v : Int} : (ls.map T.int).findIdx? (fun y => eqv y (.int v)) = if v ∈ ls then some (ls.idxOf v) else none := by
  induction ls with
  | nil => simp
  | cons a r ih =>
    rw [List.map_cons, List.findIdx?_cons, ih, List.idxOf_cons]
    by_cases h : a = v
    · subst h; simp [eqv]
    · have h2 : v ≠ a := fun e => h e.symm
      have h4 : (a == v) = false := by simp [h]
      by_cases h3 : v ∈ r
      · simp [eqv, h, h2, h3, h4]
      · simp [eqv, h, h2, h3, h4]
theorem p_index {ls : List Int} {v : Int} {K : Vl → Prop} (h : v ∈ ls) : WR (prIndex [.lst (ls.map .int), .int v]) K = K (.fr (.int (ls.idxOf v))) := by
  have : inOk (.int v) (ls.map T.int) = true := by simp [inOk, T.shp, shps_ints]
  simp only [prIndex, this, if_true, find_int, if_pos h, Option.map_some, wr_some]
theorem sum_one {s : List Nat} : ((s.map fun c => [c]).map List.length).sum = s.length := by
  induction s with
  | nil => rfl
  | cons a r ih => simp only [List.map_cons, List.sum_cons, ih, List.length_cons, List.length_nil]; omega
end Ir.Wk
namespace Ir.Wk
theorem lcons2 {a b c d : Nat} {x y : List Nat} : (a :: b :: x = c :: d :: y) = (a = c ∧ b :: x = d :: y) := by simp
theorem lmis1 {c d e : Nat} {y : List Nat} : ([c] = d :: e :: y) = False := by simp
theorem lmis2 {c d e : Nat} {y : List Nat} : (d :: e :: y = [c]) = False := by simp
theorem lmis3 {d : Nat} {y : List Nat} : (([] : List Nat) = d :: y) = False := by simp
theorem lmis4 {d : Nat} {y : List Nat} : (d :: y = ([] : List Nat)) = False := by simp
end Ir.Wk
namespace Ir.Wk
/-- a loop that does not return, and what holds behind it -/
theorem for_cut {X : Cx} {tg : Tg} {b : Ss} {fg : List Nat} {xs : List T} {l : Loc} {F : Fl → Loc → Prop} (J : Loc → Prop) (h : ForQ X tg b fg xs l (fun f l => f = .nx ∧ J l)) (g : ∀ l, J l → F .nx l) : ForQ X tg b fg xs l F := by
  unfold ForQ at h ⊢
  exact WP.mono h fun f l ⟨e, hj⟩ => by subst e; exact g l hj
end Ir.Wk
namespace Ir.Wk
theorem rngA_cons {a b : Int} (h : a < b) : rangeL a b = a :: rangeL (a + 1) b := by
  unfold rangeL
  have : (b - a).toNat = (b - (a + 1)).toNat + 1 := by omega
  rw [this, List.range_succ_eq_map, List.map_cons, List.map_map]
  congr 1
  · simp
  · apply List.map_congr_left; intro k _; show a + ((k + 1 : Nat) : Int) = a + 1 + k; omega
theorem mem_rng_of {a b i : Int} (h0 : a ≤ i) (h1 : i < b) : i ∈ rangeL a b := by
  unfold rangeL; exact List.mem_map.mpr ⟨(i - a).toNat, List.mem_range.mpr (by omega), by omega⟩
theorem find_rng_none {p : Int → Bool} {a b : Int} (h : ∀ j, a ≤ j → j < b → p j = false) : (rangeL a b).find? p = none := by
  rw [List.find?_eq_none]
  intro x hx
  have := mem_rng hx
  rw [h x this.1 this.2]; simp
theorem find_rng_some {p : Int → Bool} {a b i : Int} (h0 : a ≤ i) (h1 : i < b) (h : ∀ j, a ≤ j → j < i → p j = false) (hp : p i = true) : (rangeL a b).find? p = some i := by
  obtain ⟨k, hk⟩ : ∃ k : Nat, i = a + k := ⟨(i - a).toNat, by omega⟩
  induction k generalizing a with
  | zero =>
    obtain rfl : i = a := by omega
    rw [rngA_cons h1, List.find?_cons, hp]
  | succ k ih =>
    rw [rngA_cons (by omega), List.find?_cons, h a (by omega) (by omega)]
    exact ih (by omega) (fun j j0 j1 => h j (by omega) j1) (by omega)
end Ir.Wk
namespace Ir.Wk
theorem at_last {α : Type} {xs : List α} {x : α} {K : α → Prop} (h : xs.getLast? = some x) : WR (atI xs (-1)) K = K x := by
  rw [List.getLast?_eq_getElem?] at h
  have hp : xs.length - 1 < xs.length := (List.getElem?_eq_some_iff.mp h).1
  simp only [atI, ixN]
  rw [if_neg (by decide), if_pos (by omega), Option.bind_some, show (-1 + (xs.length : Int)).toNat = xs.length - 1 by omega, h]
  rfl
theorem at_snoc {α : Type} {xs : List α} {x : α} {K : α → Prop} : WR (atI (xs ++ [x]) (-1)) K = K x := at_last (by simp)
end Ir.Wk
namespace Ir.Wk
theorem cut_F {α : Type} {xs : List α} {b : Int} (h0 : 0 ≤ b) : cut xs (some b) none = xs.drop b.toNat := by
  rcases Int.lt_or_le (xs.length : Int) b with h | h
  · simp only [cut, clO, cl, if_neg (show ¬ b < 0 by omega)]
    rw [List.drop_eq_nil_of_le (show xs.length ≤ b.toNat by omega), List.drop_eq_nil_of_le (by omega)]
    simp
  · exact cut_from h0 h
theorem cut_T {α : Type} {xs : List α} {b : Int} (h0 : 0 ≤ b) : cut xs none (some b) = xs.take b.toNat := by
  rcases Int.lt_or_le (xs.length : Int) b with h | h
  · simp only [cut, clO, cl, List.drop_zero, Nat.sub_zero, if_neg (show ¬ b < 0 by omega)]
    rw [List.take_of_length_le (by omega), List.take_of_length_le (by omega)]
  · exact cut_to h0 h
end Ir.Wk

set_option Elab.async false
set_option linter.all false
namespace Ir.Wk
/-- a range by a step of -1, down to 0 -/
theorem rng_down (n : Nat) : rangeS ((n : Int) - 1) (-1) (-1) = (List.range n).reverse.map fun (k : Nat) => (k : Int) := by
  unfold rangeS
  rw [if_pos rfl]
  have e : ((n : Int) - 1 - -1).toNat = n := by omega
  rw [e]
  apply List.ext_getElem
  · simp
  · intro i h1 h2
    simp at h1 h2 ⊢
    omega
theorem for_down {X : Cx} {tg : Tg} {b : Ss} {fg : List Nat} {l : Loc} {F : Fl → Loc → Prop} {m : Int} {n : Nat} (I : Nat → Loc → Prop) (hm : m = (n : Int) - 1) (h0 : I n l)
    (hs : ∀ (k : Nat) l, k < n → I (k + 1) l → TgQ tg (.int (k : Int)) l fun l => SsQ X b l (GoQ fg (I k) F)) (h1 : ∀ l, I 0 l → F .nx l) : ForQ X tg b fg ((rangeS m (-1) (-1)).map .int) l F := by
  subst hm
  rw [rng_down, List.map_map]
  have key : ∀ (n : Nat) (l : Loc), I n l → (∀ (k : Nat) l, k < n → I (k + 1) l → TgQ tg (.int (k : Int)) l fun l => SsQ X b l (GoQ fg (I k) F)) → ForQ X tg b fg ((List.range n).reverse.map (T.int ∘ fun (k : Nat) => (k : Int))) l F := by
    intro n
    induction n with
    | zero => intro l hi _; rw [show (List.range 0).reverse.map (T.int ∘ fun (k : Nat) => (k : Int)) = [] from rfl, for_nil]; exact h1 l hi
    | succ n ih =>
      intro l hi hs
      rw [List.range_succ, List.reverse_append, List.reverse_singleton, List.singleton_append, List.map_cons, for_cons]
      have h := hs n l (by omega) hi
      refine WP.mono h fun _ l h => ?_
      refine SsQ.mono h fun f l h => ?_
      have hs' : ∀ (k : Nat) l, k < n → I (k + 1) l → TgQ tg (.int (k : Int)) l fun l => SsQ X b l (GoQ fg (I k) F) := fun k l hk => hs k l (by omega)
      rcases f with _ | _ | _ | _
      · exact ih _ h hs'
      · exact h
      · exact h
      · exact ih _ h hs'
  exact key n l h0 hs
/-- a loop, and what holds behind it; it may return -/
theorem for_cutR {X : Cx} {tg : Tg} {b : Ss} {fg : List Nat} {xs : List T} {l : Loc} {F : Fl → Loc → Prop} (J : Loc → Prop) (h : ForQ X tg b fg xs l (NxQ J F)) (g : ∀ l, J l → F .nx l) : ForQ X tg b fg xs l F := by
  unfold ForQ at h ⊢
  refine WP.mono h fun f l h => ?_
  rcases f with _ | _ | _ | _
  · exact g l h
  · exact h
  · exact h
  · exact h
theorem ix_snoc {α : Type} {xs : List α} {x : α} {K : Nat → Prop} : WR (ixN (xs ++ [x]).length (-1)) K = K xs.length := by
  simp only [ixN, List.length_append, List.length_cons, List.length_nil]
  rw [if_neg (by decide), if_pos (by omega)]
  show K _ = K _
  congr 1; omega
theorem set_snoc {α : Type} {xs : List α} {x y : α} : (xs ++ [x]).set xs.length y = xs ++ [y] := by
  rw [List.set_append_right _ _ (Nat.le_refl _)]; simp
theorem set_snoc_m {α β : Type} {f : α → β} {xs : List α} {x y : β} : (xs.map f ++ [x]).set xs.length y = xs.map f ++ [y] := by
  have := set_snoc (xs := xs.map f) (x := x) (y := y)
  rwa [List.length_map] at this
/-! ints in lists of ints -/
theorem any_int {ls : List Int} {a : Int} : (ls.map T.int).any (fun y => eqv y (.int a)) = decide (a ∈ ls) := by
  induction ls with
  | nil => rfl
  | cons b r ih =>
    rw [List.map_cons, List.any_cons, ih]
    by_cases h : a = b
    · subst h; simp [eqv]
    · have : ¬ b = a := fun e => h e.symm
      simp [eqv, h, this]
section
variable {K : Vl → Prop} {ls : List Int} {a : Int}
theorem inOk_ints : inOk (.int a) (ls.map T.int) = true := by simp [inOk, T.shp, shps_ints]
theorem p_in_i : PQ .inn [.int a, .lst (ls.map .int)] K = K (.fr (.bl (decide (a ∈ ls)))) := by
  simp only [PQ, prS, prIn, inOk_ints, if_true, any_int, Bool.false_bne, bool, wr_some]
theorem p_in_ti : PQ .inn [.int a, .tup (ls.map .int)] K = K (.fr (.bl (decide (a ∈ ls)))) := by
  simp only [PQ, prS, prIn, inOk_ints, if_true, any_int, Bool.false_bne, bool, wr_some]
theorem p_nin_i : PQ .nin [.int a, .lst (ls.map .int)] K = K (.fr (.bl (!decide (a ∈ ls)))) := by
  simp only [PQ, prS, prIn, inOk_ints, if_true, any_int, Bool.true_bne, bool, wr_some]
theorem p_nin_ti : PQ .nin [.int a, .tup (ls.map .int)] K = K (.fr (.bl (!decide (a ∈ ls)))) := by
  simp only [PQ, prS, prIn, inOk_ints, if_true, any_int, Bool.true_bne, bool, wr_some]
end
/-! sorted lists -/
theorem leI_trans (a b c : Int) : leI a b = true → leI b c = true → leI a c = true := by unfold leI; simp only [decide_eq_true_eq]; omega
theorem leI_total (a b : Int) : (leI a b || leI b a) = true := by unfold leI; simp only [Bool.or_eq_true, decide_eq_true_eq]; omega
/-- the only ascending list of some numbers -/
theorem sort_uniq {xs ys : List Int} (hp : xs.Perm ys) (hs : ys.Pairwise (· ≤ ·)) : xs.mergeSort leI = ys := by
  have h1 : (xs.mergeSort leI).Pairwise (fun a b => leI a b = true) := List.pairwise_mergeSort leI_trans leI_total xs
  have h1' : (xs.mergeSort leI).Pairwise (· ≤ ·) := h1.imp (fun {a b} h => by unfold leI at h; simpa using h)
  exact List.Perm.eq_of_pairwise (fun a b _ _ h1 h2 => Int.le_antisymm h1 h2) h1' hs ((List.mergeSort_perm xs leI).trans hp)
theorem perm_of_mem {xs ys : List Int} (hx : xs.Nodup) (hy : ys.Nodup) (h : ∀ a, a ∈ xs ↔ a ∈ ys) : xs.Perm ys := (List.perm_ext_iff_of_nodup hx hy).mpr h
theorem rng_sorted (a b : Int) : (rangeL a b).Pairwise (· < ·) := by
  unfold rangeL
  rw [List.pairwise_map]
  exact List.pairwise_lt_range.imp (fun {i j} h => by omega)
theorem lt_nodup {xs : List Int} (h : xs.Pairwise (· < ·)) : xs.Nodup := h.imp (fun {a b} h => by omega)
theorem lt_le {xs : List Int} (h : xs.Pairwise (· < ·)) : xs.Pairwise (· ≤ ·) := h.imp (fun {a b} h => by omega)
theorem sorted_uniq {xs ys : List Int} (hx : xs.Pairwise (· < ·)) (hy : ys.Pairwise (· < ·)) (h : ∀ a, a ∈ xs ↔ a ∈ ys) : xs = ys :=
  List.Perm.eq_of_pairwise (fun a b _ _ h1 h2 => Int.le_antisymm h1 h2) (lt_le hx) (lt_le hy) (perm_of_mem (lt_nodup hx) (lt_nodup hy) h)
theorem mem_insU {z k : Int} : ∀ {r : List Int}, k ∈ insU z r ↔ k = z ∨ k ∈ r
  | [] => by simp [insU]
  | y :: r => by
    unfold insU
    split
    · simp
    · split
      · rename_i h; subst h; simp
      · rw [List.mem_cons, mem_insU, List.mem_cons]; grind
theorem srt_insU {z : Int} : ∀ {r : List Int}, r.Pairwise (· < ·) → (insU z r).Pairwise (· < ·)
  | [], _ => by simp [insU]
  | y :: r, h => by
    obtain ⟨h1, h2⟩ := List.pairwise_cons.mp h
    unfold insU
    split
    · rename_i c
      refine List.pairwise_cons.mpr ⟨fun k hk => ?_, h⟩
      rcases List.mem_cons.mp hk with rfl | hk
      · exact c
      · exact Int.lt_trans c (h1 k hk)
    · split
      · exact h
      · refine List.pairwise_cons.mpr ⟨fun k hk => ?_, srt_insU h2⟩
        rcases mem_insU.mp hk with rfl | hk
        · omega
        · exact h1 k hk
theorem mem_srtU {k : Int} : ∀ {is : List Int}, k ∈ srtU is ↔ k ∈ is
  | [] => Iff.rfl
  | z :: r => by
    show k ∈ insU z (srtU r) ↔ _
    rw [mem_insU, mem_srtU, List.mem_cons]
theorem srt_srtU : ∀ {is : List Int}, (srtU is).Pairwise (· < ·)
  | [] => List.Pairwise.nil
  | z :: r => srt_insU srt_srtU
theorem srtU_eq {xs ys : List Int} (hy : ys.Pairwise (· < ·)) (h : ∀ a, a ∈ xs ↔ a ∈ ys) : srtU xs = ys := sorted_uniq srt_srtU hy fun a => by rw [mem_srtU, h]
theorem srtU_le {xs : List Int} : (srtU xs).length ≤ xs.length := by
  induction xs with
  | nil => exact Nat.le_refl _
  | cons z r ih =>
    have : ∀ q : List Int, (insU z q).length ≤ q.length + 1 := fun q => by
      induction q with
      | nil => exact Nat.le_refl _
      | cons y q ih =>
        unfold insU
        split
        · simp
        · split <;> simp <;> omega
    have h := this (srtU r)
    show (insU z (srtU r)).length ≤ _
    rw [List.length_cons]; omega
theorem mem_rng_iff {a b i : Int} : i ∈ rangeL a b ↔ a ≤ i ∧ i < b := ⟨mem_rng, fun h => mem_rng_of h.1 h.2⟩
theorem gi_rng {a b i : Int} (h0 : 0 ≤ i) (h1 : a + i < b) : gi (rangeL a b) i = a + i := by
  unfold gi rangeL
  rw [List.getD_eq_getElem?_getD, List.getElem?_map, List.getElem?_range (by omega)]
  simp; omega
theorem cut_len {α : Type} {xs : List α} {a b : Option Int} : (cut xs a b).length ≤ xs.length := by
  unfold cut
  rw [List.length_take, List.length_drop]; omega
/-- one of some numbers -/
theorem at_any {xs : List T} {i : Int} {K : T → Prop} (e : xs = (unI xs).map .int) (h0 : 0 ≤ i) (h1 : i < xs.length) (h : ∀ z, z ∈ unI xs → K (.int z)) : WR (atI xs i) K := by
  rw [e] at h1 ⊢
  rw [at_map, at_of h0 (by simpa using h1)]
  exact h _ (gi_mem h0 (by simpa using h1))
theorem at_get {α : Type} {xs : List α} {k : Nat} {x : α} {K : α → Prop} (h : xs[k]? = some x) : WR (atI xs (k : Int)) K = K x := by
  have h1 := (List.getElem?_eq_some_iff.mp h).1
  simp only [atI, ixN]
  rw [if_pos (by omega), if_pos (by omega), Option.bind_some, Int.toNat_natCast, h]; rfl
theorem gi_map {α β : Type} [Inhabited α] [Inhabited β] {f : α → β} {xs : List α} {i : Int} (h0 : 0 ≤ i) (h1 : i < xs.length) : gi (xs.map f) i = f (gi xs i) := by
  have h2 : i.toNat < xs.length := by omega
  unfold gi
  rw [List.getD_eq_getElem?_getD, List.getD_eq_getElem?_getD, List.getElem?_map, List.getElem?_eq_getElem h2]; rfl
end Ir.Wk

set_option Elab.async false
set_option linter.all false
namespace Ir.Wk
open Ir
variable {X : Cx} {l : Loc} {R : Vl → Loc → Prop} {F : Fl → Loc → Prop}
/-! ### dicts -/
def DcT (tk : Bool) (K : List T → List T → Prop) : T → Prop
  | .dct tk' ks vs => tk' = tk ∧ K ks vs
  | _ => False
theorem dcq {tk tk' : Bool} {K : List T → List T → Prop} {ks vs : List T} : DcT tk K (.dct tk' ks vs) = (tk' = tk ∧ K ks vs) := rfl
theorem w_slT {k : Nat} {K : T → Prop} : WR (slT l[k]?) K = SlQ l k (RdS K) := by
  unfold SlQ
  cases l[k]? with
  | none => rfl
  | some s => cases s <;> rfl
theorem w_dictAt {tk : Bool} {k : Nat} {K : List T × List T → Loc → Prop} : WP (dictAt tk k) l K = SlQ l k (RdS (DcT tk fun ks vs => K (ks, vs) l)) := by
  rw [← w_slT]
  unfold WP dictAt
  cases slT l[k]? with
  | none => rfl
  | some t =>
    cases t <;> first | rfl | skip
    rename_i tk' ks vs
    show WR (if tk' = tk then some ((ks, vs), l) else none) _ = (tk' = tk ∧ _)
    split
    · rename_i h; exact propext ⟨fun z => ⟨h, z⟩, fun z => z.2⟩
    · rename_i h; exact propext ⟨False.elim, fun z => h z.1⟩
/-- a key of what is read -/
def KyQ (tk : Bool) (ts : List T) (K : T → Prop) : Prop := WR (keyT tk ts) K
theorem kyq_i {i : Int} {K : T → Prop} : KyQ false [.int i] K = K (.int i) := rfl
theorem kyq_s {s : List Nat} {K : T → Prop} : KyQ false [.str s] K = K (.str s) := rfl
theorem kyq_t {ts : List T} {K : T → Prop} : KyQ true ts K = (ts.all isKy = true ∧ K (.tup ts)) := by
  show WR (if ts.all isKy = true then some (T.tup ts) else none) K = _
  rw [wr_if, wr_some]
theorem isKy_i {i : Int} : isKy (.int i) = true := rfl
theorem isKy_s {s : List Nat} : isKy (.str s) = true := rfl
theorem w_keyM {tk : Bool} {m : M (List Op)} {K : T → Loc → Prop} : WP (keyM tk m) l K = WP m l fun os l => TsQ l os fun ts => KyQ tk ts fun t => K t l := by
  unfold keyM
  rw [w_bind]
  congr; funext os l
  simp only [WP, TsQ, KyQ]
  rcases trees l os with _ | ts
  · rfl
  · simp only [wr_some]
    rcases keyT tk ts with _ | t <;> rfl
/-- a tuple as a key -/
def KvT (K : T → Prop) : T → Prop
  | .tup ts => ts.all isKy = true ∧ K (.tup ts)
  | _ => False
theorem kvt {ts : List T} {K : T → Prop} : KvT K (.tup ts) = (ts.all isKy = true ∧ K (.tup ts)) := rfl
theorem e_dnew {tk : Bool} : EQ X (.dnew tk) l R = R (.ow (.dct tk [] [])) l := by unfold EQ; rw [evE]; exact w_ret
theorem e_dgt {tk : Bool} {k : Nat} {as : Es} {d : E} : EQ X (.dgt tk k as d) l R = SlQ l k (RdS (DcT tk fun _ _ => OsQ X as l fun os l => TsQ l os fun ts => KyQ tk ts fun key => OQ X d l fun o l => GvQ l (fun z l => SlQ l k (RdS (DcT tk fun ks vs => R (.fr ((dAt ks vs key).getD z)) l))) o)) := by
  unfold EQ OsQ OQ; rw [evE, w_bind, w_dictAt]
  simp only [w_bind, w_keyM, w_give, w_dictAt, w_ret]
theorem e_dix {tk : Bool} {k : Nat} {as : Es} : EQ X (.dix tk k as) l R = SlQ l k (RdS (DcT tk fun _ _ => OsQ X as l fun os l => TsQ l os fun ts => KyQ tk ts fun key => SlQ l k (RdS (DcT tk fun ks vs => WR (dAt ks vs key) fun t => R (.fr t) l)))) := by
  unfold EQ OsQ; rw [evE, w_bind, w_dictAt]
  simp only [w_bind, w_keyM, w_dictAt, w_lift, wr_map]
theorem w_keyV {m : M Op} {K : T → Loc → Prop} : WP (keyV m) l K = WP m l fun o l => OpQ l (KvT fun t => K t l) o := by
  unfold keyV
  rw [w_bind]
  congr; funext o l
  rw [← tree_q]
  simp only [WP]
  rcases o.tree l with _ | t
  · rfl
  · cases t <;> first | rfl | skip
    rename_i ts
    simp only [wr_some, kvt, wr_if]
theorem e_dixv {k : Nat} {a : E} : EQ X (.dixv k a) l R = SlQ l k (RdS (DcT true fun _ _ => OQ X a l fun o l => OpQ l (KvT fun key => SlQ l k (RdS (DcT true fun ks vs => WR (dAt ks vs key) fun t => R (.fr t) l))) o)) := by
  unfold EQ OQ; rw [evE, w_bind, w_dictAt]
  simp only [w_bind, w_keyV, w_dictAt, w_lift, wr_map]
theorem o_dixv {k : Nat} {a : E} {K : Op → Loc → Prop} : OQ X (.dixv k a) l K = EQ X (.dixv k a) l fun v l => K (.vl v) l := o_e (by intro k h; cases h)
theorem e_din {tk n : Bool} {k : Nat} {as : Es} : EQ X (.din tk n k as) l R = OsQ X as l fun os l => TsQ l os fun ts => KyQ tk ts fun key => SlQ l k (RdS (DcT tk fun ks vs => R (.fr (.bl (n != dHas ks key))) l)) := by
  unfold EQ OsQ; rw [evE, w_bind, w_keyM]
  simp only [w_dictAt, w_bind, w_ret]
theorem e_repl {x : E} {i : Int} {ps : List (List Nat × List Nat)} : EQ X (.repl x i ps) l R = EQ X (.pr .idx (.cons x (.cons (.con (.int i)) .nil))) l fun v l => StQ (fun s => WR (rplR ps s) fun z => R (.fr (.str z)) l) v := by
  have h : evE X (.repl x i ps) = bind (evE X (.pr .idx (.cons x (.cons (.con (.int i)) .nil)))) fun v => match v with
      | .fr (.str s) => match rplR ps s with
        | some z => ret (.fr (.str z))
        | none => fun _ => none
      | _ => fun _ => none := by
    rw [evE, evE, evOs, evOs, evOs, evE] <;> rfl
  unfold EQ
  rw [h, w_bind]
  refine congrArg (fun z => WP _ l z) ?_
  funext v l
  rcases v with t | t
  · cases t <;> first | rfl | skip
    rename_i s
    show WP (match rplR ps s with | some z => ret (Vl.fr (T.str z)) | none => fun _ => none) l R = WR (rplR ps s) _
    cases rplR ps s <;> rfl
  · rfl
theorem o_dnew {tk : Bool} {K : Op → Loc → Prop} : OQ X (.dnew tk) l K = EQ X (.dnew tk) l fun v l => K (.vl v) l := o_e (by intro k h; cases h)
theorem o_dgt {tk : Bool} {k : Nat} {as : Es} {d : E} {K : Op → Loc → Prop} : OQ X (.dgt tk k as d) l K = EQ X (.dgt tk k as d) l fun v l => K (.vl v) l := o_e (by intro k h; cases h)
theorem o_dix {tk : Bool} {k : Nat} {as : Es} {K : Op → Loc → Prop} : OQ X (.dix tk k as) l K = EQ X (.dix tk k as) l fun v l => K (.vl v) l := o_e (by intro k h; cases h)
theorem o_din {tk n : Bool} {k : Nat} {as : Es} {K : Op → Loc → Prop} : OQ X (.din tk n k as) l K = EQ X (.din tk n k as) l fun v l => K (.vl v) l := o_e (by intro k h; cases h)
theorem o_repl {x : E} {i : Int} {ps : List (List Nat × List Nat)} {K : Op → Loc → Prop} : OQ X (.repl x i ps) l K = EQ X (.repl x i ps) l fun v l => K (.vl v) l := o_e (by intro k h; cases h)
def Pr3 (i j n : Nat) (F : Fl → Loc → Prop) (l : Loc) : List T → Prop
  | [u, v, w] => SlQ l i (StS (SlQ (l.set i (.fr u)) j (StS (SlQ ((l.set i (.fr u)).set j (.fr v)) n (StS (F .nx (((l.set i (.fr u)).set j (.fr v)).set n (.fr w))))))))
  | _ => False
theorem pr3q {i j n : Nat} {u v w : T} : Pr3 i j n F l [u, v, w] = SlQ l i (StS (SlQ (l.set i (.fr u)) j (StS (SlQ ((l.set i (.fr u)).set j (.fr v)) n (StS (F .nx (((l.set i (.fr u)).set j (.fr v)).set n (.fr w)))))))) := rfl
theorem s_par3 {i j n : Nat} {as : Es} : SQ X (.par3 i j n as) l F = OsQ X as l fun os l => GsQ l os fun ts l => Pr3 i j n F l ts := by
  unfold SQ OsQ GsQ; rw [evS, par3M, w_bind]
  congr; funext os l
  rw [w_bind]
  congr; funext ts l
  rcases ts with _ | ⟨u, _ | ⟨v, _ | ⟨w, _ | ⟨_, _⟩⟩⟩⟩ <;> first | rfl | skip
  rw [pr3q]
  simp only [w_bind, w_stV, w_ret]
def DpT (tk : Bool) (l : Loc) (k : Nat) (key v : T) (F : Fl → Loc → Prop) : T → Prop
  | .dct tk' ks vs => (tk' = tk ∧ ks.length < sizeMax) ∧ SlQ l k (PtS l k (.dct tk (dKs ks key) (dVs ks vs key v)) (F .nx))
  | _ => False
theorem dpt {tk tk' : Bool} {k : Nat} {key v : T} {ks vs : List T} : DpT tk l k key v F (.dct tk' ks vs) = ((tk' = tk ∧ ks.length < sizeMax) ∧ SlQ l k (PtS l k (.dct tk (dKs ks key) (dVs ks vs key v)) (F .nx))) := rfl
theorem s_dput {tk : Bool} {k : Nat} {as : Es} {e : E} : SQ X (.dput tk k as e) l F = SlQ l k (OwS fun _ => OQ X e l fun o l => GvQ l (fun v l => OsQ X as l fun os l => TsQ l os fun ts => KyQ tk ts fun key => SlQ l k (OwS (DpT tk l k key v F))) o) := by
  unfold SQ OsQ; rw [evS, dputM, w_bind, w_own]
  congr; funext t0
  rw [w_bind, w_giveE]
  congr; funext o l
  congr; funext v l
  rw [w_bind, w_keyM]
  congr; funext os l
  congr; funext ts
  congr; funext key
  rw [w_bind, w_own]
  congr; funext t
  cases t <;> first | rfl | skip
  rename_i tk' ks vs
  simp only [WP, dpt, wr_ite]
  split
  · rename_i h
    simp only [h, true_and]
    show WP (bind _ _) l F = _
    rw [w_bind, w_put]
    simp
    rfl
  · rename_i h; exact propext ⟨False.elim, fun x => h x.1⟩
def WdT (vals : Bool) (K : List T → Prop) : T → Prop
  | .dct _ ks vs => K (if vals = true then vs else ks)
  | _ => False
theorem wdq {tk vals : Bool} {K : List T → Prop} {ks vs : List T} : WdT vals K (.dct tk ks vs) = K (if vals = true then vs else ks) := rfl
theorem s_ford {vals : Bool} {tg : Tg} {k : Nat} {b : Ss} {fg : List Nat} : SQ X (.ford vals tg k b fg) l F = SlQ l k (TkS l k fun t l => WdT vals (fun xs => ForQ X tg b fg xs (forget fg l) F) t) := by
  unfold SQ ForQ
  rw [evS, forS, w_bind]
  unfold dkM
  rw [w_bind, w_take]
  congr; funext t l
  cases t <;> first | rfl | skip
  rename_i tk ks vs
  rw [w_ret, wdq]
  simp only [WP, lock]
  rcases forM tg.store (evSs X b) fg (if vals = true then vs else ks) (forget fg l) with _ | ⟨_, _⟩ <;> rfl
end Ir.Wk

set_option maxRecDepth 20000
namespace Ir.Wk
theorem W : (type_of% @w_ite) ∧ (type_of% @wr_some) ∧ (type_of% @wr_none) ∧ (type_of% @wr_ite) ∧ (type_of% @slq0) ∧ (type_of% @slqS) ∧ (type_of% @rds1) ∧ (type_of% @rds2) ∧ (type_of% @rds3) ∧ (type_of% @rds4) ∧ (type_of% @tks1) ∧ (type_of% @tks2) ∧ (type_of% @set0) ∧ (type_of% @setS) ∧ (type_of% @sts1) ∧ (type_of% @sts2) ∧ (type_of% @sts3) ∧ (type_of% @ows1) ∧ (type_of% @ows2) ∧ (type_of% @pts1) ∧ (type_of% @pts2) ∧ (type_of% @opq1) ∧ (type_of% @opq2) ∧ (type_of% @opq3) ∧ (type_of% @tsq_nil) ∧ (type_of% @tsq_cons) ∧ (type_of% @trq) ∧ (type_of% @inq) ∧ (type_of% @e_con) ∧ (type_of% @e_glo) ∧ (type_of% @e_var) ∧ (type_of% @os_nil) ∧ (type_of% @os_cons) ∧ (type_of% @o_var) ∧ (type_of% @o_con) ∧ (type_of% @o_glo) ∧ (type_of% @o_pr) ∧ (type_of% @o_tup) ∧ (type_of% @o_lst) ∧ (type_of% @o_and) ∧ (type_of% @o_or) ∧ (type_of% @o_not) ∧ (type_of% @o_ite) ∧ (type_of% @o_chn) ∧ (type_of% @o_call) ∧ (type_of% @o_pop) ∧ (type_of% @o_popAt) ∧ (type_of% @o_sl) ∧ (type_of% @o_index) ∧ (type_of% @o_count) ∧ (type_of% @o_join) ∧ (type_of% @o_cmp) ∧ (type_of% @o_cmp2) ∧ (type_of% @o_dget) ∧ (type_of% @e_pr) ∧ (type_of% @gvq1) ∧ (type_of% @gvq2) ∧ (type_of% @gvq3) ∧ (type_of% @gsq_nil) ∧ (type_of% @gsq_cons) ∧ (type_of% @e_tup) ∧ (type_of% @e_lst) ∧ (type_of% @e_and) ∧ (type_of% @e_or) ∧ (type_of% @e_not) ∧ (type_of% @e_ite) ∧ (type_of% @e_chn) ∧ (type_of% @popq) ∧ (type_of% @e_pop) ∧ (type_of% @e_popAt) ∧ (type_of% @e_join) ∧ (type_of% @e_sl) ∧ (type_of% @e_index) ∧ (type_of% @e_count) ∧ (type_of% @lq_nil) ∧ (type_of% @lq_t) ∧ (type_of% @lq_v) ∧ (type_of% @lq_f) ∧ (type_of% @bq_nil) ∧ (type_of% @bq_t) ∧ (type_of% @bq_v) ∧ (type_of% @bq_f) ∧ (type_of% @cq_t) ∧ (type_of% @cq_f) ∧ (type_of% @wk1) ∧ (type_of% @wk2) ∧ (type_of% @wk3) ∧ (type_of% @i_e) ∧ (type_of% @i_r1) ∧ (type_of% @i_r2) ∧ (type_of% @i_r3) ∧ (type_of% @sa_nil) ∧ (type_of% @sa_cons) ∧ (type_of% @tg_nm) ∧ (type_of% @tg_tp) ∧ (type_of% @unq_t) ∧ (type_of% @unq_l) ∧ (type_of% @cs_nil) ∧ (type_of% @cs_cons) ∧ (type_of% @e_cmp) ∧ (type_of% @e_cmp2) ∧ (type_of% @e_dget) ∧ (type_of% @stq) ∧ (type_of% @e_dnew) ∧ (type_of% @e_dgt) ∧ (type_of% @e_dix) ∧ (type_of% @e_dixv) ∧ (type_of% @o_dixv) ∧ (type_of% @kvt) ∧ (type_of% @e_din) ∧ (type_of% @e_repl) ∧ (type_of% @o_dnew) ∧ (type_of% @o_dgt) ∧ (type_of% @o_dix) ∧ (type_of% @o_din) ∧ (type_of% @o_repl) ∧ (type_of% @dcq) ∧ (type_of% @kyq_i) ∧ (type_of% @kyq_s) ∧ (type_of% @kyq_t) ∧ (type_of% @s_par3) ∧ (type_of% @pr3q) ∧ (type_of% @s_dput) ∧ (type_of% @dpt) ∧ (type_of% @s_ford) ∧ (type_of% @wdq) ∧ (type_of% @s_augi) ∧ (type_of% @nx1) ∧ (type_of% @nx2) ∧ (type_of% @nx3) ∧ (type_of% @nx4) ∧ (type_of% @ss_nil) ∧ (type_of% @ss_cons) ∧ (type_of% @s_asg) ∧ (type_of% @mvs1) ∧ (type_of% @mvs2) ∧ (type_of% @s_mov) ∧ (type_of% @s_unp) ∧ (type_of% @s_par) ∧ (type_of% @parq1) ∧ (type_of% @parq2) ∧ (type_of% @parq3) ∧ (type_of% @parq4) ∧ (type_of% @parq5) ∧ (type_of% @s_stk) ∧ (type_of% @agk) ∧ (type_of% @ags1) ∧ (type_of% @ags2) ∧ (type_of% @s_aug) ∧ (type_of% @s_exp) ∧ (type_of% @apt) ∧ (type_of% @s_app) ∧ (type_of% @inst) ∧ (type_of% @s_ins) ∧ (type_of% @rvt) ∧ (type_of% @s_rev) ∧ (type_of% @sit) ∧ (type_of% @s_seti) ∧ (type_of% @frk) ∧ (type_of% @ait) ∧ (type_of% @s_for) ∧ (type_of% @go1) ∧ (type_of% @go2) ∧ (type_of% @go3) ∧ (type_of% @go4) ∧ (type_of% @for_nil) ∧ (type_of% @s_whl) ∧ (type_of% @s_ret) ∧ (type_of% @rvs1) ∧ (type_of% @rvs2) ∧ (type_of% @s_retv) ∧ (type_of% @s_retN) ∧ (type_of% @s_brk) ∧ (type_of% @s_cnt) ∧ (type_of% @s_pas) ∧ (type_of% @fnq1) ∧ (type_of% @fnq2) ∧ (type_of% @p_add) ∧ (type_of% @p_add_s) ∧ (type_of% @p_add_t) ∧ (type_of% @p_add_l) ∧ (type_of% @p_sub) ∧ (type_of% @p_mul) ∧ (type_of% @p_mul_s) ∧ (type_of% @p_mul_l) ∧ (type_of% @p_mul_t) ∧ (type_of% @p_fdv) ∧ (type_of% @p_mod) ∧ (type_of% @p_pow) ∧ (type_of% @p_neg) ∧ (type_of% @p_abs) ∧ (type_of% @p_eq) ∧ (type_of% @p_ne) ∧ (type_of% @p_eq_b) ∧ (type_of% @p_ne_b) ∧ (type_of% @p_eq_s) ∧ (type_of% @p_ne_s) ∧ (type_of% @p_eq_t) ∧ (type_of% @p_ne_t) ∧ (type_of% @p_eq_l) ∧ (type_of% @p_ne_l) ∧ (type_of% @p_lt) ∧ (type_of% @p_le) ∧ (type_of% @p_gt) ∧ (type_of% @p_ge) ∧ (type_of% @p_isN) ∧ (type_of% @p_notN) ∧ (type_of% @p_isB) ∧ (type_of% @p_isI) ∧ (type_of% @p_isS) ∧ (type_of% @p_isT) ∧ (type_of% @p_len) ∧ (type_of% @p_len_t) ∧ (type_of% @p_len_s) ∧ (type_of% @p_idx) ∧ (type_of% @p_idx_t) ∧ (type_of% @p_idx_s) ∧ (type_of% @p_int) ∧ (type_of% @p_int_b) ∧ (type_of% @p_tuple) ∧ (type_of% @p_tuple_t) ∧ (type_of% @p_list) ∧ (type_of% @p_list_t) ∧ (type_of% @p_sum) ∧ (type_of% @p_sum_t) ∧ (type_of% @p_min1) ∧ (type_of% @p_max1) ∧ (type_of% @p_min1_t) ∧ (type_of% @p_max1_t) ∧ (type_of% @p_sorted) ∧ (type_of% @p_sorted_s) ∧ (type_of% @p_sorted_t) ∧ (type_of% @p_sorted_d) ∧ (type_of% @p_sset) ∧ (type_of% @p_sset_t) ∧ (type_of% @p_lset) ∧ (type_of% @p_lset_t) ∧ (type_of% @p_shl) ∧ (type_of% @p_shr) ∧ (type_of% @p_band) ∧ (type_of% @p_bor) ∧ (type_of% @p_min3) ∧ (type_of% @p_min2) ∧ (type_of% @p_max2) ∧ (type_of% @p_all) ∧ (type_of% @p_any) ∧ (type_of% @p_sl00) ∧ (type_of% @p_sl10) ∧ (type_of% @p_sl01) ∧ (type_of% @p_sl11) ∧ (type_of% @c_l) ∧ (type_of% @c_t) ∧ (type_of% @c_s) ∧ (type_of% @p_rev) ∧ (type_of% @p_rev_t) ∧ (type_of% @p_rev_s) ∧ (type_of% @p_ev) ∧ (type_of% @p_ev_t) ∧ (type_of% @p_ev_s) ∧ (type_of% @p_od) ∧ (type_of% @p_od_t) ∧ (type_of% @p_od_s) ∧ (type_of% @p_join) ∧ (type_of% @p_lrng1) ∧ (type_of% @p_lrng2) ∧ (type_of% @p_count) ∧ (type_of% @p_trng1) ∧ (type_of% @p_trng2) ∧ (type_of% @p_trng3) ∧ (type_of% @p_in_s) ∧ (type_of% @p_nin_s) ∧ (type_of% @p_in_i) ∧ (type_of% @p_in_ti) ∧ (type_of% @p_nin_i) ∧ (type_of% @p_nin_ti) ∧ (type_of% @at_map) ∧ (type_of% @at0) ∧ (type_of% @at1) ∧ (type_of% @at2) ∧ (type_of% @at3) ∧ (type_of% @at4) ∧ (type_of% @at5) :=
  ⟨@w_ite, @wr_some, @wr_none, @wr_ite, @slq0, @slqS, @rds1, @rds2, @rds3, @rds4, @tks1, @tks2, @set0, @setS, @sts1, @sts2, @sts3, @ows1, @ows2, @pts1, @pts2, @opq1, @opq2, @opq3, @tsq_nil, @tsq_cons, @trq, @inq, @e_con, @e_glo, @e_var, @os_nil, @os_cons, @o_var, @o_con, @o_glo, @o_pr, @o_tup, @o_lst, @o_and, @o_or, @o_not, @o_ite, @o_chn, @o_call, @o_pop, @o_popAt, @o_sl, @o_index, @o_count, @o_join, @o_cmp, @o_cmp2, @o_dget, @e_pr, @gvq1, @gvq2, @gvq3, @gsq_nil, @gsq_cons, @e_tup, @e_lst, @e_and, @e_or, @e_not, @e_ite, @e_chn, @popq, @e_pop, @e_popAt, @e_join, @e_sl, @e_index, @e_count, @lq_nil, @lq_t, @lq_v, @lq_f, @bq_nil, @bq_t, @bq_v, @bq_f, @cq_t, @cq_f, @wk1, @wk2, @wk3, @i_e, @i_r1, @i_r2, @i_r3, @sa_nil, @sa_cons, @tg_nm, @tg_tp, @unq_t, @unq_l, @cs_nil, @cs_cons, @e_cmp, @e_cmp2, @e_dget, @stq, @e_dnew, @e_dgt, @e_dix, @e_dixv, @o_dixv, @kvt, @e_din, @e_repl, @o_dnew, @o_dgt, @o_dix, @o_din, @o_repl, @dcq, @kyq_i, @kyq_s, @kyq_t, @s_par3, @pr3q, @s_dput, @dpt, @s_ford, @wdq, @s_augi, @nx1, @nx2, @nx3, @nx4, @ss_nil, @ss_cons, @s_asg, @mvs1, @mvs2, @s_mov, @s_unp, @s_par, @parq1, @parq2, @parq3, @parq4, @parq5, @s_stk, @agk, @ags1, @ags2, @s_aug, @s_exp, @apt, @s_app, @inst, @s_ins, @rvt, @s_rev, @sit, @s_seti, @frk, @ait, @s_for, @go1, @go2, @go3, @go4, @for_nil, @s_whl, @s_ret, @rvs1, @rvs2, @s_retv, @s_retN, @s_brk, @s_cnt, @s_pas, @fnq1, @fnq2, @p_add, @p_add_s, @p_add_t, @p_add_l, @p_sub, @p_mul, @p_mul_s, @p_mul_l, @p_mul_t, @p_fdv, @p_mod, @p_pow, @p_neg, @p_abs, @p_eq, @p_ne, @p_eq_b, @p_ne_b, @p_eq_s, @p_ne_s, @p_eq_t, @p_ne_t, @p_eq_l, @p_ne_l, @p_lt, @p_le, @p_gt, @p_ge, @p_isN, @p_notN, @p_isB, @p_isI, @p_isS, @p_isT, @p_len, @p_len_t, @p_len_s, @p_idx, @p_idx_t, @p_idx_s, @p_int, @p_int_b, @p_tuple, @p_tuple_t, @p_list, @p_list_t, @p_sum, @p_sum_t, @p_min1, @p_max1, @p_min1_t, @p_max1_t, @p_sorted, @p_sorted_s, @p_sorted_t, @p_sorted_d, @p_sset, @p_sset_t, @p_lset, @p_lset_t, @p_shl, @p_shr, @p_band, @p_bor, @p_min3, @p_min2, @p_max2, @p_all, @p_any, @p_sl00, @p_sl10, @p_sl01, @p_sl11, @c_l, @c_t, @c_s, @p_rev, @p_rev_t, @p_rev_s, @p_ev, @p_ev_t, @p_ev_s, @p_od, @p_od_t, @p_od_s, @p_join, @p_lrng1, @p_lrng2, @p_count, @p_trng1, @p_trng2, @p_trng3, @p_in_s, @p_nin_s, @p_in_i, @p_in_ti, @p_nin_i, @p_nin_ti, @at_map, @at0, @at1, @at2, @at3, @at4, @at5⟩
end Ir.Wk

namespace Ir.Wk
def LawF (P : Pg) (k fl : Nat) : Prop := ∀ ns : List Int, ns.length ≤ 63 → (∀ z ∈ ns, z.natAbs.log2 ≤ 1048576) → FQ P k fl [.lst (ns.map .int)] fun v fin => v = .fr (.bl true) ∧ fin = []
theorem bits_log (z : Int) : z.natAbs.log2 ≤ PySem.Builtin.Int.intBits z := by
  unfold PySem.Builtin.Int.intBits
  split <;> simp_all
theorem LawF.done {P : Pg} {k fl : Nat} (h : LawF P k fl) : LawT P k fl := fun ns h1 h2 => by
  obtain ⟨v, fin, e, e1, e2⟩ := FQ.ex (h ns h1 fun z hz => Nat.le_trans (bits_log z) (h2 z hz))
  subst e1 e2
  exact e
end Ir.Wk

set_option Elab.async false
set_option linter.all false
set_option maxRecDepth 100000
set_option maxHeartbeats 1000000
namespace Ir.Wk.Law
abbrev CX (n : Nat) : Cx := ⟨prog.tab, prog.glo, callT prog n⟩
theorem call_ends_of {n : Nat} {z : Bool} {as : Es} {l : Loc} {R : Vl → Loc → Prop} : EQ ⟨prog.tab, prog.glo, callT prog n⟩ (.call F.ends_of z as) l R = OsQ ⟨prog.tab, prog.glo, callT prog n⟩ as l fun os l => CQ (callT prog n F.ends_of) [false] z os l R := e_call rfl rfl
theorem open_ends_of {n : Nat} {a0 : T} {K : Vl → List T → Prop} (h : SsQ ⟨prog.tab, prog.glo, callT prog n⟩ d_ends_of.body [.fr a0, .no, .no] (FnQ [false] K)) : FQ prog (n + 1) F.ends_of [a0] K := fq_open (d := d_ends_of) rfl ⟨rfl, Nat.le_of_ble_eq_true rfl⟩ h
theorem call_spans {n : Nat} {z : Bool} {as : Es} {l : Loc} {R : Vl → Loc → Prop} : EQ ⟨prog.tab, prog.glo, callT prog n⟩ (.call F.spans z as) l R = OsQ ⟨prog.tab, prog.glo, callT prog n⟩ as l fun os l => CQ (callT prog n F.spans) [false] z os l R := e_call rfl rfl
theorem open_spans {n : Nat} {a0 : T} {K : Vl → List T → Prop} (h : SsQ ⟨prog.tab, prog.glo, callT prog n⟩ d_spans.body [.fr a0, .no, .no] (FnQ [false] K)) : FQ prog (n + 1) F.spans [a0] K := fq_open (d := d_spans) rfl ⟨rfl, Nat.le_of_ble_eq_true rfl⟩ h
theorem call_covering {n : Nat} {z : Bool} {as : Es} {l : Loc} {R : Vl → Loc → Prop} : EQ ⟨prog.tab, prog.glo, callT prog n⟩ (.call F.covering z as) l R = OsQ ⟨prog.tab, prog.glo, callT prog n⟩ as l fun os l => CQ (callT prog n F.covering) [false, false] z os l R := e_call rfl rfl
theorem open_covering {n : Nat} {a0 a1 : T} {K : Vl → List T → Prop} (h : SsQ ⟨prog.tab, prog.glo, callT prog n⟩ d_covering.body [.fr a0, .fr a1, .no, .no] (FnQ [false, false] K)) : FQ prog (n + 1) F.covering [a0, a1] K := fq_open (d := d_covering) rfl ⟨rfl, Nat.le_of_ble_eq_true rfl⟩ h
theorem call_pieces {n : Nat} {z : Bool} {as : Es} {l : Loc} {R : Vl → Loc → Prop} : EQ ⟨prog.tab, prog.glo, callT prog n⟩ (.call F.pieces z as) l R = OsQ ⟨prog.tab, prog.glo, callT prog n⟩ as l fun os l => CQ (callT prog n F.pieces) [false, false] z os l R := e_call rfl rfl
theorem open_pieces {n : Nat} {a0 a1 : T} {K : Vl → List T → Prop} (h : SsQ ⟨prog.tab, prog.glo, callT prog n⟩ d_pieces.body [.fr a0, .fr a1, .no, .no, .no, .no, .no] (FnQ [false, false] K)) : FQ prog (n + 1) F.pieces [a0, a1] K := fq_open (d := d_pieces) rfl ⟨rfl, Nat.le_of_ble_eq_true rfl⟩ h
theorem call_best_place {n : Nat} {z : Bool} {as : Es} {l : Loc} {R : Vl → Loc → Prop} : EQ ⟨prog.tab, prog.glo, callT prog n⟩ (.call F.best_place z as) l R = OsQ ⟨prog.tab, prog.glo, callT prog n⟩ as l fun os l => CQ (callT prog n F.best_place) [false] z os l R := e_call rfl rfl
theorem open_best_place {n : Nat} {a0 : T} {K : Vl → List T → Prop} (h : SsQ ⟨prog.tab, prog.glo, callT prog n⟩ d_best_place.body [.fr a0, .no, .no, .no, .no, .no, .no, .no, .no, .no, .no, .no] (FnQ [false] K)) : FQ prog (n + 1) F.best_place [a0] K := fq_open (d := d_best_place) rfl ⟨rfl, Nat.le_of_ble_eq_true rfl⟩ h
theorem call__law_draws {n : Nat} {z : Bool} {as : Es} {l : Loc} {R : Vl → Loc → Prop} : EQ ⟨prog.tab, prog.glo, callT prog n⟩ (.call F._law_draws z as) l R = OsQ ⟨prog.tab, prog.glo, callT prog n⟩ as l fun os l => CQ (callT prog n F._law_draws) [false, false] z os l R := e_call rfl rfl
theorem open__law_draws {n : Nat} {a0 a1 : T} {K : Vl → List T → Prop} (h : SsQ ⟨prog.tab, prog.glo, callT prog n⟩ d__law_draws.body [.fr a0, .fr a1, .no, .no, .no, .no, .no, .no, .no] (FnQ [false, false] K)) : FQ prog (n + 1) F._law_draws [a0, a1] K := fq_open (d := d__law_draws) rfl ⟨rfl, Nat.le_of_ble_eq_true rfl⟩ h
theorem call__law_take {n : Nat} {z : Bool} {as : Es} {l : Loc} {R : Vl → Loc → Prop} : EQ ⟨prog.tab, prog.glo, callT prog n⟩ (.call F._law_take z as) l R = OsQ ⟨prog.tab, prog.glo, callT prog n⟩ as l fun os l => CQ (callT prog n F._law_take) [true, false] z os l R := e_call rfl rfl
theorem open__law_take {n : Nat} {a0 a1 : T} {K : Vl → List T → Prop} (h : SsQ ⟨prog.tab, prog.glo, callT prog n⟩ d__law_take.body [.rw a0, .fr a1] (FnQ [true, false] K)) : FQ prog (n + 1) F._law_take [a0, a1] K := fq_open (d := d__law_take) rfl ⟨rfl, Nat.le_of_ble_eq_true rfl⟩ h
theorem call__law_raw {n : Nat} {z : Bool} {as : Es} {l : Loc} {R : Vl → Loc → Prop} : EQ ⟨prog.tab, prog.glo, callT prog n⟩ (.call F._law_raw z as) l R = OsQ ⟨prog.tab, prog.glo, callT prog n⟩ as l fun os l => CQ (callT prog n F._law_raw) [false, true] z os l R := e_call rfl rfl
theorem open__law_raw {n : Nat} {a0 a1 : T} {K : Vl → List T → Prop} (h : SsQ ⟨prog.tab, prog.glo, callT prog n⟩ d__law_raw.body [.fr a0, .rw a1] (FnQ [false, true] K)) : FQ prog (n + 1) F._law_raw [a0, a1] K := fq_open (d := d__law_raw) rfl ⟨rfl, Nat.le_of_ble_eq_true rfl⟩ h
theorem call__law_same {n : Nat} {z : Bool} {as : Es} {l : Loc} {R : Vl → Loc → Prop} : EQ ⟨prog.tab, prog.glo, callT prog n⟩ (.call F._law_same z as) l R = OsQ ⟨prog.tab, prog.glo, callT prog n⟩ as l fun os l => CQ (callT prog n F._law_same) [false, false] z os l R := e_call rfl rfl
theorem open__law_same {n : Nat} {a0 a1 : T} {K : Vl → List T → Prop} (h : SsQ ⟨prog.tab, prog.glo, callT prog n⟩ d__law_same.body [.fr a0, .fr a1, .no] (FnQ [false, false] K)) : FQ prog (n + 1) F._law_same [a0, a1] K := fq_open (d := d__law_same) rfl ⟨rfl, Nat.le_of_ble_eq_true rfl⟩ h
theorem call__law_is_integer {n : Nat} {z : Bool} {as : Es} {l : Loc} {R : Vl → Loc → Prop} : EQ ⟨prog.tab, prog.glo, callT prog n⟩ (.call F._law_is_integer z as) l R = OsQ ⟨prog.tab, prog.glo, callT prog n⟩ as l fun os l => CQ (callT prog n F._law_is_integer) [false] z os l R := e_call rfl rfl
theorem open__law_is_integer {n : Nat} {a0 : T} {K : Vl → List T → Prop} (h : SsQ ⟨prog.tab, prog.glo, callT prog n⟩ d__law_is_integer.body [.fr a0] (FnQ [false] K)) : FQ prog (n + 1) F._law_is_integer [a0] K := fq_open (d := d__law_is_integer) rfl ⟨rfl, Nat.le_of_ble_eq_true rfl⟩ h
theorem call__law_length {n : Nat} {z : Bool} {as : Es} {l : Loc} {R : Vl → Loc → Prop} : EQ ⟨prog.tab, prog.glo, callT prog n⟩ (.call F._law_length z as) l R = OsQ ⟨prog.tab, prog.glo, callT prog n⟩ as l fun os l => CQ (callT prog n F._law_length) [true, false] z os l R := e_call rfl rfl
theorem open__law_length {n : Nat} {a0 a1 : T} {K : Vl → List T → Prop} (h : SsQ ⟨prog.tab, prog.glo, callT prog n⟩ d__law_length.body [.rw a0, .fr a1, .no] (FnQ [true, false] K)) : FQ prog (n + 1) F._law_length [a0, a1] K := fq_open (d := d__law_length) rfl ⟨rfl, Nat.le_of_ble_eq_true rfl⟩ h
theorem call__law_strip {n : Nat} {z : Bool} {as : Es} {l : Loc} {R : Vl → Loc → Prop} : EQ ⟨prog.tab, prog.glo, callT prog n⟩ (.call F._law_strip z as) l R = OsQ ⟨prog.tab, prog.glo, callT prog n⟩ as l fun os l => CQ (callT prog n F._law_strip) [true, false, false] z os l R := e_call rfl rfl
theorem open__law_strip {n : Nat} {a0 a1 a2 : T} {K : Vl → List T → Prop} (h : SsQ ⟨prog.tab, prog.glo, callT prog n⟩ d__law_strip.body [.rw a0, .fr a1, .fr a2, .no, .no, .no, .no, .no, .no, .no] (FnQ [true, false, false] K)) : FQ prog (n + 1) F._law_strip [a0, a1, a2] K := fq_open (d := d__law_strip) rfl ⟨rfl, Nat.le_of_ble_eq_true rfl⟩ h
theorem call__law_parts {n : Nat} {z : Bool} {as : Es} {l : Loc} {R : Vl → Loc → Prop} : EQ ⟨prog.tab, prog.glo, callT prog n⟩ (.call F._law_parts z as) l R = OsQ ⟨prog.tab, prog.glo, callT prog n⟩ as l fun os l => CQ (callT prog n F._law_parts) [true] z os l R := e_call rfl rfl
theorem open__law_parts {n : Nat} {a0 : T} {K : Vl → List T → Prop} (h : SsQ ⟨prog.tab, prog.glo, callT prog n⟩ d__law_parts.body [.rw a0, .no] (FnQ [true] K)) : FQ prog (n + 1) F._law_parts [a0] K := fq_open (d := d__law_parts) rfl ⟨rfl, Nat.le_of_ble_eq_true rfl⟩ h
theorem call__law_ends {n : Nat} {z : Bool} {as : Es} {l : Loc} {R : Vl → Loc → Prop} : EQ ⟨prog.tab, prog.glo, callT prog n⟩ (.call F._law_ends z as) l R = OsQ ⟨prog.tab, prog.glo, callT prog n⟩ as l fun os l => CQ (callT prog n F._law_ends) [false] z os l R := e_call rfl rfl
theorem open__law_ends {n : Nat} {a0 : T} {K : Vl → List T → Prop} (h : SsQ ⟨prog.tab, prog.glo, callT prog n⟩ d__law_ends.body [.fr a0, .no, .no] (FnQ [false] K)) : FQ prog (n + 1) F._law_ends [a0] K := fq_open (d := d__law_ends) rfl ⟨rfl, Nat.le_of_ble_eq_true rfl⟩ h
theorem call__law_best {n : Nat} {z : Bool} {as : Es} {l : Loc} {R : Vl → Loc → Prop} : EQ ⟨prog.tab, prog.glo, callT prog n⟩ (.call F._law_best z as) l R = OsQ ⟨prog.tab, prog.glo, callT prog n⟩ as l fun os l => CQ (callT prog n F._law_best) [false] z os l R := e_call rfl rfl
theorem open__law_best {n : Nat} {a0 : T} {K : Vl → List T → Prop} (h : SsQ ⟨prog.tab, prog.glo, callT prog n⟩ d__law_best.body [.fr a0, .no, .no, .no, .no, .no, .no, .no, .no, .no] (FnQ [false] K)) : FQ prog (n + 1) F._law_best [a0] K := fq_open (d := d__law_best) rfl ⟨rfl, Nat.le_of_ble_eq_true rfl⟩ h
theorem call__law_gone_through {n : Nat} {z : Bool} {as : Es} {l : Loc} {R : Vl → Loc → Prop} : EQ ⟨prog.tab, prog.glo, callT prog n⟩ (.call F._law_gone_through z as) l R = OsQ ⟨prog.tab, prog.glo, callT prog n⟩ as l fun os l => CQ (callT prog n F._law_gone_through) [false] z os l R := e_call rfl rfl
theorem open__law_gone_through {n : Nat} {a0 : T} {K : Vl → List T → Prop} (h : SsQ ⟨prog.tab, prog.glo, callT prog n⟩ d__law_gone_through.body [.fr a0, .no, .no, .no, .no, .no, .no] (FnQ [false] K)) : FQ prog (n + 1) F._law_gone_through [a0] K := fq_open (d := d__law_gone_through) rfl ⟨rfl, Nat.le_of_ble_eq_true rfl⟩ h
theorem call_law {n : Nat} {z : Bool} {as : Es} {l : Loc} {R : Vl → Loc → Prop} : EQ ⟨prog.tab, prog.glo, callT prog n⟩ (.call F.law z as) l R = OsQ ⟨prog.tab, prog.glo, callT prog n⟩ as l fun os l => CQ (callT prog n F.law) [false] z os l R := e_call rfl rfl
theorem open_law {n : Nat} {a0 : T} {K : Vl → List T → Prop} (h : SsQ ⟨prog.tab, prog.glo, callT prog n⟩ d_law.body [.fr a0, .no, .no, .no, .no, .no, .no, .no, .no, .no, .no, .no, .no, .no, .no, .no] (FnQ [false] K)) : FQ prog (n + 1) F.law [a0] K := fq_open (d := d_law) rfl ⟨rfl, Nat.le_of_ble_eq_true rfl⟩ h
local macro_rules | `(tactic| simp! [$xs,*]) => `(tactic| simp -dsimp only [↓W, ↓TnQ, ↓Tn2Q, ↓s_iff, ↓call_ends_of, ↓call_spans, ↓call_covering, ↓call_pieces, ↓call_best_place, ↓call__law_draws, ↓call__law_take, ↓call__law_raw, ↓call__law_same, ↓call__law_is_integer, ↓call__law_length, ↓call__law_strip, ↓call__law_parts, ↓call__law_ends, ↓call__law_best, ↓call__law_gone_through, ↓call_law, isDc_non, isDc_bl, isDc_int, isDc_str, isDc_tup, isDc_lst, isKy_i, isKy_s, fin0, fin1, fin2, Option.map_some, lents, shown, owned, fixed, freeze, forget, lock, unlock, back0, wipeL, List.foldl_cons, List.foldl_nil, List.getElem?_cons_zero, List.getElem?_cons_succ, nodupB, List.any_cons, List.any_nil, List.contains_cons, List.contains_nil, List.isEmpty_nil, Vl.sl, Vl.t, Bool.not_true, Bool.not_false, Bool.and_true, Bool.true_and, Bool.false_and, Bool.and_false, Bool.or_true, Bool.true_or, Bool.or_false, Bool.false_or, Nat.reduceBEq, decide_eq_true_eq, true_and, and_true, Bool.false_eq_true, decide_true, decide_false, ite_true, ite_false, isNon_non, isNon_bl, isNon_int, isNon_str, isNon_tup, isNon_lst, isBl_non, isBl_bl, isBl_int, isBl_str, isBl_tup, isBl_lst, isIn_non, isIn_bl, isIn_int, isIn_str, isIn_tup, isIn_lst, isSt_non, isSt_bl, isSt_int, isSt_str, isSt_tup, isSt_lst, isTu_non, isTu_bl, isTu_int, isTu_str, isTu_tup, isTu_lst, isLst_non, isLst_bl, isLst_int, isLst_str, isLst_tup, isLst_lst, augOk, Vl.clear, T.pure, pures, clearT, List.all_cons, List.all_nil, pures_ints, List.length_cons, List.length_nil, List.length_map, sing, lcons2, lmis1, lmis2, lmis3, lmis4, false_and, and_false, reduceIte, reduceCtorEq, Int.reduceLT, Int.reduceLE, Int.reduceAdd, Int.reduceSub, Int.reduceMul, Int.reduceNeg, Int.reduceEq, Int.reduceNe, Int.reduceToNat, Int.reducePow, Nat.reduceAdd, Nat.reduceLT, Nat.reduceLeDiff, Int.cast_ofNat_Int, Int.natCast_zero, List.set_cons_zero, List.set_cons_succ, Int.reduceMod, Int.reduceDiv, Nat.reduceMul, Nat.reducePow, Nat.reduceEqDiff, decide_not, not_true_eq_false, not_false_eq_true, ne_eq, Bool.and_eq_true, Bool.not_eq_true', decide_eq_false_iff_not, $xs,*])
local macro_rules | `(tactic| simp! only [$xs,*]) => `(tactic| simp -dsimp only [↓W, ↓TnQ, ↓Tn2Q, ↓call_ends_of, ↓call_spans, ↓call_covering, ↓call_pieces, ↓call_best_place, ↓call__law_draws, ↓call__law_take, ↓call__law_raw, ↓call__law_same, ↓call__law_is_integer, ↓call__law_length, ↓call__law_strip, ↓call__law_parts, ↓call__law_ends, ↓call__law_best, ↓call__law_gone_through, ↓call_law, isDc_non, isDc_bl, isDc_int, isDc_str, isDc_tup, isDc_lst, isKy_i, isKy_s, fin0, fin1, fin2, Option.map_some, lents, shown, owned, fixed, freeze, forget, lock, unlock, back0, wipeL, List.foldl_cons, List.foldl_nil, List.getElem?_cons_zero, List.getElem?_cons_succ, nodupB, List.any_cons, List.any_nil, List.contains_cons, List.contains_nil, List.isEmpty_nil, Vl.sl, Vl.t, Bool.not_true, Bool.not_false, Bool.and_true, Bool.true_and, Bool.false_and, Bool.and_false, Bool.or_true, Bool.true_or, Bool.or_false, Bool.false_or, Nat.reduceBEq, decide_eq_true_eq, true_and, and_true, Bool.false_eq_true, decide_true, decide_false, ite_true, ite_false, isNon_non, isNon_bl, isNon_int, isNon_str, isNon_tup, isNon_lst, isBl_non, isBl_bl, isBl_int, isBl_str, isBl_tup, isBl_lst, isIn_non, isIn_bl, isIn_int, isIn_str, isIn_tup, isIn_lst, isSt_non, isSt_bl, isSt_int, isSt_str, isSt_tup, isSt_lst, isTu_non, isTu_bl, isTu_int, isTu_str, isTu_tup, isTu_lst, isLst_non, isLst_bl, isLst_int, isLst_str, isLst_tup, isLst_lst, augOk, Vl.clear, T.pure, pures, clearT, List.all_cons, List.all_nil, pures_ints, List.length_cons, List.length_nil, List.length_map, sing, lcons2, lmis1, lmis2, lmis3, lmis4, false_and, and_false, reduceIte, reduceCtorEq, Int.reduceLT, Int.reduceLE, Int.reduceAdd, Int.reduceSub, Int.reduceMul, Int.reduceNeg, Int.reduceEq, Int.reduceNe, Int.reduceToNat, Int.reducePow, Nat.reduceAdd, Nat.reduceLT, Nat.reduceLeDiff, Int.cast_ofNat_Int, Int.natCast_zero, List.set_cons_zero, List.set_cons_succ, Int.reduceMod, Int.reduceDiv, Nat.reduceMul, Nat.reducePow, Nat.reduceEqDiff, decide_not, not_true_eq_false, not_false_eq_true, ne_eq, Bool.and_eq_true, Bool.not_eq_true', decide_eq_false_iff_not, $xs,*])
local macro_rules | `(tactic| simp_all! [$xs,*]) => `(tactic| simp -dsimp (disch := omega) only [↓W, ↓TnQ, ↓Tn2Q, ↓s_iff, ↓call_ends_of, ↓call_spans, ↓call_covering, ↓call_pieces, ↓call_best_place, ↓call__law_draws, ↓call__law_take, ↓call__law_raw, ↓call__law_same, ↓call__law_is_integer, ↓call__law_length, ↓call__law_strip, ↓call__law_parts, ↓call__law_ends, ↓call__law_best, ↓call__law_gone_through, ↓call_law, isDc_non, isDc_bl, isDc_int, isDc_str, isDc_tup, isDc_lst, isKy_i, isKy_s, fin0, fin1, fin2, Option.map_some, lents, shown, owned, fixed, freeze, forget, lock, unlock, back0, wipeL, List.foldl_cons, List.foldl_nil, List.getElem?_cons_zero, List.getElem?_cons_succ, nodupB, List.any_cons, List.any_nil, List.contains_cons, List.contains_nil, List.isEmpty_nil, Vl.sl, Vl.t, Bool.not_true, Bool.not_false, Bool.and_true, Bool.true_and, Bool.false_and, Bool.and_false, Bool.or_true, Bool.true_or, Bool.or_false, Bool.false_or, Nat.reduceBEq, decide_eq_true_eq, true_and, and_true, Bool.false_eq_true, decide_true, decide_false, ite_true, ite_false, isNon_non, isNon_bl, isNon_int, isNon_str, isNon_tup, isNon_lst, isBl_non, isBl_bl, isBl_int, isBl_str, isBl_tup, isBl_lst, isIn_non, isIn_bl, isIn_int, isIn_str, isIn_tup, isIn_lst, isSt_non, isSt_bl, isSt_int, isSt_str, isSt_tup, isSt_lst, isTu_non, isTu_bl, isTu_int, isTu_str, isTu_tup, isTu_lst, isLst_non, isLst_bl, isLst_int, isLst_str, isLst_tup, isLst_lst, augOk, Vl.clear, T.pure, pures, clearT, List.all_cons, List.all_nil, pures_ints, List.length_cons, List.length_nil, List.length_map, sing, lcons2, lmis1, lmis2, lmis3, lmis4, false_and, and_false, reduceIte, reduceCtorEq, Int.reduceLT, Int.reduceLE, Int.reduceAdd, Int.reduceSub, Int.reduceMul, Int.reduceNeg, Int.reduceEq, Int.reduceNe, Int.reduceToNat, Int.reducePow, Nat.reduceAdd, Nat.reduceLT, Nat.reduceLeDiff, Int.cast_ofNat_Int, Int.natCast_zero, List.set_cons_zero, List.set_cons_succ, Int.reduceMod, Int.reduceDiv, Nat.reduceMul, Nat.reducePow, Nat.reduceEqDiff, decide_not, not_true_eq_false, not_false_eq_true, ne_eq, Bool.and_eq_true, Bool.not_eq_true', decide_eq_false_iff_not, at_of, at_neg, ix_of, $xs,*])
def tkv (ds : List Int) (many : Int) : Int := match ds.getLast? with
  | some d => d % many
  | none => 0
theorem tkv_nn {ds : List Int} {many : Int} (h : 0 < many) : 0 ≤ tkv ds many := by
  unfold tkv; split
  · exact Int.emod_nonneg _ (by omega)
  · exact Int.le_refl 0
theorem tkv_lt {ds : List Int} {many : Int} (h : 0 < many) : tkv ds many < many := by
  unfold tkv; split
  · exact Int.emod_lt_of_pos _ h
  · exact h
theorem s__law_take {n : Nat} {ds : List Int} {many : Int} {K : Vl → List T → Prop} (hm : 0 < many) : FQ prog (n+1) F._law_take [.lst (ds.map .int), .int many] K = K (.fr (.int (tkv ds many))) [.lst (ds.dropLast.map .int)] := by
  refine fq_eq ?_
  refine open__law_take ?_; unfold d__law_take
  simp! []
  rcases List.eq_nil_or_concat ds with rfl | ⟨r, d, rfl⟩
  · simp [tkv]
  · have h0 : ¬ (((r.concat d).length : Nat) : Int) = 0 := by simp; omega
    have e : ((r.concat d).map T.int).getLast? = some (.int d) := by simp
    rw [if_neg h0, e]
    simp! []
    exact ⟨hm, by simp [tkv], by simp⟩
/-- a draw -/
theorem w__law_take {n : Nat} {ds : List Int} {many : Int} {K : Vl → List T → Prop} (hm : 0 < many) (h : ∀ (v : Int) (ds' : List Int), 0 ≤ v → v < many → K (.fr (.int v)) [.lst (ds'.map .int)]) : FQ prog (n+1) F._law_take [.lst (ds.map .int), .int many] K := by
  rw [s__law_take hm]
  exact h _ _ (tkv_nn hm) (tkv_lt hm)

theorem w__law_draws {n : Nat} {sc : List Int} {many : Int} {K : Vl → List T → Prop} (hs : sc.length ≤ 63) (hm0 : 0 ≤ many) (hm : many ≤ 1000000) (h : ∀ ds : List Int, K (.ow (.lst (ds.map .int))) []) : FQ prog (n+1) F._law_draws [.lst (sc.map .int), .int many] K := by
  refine open__law_draws ?_; unfold d__law_draws
  simp! []
  refine cm_map (as := sc) T.int (fun a _ => ?_) ?_
  · simp! []
  simp! []
  refine ⟨by unfold sizeMax; omega, ?_⟩
  have e1 : ∃ cs : List Int, 0 < cs.length ∧ cs.length ≤ 63 ∧ (((sc.length : Int) = 0 ∧ List.map T.int sc ++ [T.int 0] = cs.map T.int) ∨ (¬ (sc.length : Int) = 0 ∧ List.map T.int sc = cs.map T.int)) := by
    by_cases e : (sc.length : Int) = 0
    · exact ⟨sc ++ [0], by simp, by simp; omega, .inl ⟨e, by simp⟩⟩
    · exact ⟨sc, by omega, by omega, .inr ⟨e, rfl⟩⟩
  have sm : small many = true := small_of (by omega) (by omega)
  have sl : sc.length < sizeMax := by unfold sizeMax; omega
  obtain ⟨cs, h1, h2, ⟨hc, e⟩ | ⟨hc, e⟩⟩ := e1
  · rw [if_pos hc, e]
    refine ⟨sl, sm, ?_⟩
    refine for_rng (fun i l => ∃ (rest ds : List Int) (s0 : T), rest.length = cs.length ∧ ds.length = i.toNat ∧ l = [Sl.fr s0, Sl.fr (T.int many), Sl.ow (T.lst (List.map T.int cs)), Sl.ow (T.lst (List.map T.int rest)), Sl.ow (T.lst (ds.map .int)), Sl.no, Sl.no, Sl.no, Sl.no]) hm0 ⟨cs, [], _, rfl, rfl, rfl⟩ (fun i l h0 h3 hl => ?_) (fun l hl => ?_)
    · obtain ⟨rest, ds, s0, hr, hd, rfl⟩ := hl
      have p0 : 0 < (cs.length : Int) := by omega
      have p1 : 0 ≤ i % (cs.length : Int) := Int.emod_nonneg _ (by omega)
      have p2 : i % (cs.length : Int) < cs.length := Int.emod_lt_of_pos _ (by omega)
      simp! [at_of p1 p2, at_of p1 (show i % (cs.length : Int) < rest.length by rw [hr]; exact p2)]
      refine ⟨p0, by omega, ?_⟩
      generalize gi cs (i % (cs.length : Int)) = c
      generalize gi rest (i % (cs.length : Int)) = r
      have sz : ds.length < sizeMax := by unfold sizeMax; omega
      have els : mulOk c 48271 = true ∧ mulOk i 69621 = true ∧ mulOk ((c * 48271 + i * 69621 + 11) % 2147483647) ((c * 48271 + i * 69621 + 11) % 2147483647) = true ∧ mulOk 3 ((c * 48271 + i * 69621 + 11) % 2147483647) = true ∧ ds.length < sizeMax ∧ ∃ (rest_1 : List Int) (ds_1 : List Int) (s1 : T), List.length rest_1 = cs.length ∧ List.length ds_1 = (i + 1).toNat ∧ [Sl.fr s0, Sl.fr (T.int many), Sl.ow (T.lst (List.map T.int cs)), Sl.ow (T.lst (List.map T.int rest)), Sl.ow (T.lst (List.map T.int ds ++ [T.int (((c * 48271 + i * 69621 + 11) % 2147483647 * ((c * 48271 + i * 69621 + 11) % 2147483647) + 3 * ((c * 48271 + i * 69621 + 11) % 2147483647) + i) % 1000003)])), Sl.no, Sl.no, Sl.no, Sl.no] = [Sl.fr s1, Sl.fr (T.int many), Sl.ow (T.lst (List.map T.int cs)), Sl.ow (T.lst (List.map T.int rest_1)), Sl.ow (T.lst (List.map T.int ds_1)), Sl.no, Sl.no, Sl.no, Sl.no] := by
        have q0 := Int.emod_nonneg (c * 48271 + i * 69621 + 11) (show (2147483647 : Int) ≠ 0 by decide)
        have q1 := Int.emod_lt_of_pos (c * 48271 + i * 69621 + 11) (show (0 : Int) < 2147483647 by decide)
        refine ⟨mulOk_r (by omega) (by omega), mulOk_r (by omega) (by omega), mulOk_l (by omega) (by omega), mulOk_l (by omega) (by omega), sz, rest, ds ++ [((c * 48271 + i * 69621 + 11) % 2147483647 * ((c * 48271 + i * 69621 + 11) % 2147483647) + 3 * ((c * 48271 + i * 69621 + 11) % 2147483647) + i) % 1000003], s0, hr, ?_, ?_⟩
        · simp; omega
        · simp only [List.map_append, List.map_cons, List.map_nil]
      split
      · split
        · refine ⟨sz, by decide, ?_⟩
          rw [ix_of p1 (by rw [hr]; exact p2)]
          simp! []
          refine ⟨rest.set (i % (cs.length : Int)).toNat (r / 1000), ds ++ [r % 1000], s0, by simp [hr], by simp; omega, ?_⟩
          simp only [List.map_append, List.map_cons, List.map_nil, List.map_set]
        · exact els
      · exact els
    · obtain ⟨rest, ds, s0, hr, hd, rfl⟩ := hl
      simp! []
      have := h ds.reverse
      rwa [List.map_reverse] at this
  · rw [if_neg hc, e]
    refine ⟨sm, ?_⟩
    refine for_rng (fun i l => ∃ (rest ds : List Int) (s0 : T), rest.length = cs.length ∧ ds.length = i.toNat ∧ l = [Sl.fr s0, Sl.fr (T.int many), Sl.ow (T.lst (List.map T.int cs)), Sl.ow (T.lst (List.map T.int rest)), Sl.ow (T.lst (ds.map .int)), Sl.no, Sl.no, Sl.no, Sl.no]) hm0 ⟨cs, [], _, rfl, rfl, rfl⟩ (fun i l h0 h3 hl => ?_) (fun l hl => ?_)
    · obtain ⟨rest, ds, s0, hr, hd, rfl⟩ := hl
      have p0 : 0 < (cs.length : Int) := by omega
      have p1 : 0 ≤ i % (cs.length : Int) := Int.emod_nonneg _ (by omega)
      have p2 : i % (cs.length : Int) < cs.length := Int.emod_lt_of_pos _ (by omega)
      simp! [at_of p1 p2, at_of p1 (show i % (cs.length : Int) < rest.length by rw [hr]; exact p2)]
      refine ⟨p0, by omega, ?_⟩
      generalize gi cs (i % (cs.length : Int)) = c
      generalize gi rest (i % (cs.length : Int)) = r
      have sz : ds.length < sizeMax := by unfold sizeMax; omega
      have els : mulOk c 48271 = true ∧ mulOk i 69621 = true ∧ mulOk ((c * 48271 + i * 69621 + 11) % 2147483647) ((c * 48271 + i * 69621 + 11) % 2147483647) = true ∧ mulOk 3 ((c * 48271 + i * 69621 + 11) % 2147483647) = true ∧ ds.length < sizeMax ∧ ∃ (rest_1 : List Int) (ds_1 : List Int) (s1 : T), List.length rest_1 = cs.length ∧ List.length ds_1 = (i + 1).toNat ∧ [Sl.fr s0, Sl.fr (T.int many), Sl.ow (T.lst (List.map T.int cs)), Sl.ow (T.lst (List.map T.int rest)), Sl.ow (T.lst (List.map T.int ds ++ [T.int (((c * 48271 + i * 69621 + 11) % 2147483647 * ((c * 48271 + i * 69621 + 11) % 2147483647) + 3 * ((c * 48271 + i * 69621 + 11) % 2147483647) + i) % 1000003)])), Sl.no, Sl.no, Sl.no, Sl.no] = [Sl.fr s1, Sl.fr (T.int many), Sl.ow (T.lst (List.map T.int cs)), Sl.ow (T.lst (List.map T.int rest_1)), Sl.ow (T.lst (List.map T.int ds_1)), Sl.no, Sl.no, Sl.no, Sl.no] := by
        have q0 := Int.emod_nonneg (c * 48271 + i * 69621 + 11) (show (2147483647 : Int) ≠ 0 by decide)
        have q1 := Int.emod_lt_of_pos (c * 48271 + i * 69621 + 11) (show (0 : Int) < 2147483647 by decide)
        refine ⟨mulOk_r (by omega) (by omega), mulOk_r (by omega) (by omega), mulOk_l (by omega) (by omega), mulOk_l (by omega) (by omega), sz, rest, ds ++ [((c * 48271 + i * 69621 + 11) % 2147483647 * ((c * 48271 + i * 69621 + 11) % 2147483647) + 3 * ((c * 48271 + i * 69621 + 11) % 2147483647) + i) % 1000003], s0, hr, ?_, ?_⟩
        · simp; omega
        · simp only [List.map_append, List.map_cons, List.map_nil]
      split
      · split
        · refine ⟨sz, by decide, ?_⟩
          rw [ix_of p1 (by rw [hr]; exact p2)]
          simp! []
          refine ⟨rest.set (i % (cs.length : Int)).toNat (r / 1000), ds ++ [r % 1000], s0, by simp [hr], by simp; omega, ?_⟩
          simp only [List.map_append, List.map_cons, List.map_nil, List.map_set]
        · exact els
      · exact els
    · obtain ⟨rest, ds, s0, hr, hd, rfl⟩ := hl
      simp! []
      have := h ds.reverse
      rwa [List.map_reverse] at this

inductive Sd : Nat → T → Prop
  | non {d : Nat} : Sd d .non
  | bl {d : Nat} {b : Bool} : Sd d (.bl b)
  | int {d : Nat} {b : Int} : Sd d (.int b)
  | str {d : Nat} {b : List Nat} : Sd d (.str b)
  | tup {d : Nat} {xs : List T} : xs.length ≤ sizeMax → (∀ x ∈ xs, Sd d x) → Sd (d + 1) (.tup xs)
theorem Sd.ints {d : Nat} {ls : List Int} (h : ls.length ≤ sizeMax) : Sd (d + 1) (.tup (ls.map .int)) := .tup (by simpa using h) (fun x hx => by
  obtain ⟨a, _, rfl⟩ := List.mem_map.mp hx; exact .int)
def sdB : Nat → T → Bool
  | _, .non => true
  | _, .bl _ => true
  | _, .int _ => true
  | _, .str _ => true
  | d + 1, .tup xs => xs.length.ble 16777216 && xs.all (sdB d)
  | _, _ => false
theorem Sd.of : ∀ {d : Nat} {t : T}, sdB d t = true → Sd d t
  | _, .non, _ => .non
  | _, .bl _, _ => .bl
  | _, .int _, _ => .int
  | _, .str _, _ => .str
  | d + 1, .tup xs, h => by
    simp only [sdB, Bool.and_eq_true, List.all_eq_true] at h
    exact .tup (Nat.le_of_ble_eq_true h.1) fun x hx => Sd.of (h.2 x hx)
  | 0, .tup _, h => by cases h
  | 0, .lst _, h => by cases h
  | _ + 1, .lst _, h => by cases h
  | 0, .dct _ _ _, h => by cases h
  | _ + 1, .dct _ _ _, h => by cases h
  | 0, .set _, h => by cases h
  | _ + 1, .set _, h => by cases h
theorem s__law_same {n d : Nat} {t : T} {K : Vl → List T → Prop} (ht : Sd d t) : FQ prog (n+d+1) F._law_same [t, t] K = K (.fr (.bl true)) [] := by
  refine fq_eq ?_
  induction d generalizing n t with
  | zero =>
    refine open__law_same ?_; unfold d__law_same
    cases ht <;> simp! [beq_self_eq_true]
  | succ d ih =>
    rw [show n + (d + 1) + 1 = (n + d + 1) + 1 by omega]
    refine open__law_same ?_; unfold d__law_same
    cases ht with
    | tup hl hx =>
      rename_i xs
      simp! []
      refine ⟨small_of (by unfold sizeMax at hl; omega) (by unfold sizeMax at hl; omega), ?_⟩
      refine for_rng (fun i l => l = [Sl.fr (T.tup xs), Sl.fr (T.tup xs), Sl.no]) (by omega) rfl (fun i l h0 h1 hl => ?_) (fun l hl => ?_)
      · subst hl
        have hm : gi xs i ∈ xs := by
          have h2 : i.toNat < xs.length := by omega
          simp only [gi, List.getD_eq_getElem?_getD, List.getElem?_eq_getElem h2, Option.getD_some]
          exact List.getElem_mem h2
        simp! [at_of h0 h1]
        rw [fq_eq (ih (hx _ hm))]
        simp! []
      · subst hl
        simp! []
    | _ => simp! [beq_self_eq_true]

theorem w__law_raw {n : Nat} {sc ds : List Int} {K : Vl → List T → Prop} (hs : sc.length ≤ 63) (h : ∀ (z : Int) (ds' : List Int), (z = 0 ∨ z ∈ sc) → K (.fr (.int z)) [.lst (ds'.map .int)]) : FQ prog (n+2) F._law_raw [.lst (sc.map .int), .lst (ds.map .int)] K := by
  refine open__law_raw ?_; unfold d__law_raw
  simp! []
  split
  · exact h 0 ds (.inl rfl)
  · rename_i hc
    refine w__law_take (by omega) fun v ds' h0 h1 => ?_
    simp! [at_of h0 h1]
    refine h _ _ (.inr ?_)
    have h2 : v.toNat < sc.length := by omega
    simp only [gi, List.getD_eq_getElem?_getD, List.getElem?_eq_getElem h2, Option.getD_some]
    exact List.getElem_mem h2

theorem join_one {ls : List Nat} : joinS [] (ls.map fun c => [c]) = ls := by
  induction ls with
  | nil => rfl
  | cons a r ih =>
    cases r with
    | nil => rfl
    | cons b r => simp only [List.map_cons, joinS, List.append_nil] at ih ⊢; rw [ih]; rfl

def endAt (ls : List Int) : Nat → Int
  | 0 => 0
  | k + 1 => endAt ls k + (if (k : Int) % 2 = 0 then gi ls k else - gi ls k)
def En (ls : List Int) (k : Nat) : List Int := (List.range (k + 1)).map (endAt ls)
theorem En_len {ls : List Int} {k : Nat} : (En ls k).length = k + 1 := by simp [En]
theorem En_last {ls : List Int} {k : Nat} {K : Int → Prop} : WR (atI (En ls k) (-1)) K = K (endAt ls k) := by
  rw [at_neg (by omega) (by rw [En_len]; omega), En_len]
  have : (-1 + ((k + 1 : Nat) : Int)) = (k : Int) := by omega
  rw [this]
  congr
  simp [gi, En]
theorem En_succ {ls : List Int} {k : Nat} : En ls (k + 1) = En ls k ++ [endAt ls (k + 1)] := by
  simp [En, List.range_succ]
theorem En_at {ls : List Int} {k : Nat} {i : Int} {K : Int → Prop} (h0 : 0 ≤ i) (h1 : i ≤ k) : WR (atI (En ls k) i) K = K (endAt ls i.toNat) := by
  rw [at_of h0 (by rw [En_len]; omega)]
  congr
  have : i.toNat < k + 1 := by omega
  simp [gi, En, this]
theorem En_ne {ls : List Int} {k : Nat} : En ls k ≠ [] := by simp [En]
theorem En_zero {ls : List Int} : En ls 0 = [0] := rfl

theorem s_ends_of {n : Nat} {ls : List Int} (hl : ls.length ≤ 1000) {K : Vl → List T → Prop}  : FQ prog (n+1) F.ends_of [.tup (ls.map .int)] K = K (.ow (.lst ((En ls ls.length).map .int))) [] := by
  refine fq_eq ?_
  refine open_ends_of ?_; unfold d_ends_of
  simp! []
  refine ⟨small_of (by omega) (by omega), for_rng (fun i l => l = [Sl.fr (T.tup (List.map T.int ls)), Sl.ow (T.lst ((En ls i.toNat).map .int)), Sl.no]) (by omega) rfl (fun i l h0 h1 h => ?_) (fun l h => ?_)⟩
  · subst h
    obtain ⟨k, rfl⟩ := Int.eq_ofNat_of_zero_le h0
    simp! [En_last, at_of h0 h1]
    rw [show ((k : Int) + 1).toNat = k + 1 by omega, En_succ, show (k : Int).toNat = k from rfl]
    simp only [endAt, List.map_append, List.map_cons, List.map_nil]
    have : (En ls k).length < sizeMax := by rw [En_len]; unfold sizeMax; omega
    split
    · exact ⟨this, rfl⟩
    · exact ⟨this, rfl⟩
  · subst h
    simp! []
    rfl

def sp1 (ls : List Int) (i : Int) : Int := if endAt ls (i + 1).toNat < endAt ls i.toNat then endAt ls (i + 1).toNat else endAt ls i.toNat
def sp2 (ls : List Int) (i : Int) : Int := if endAt ls (i + 1).toNat > endAt ls i.toNat then endAt ls (i + 1).toNat else endAt ls i.toNat
def spL (ls : List Int) : List T := (rangeL 0 ls.length).map fun i => .tup [.int (sp1 ls i), .int (sp2 ls i)]

theorem s_spans {n : Nat} {ls : List Int} {s : T} (hl : ls.length ≤ 1000) {K : Vl → List T → Prop}  : FQ prog (n+2) F.spans [.tup [.tup (ls.map .int), s]] K = K (.fr (.tup (spL ls))) [] := by
  refine fq_eq ?_
  refine open_spans ?_; unfold d_spans
  simp! [s_ends_of hl]
  refine ⟨small_of (by omega) (by omega), ?_⟩
  refine cm_map (fun i => .tup [.int (sp1 ls i), .int (sp2 ls i)]) (fun i hi => ?_) ?_
  · have := mem_rng hi
    simp! [En_at (ls := ls) (k := ls.length) this.1 (show i ≤ ls.length by omega), En_at (ls := ls) (k := ls.length) (show 0 ≤ i + 1 by omega) (show i + 1 ≤ ls.length by omega)]
    rfl
  · simp! [len_rng]
    exact ⟨by unfold sizeMax; omega, rfl⟩

def absV (a : Int) : Int := if a < 0 then -a else a
def isCut (ls : List Int) (p i : Int) : Bool := decide (sp1 ls i < p) && decide (p < sp2 ls i)
def covL (ls : List Int) (p : Int) : List Int := (rangeL 0 ls.length).filter (isCut ls p)
theorem s_covering {n : Nat} {ls : List Int} {s : T} {p : Int} (hl : ls.length ≤ 1000) {K : Vl → List T → Prop} : FQ prog (n+3) F.covering [.tup [.tup (ls.map .int), s], .int p] K = K (.fr (.tup ((covL ls p).map .int))) [] := by
  refine fq_eq ?_
  refine open_covering ?_; unfold d_covering
  simp! [s_spans hl]
  have hsl : (spL ls).length = ls.length := by simp [spL, len_rng]
  refine ⟨small_of (by omega) (by omega), ?_⟩
  rw [hsl]
  refine cm_pure (as := rangeL 0 (ls.length : Int)) (fun i => if isCut ls p i = true then [T.int i] else []) (fun i hi => ?_) ?_
  · have := mem_rng hi
    obtain ⟨q, rfl⟩ := Int.eq_ofNat_of_zero_le this.1
    have hg : (spL ls)[q]? = some (.tup [.int (sp1 ls q), .int (sp2 ls q)]) := by
      unfold spL rangeL
      rw [List.map_map, List.getElem?_map, List.getElem?_range (by omega)]
      simp
    simp! [at_get hg]
    unfold isCut
    by_cases h1 : sp1 ls q < p
    · by_cases h2 : p < sp2 ls q
      · simp [h1, h2]
      · simp [h1, h2]
    · simp [h1]
  · have e : (rangeL 0 (ls.length : Int)).flatMap (fun i => if isCut ls p i = true then [T.int i] else []) = (covL ls p).map .int := by
      unfold covL
      generalize rangeL 0 (ls.length : Int) = xs
      induction xs with
      | nil => rfl
      | cons a r ih =>
        rw [List.flatMap_cons, ih, List.filter_cons]
        by_cases h : isCut ls p a = true <;> simp [h]
    rw [e]
    have l1 : (covL ls p).length ≤ (rangeL 0 (ls.length : Int)).length := List.length_filter_le _ _
    rw [len_rng] at l1
    simp! []
    unfold sizeMax; omega

def totl (ls : List Int) : Nat → Int
  | 0 => 0
  | k + 1 => totl ls k + gi ls k
def ptsL (ls : List Int) (p : Int) : Nat → List Int
  | 0 => [0]
  | k + 1 => ptsL ls p k ++ (if isCut ls p k = true then [totl ls k + absV (p - endAt ls k)] else [])
def difs : List Int → List Int
  | [] => []
  | [_] => []
  | a :: b :: r => (b - a) :: difs (b :: r)
theorem difs_snoc : ∀ {xs : List Int} {a b : Int}, difs (xs ++ [a, b]) = difs (xs ++ [a]) ++ [b - a]
  | [], _, _ => rfl
  | [x], _, _ => rfl
  | x :: y :: r, a, b => by
    have := difs_snoc (xs := y :: r) (a := a) (b := b)
    simp only [List.cons_append, difs] at this ⊢
    rw [this]
theorem difs_len {xs : List Int} : (difs xs).length = xs.length - 1 := by
  match xs with
  | [] => rfl
  | [x] => rfl
  | x :: y :: r => simp only [difs, List.length_cons, difs_len (xs := y :: r)]; omega
theorem difs_get : ∀ {xs : List Int} {k : Nat}, k + 1 < xs.length → (difs xs)[k]? = some (xs.getD (k + 1) 0 - xs.getD k 0)
  | [], _, h => by simp at h
  | [x], _, h => by simp at h
  | x :: y :: r, k, h => by
    cases k with
    | zero => rfl
    | succ k =>
      simp only [difs, List.getElem?_cons_succ]
      rw [difs_get (xs := y :: r) (k := k) (by simpa using h)]
      rfl
def pieL (ls : List Int) (p : Int) : List Int := difs (ptsL ls p ls.length ++ [totl ls ls.length])
theorem pts_len {ls : List Int} {p : Int} {k : Nat} : (ptsL ls p k).length ≤ k + 1 := by
  induction k with
  | zero => simp [ptsL]
  | succ k ih =>
    simp only [ptsL, List.length_append]
    split <;> simp <;> omega
theorem cov_mem {ls : List Int} {p : Int} {q : Nat} (h : q < ls.length) : ((q : Int) ∈ covL ls p) ↔ isCut ls p q = true := by
  unfold covL
  rw [List.mem_filter, mem_rng_iff]
  constructor
  · rintro ⟨_, h⟩; exact h
  · intro h; exact ⟨⟨by omega, by omega⟩, h⟩

theorem s_pieces {n : Nat} {ls : List Int} {s : T} {p : Int} (hl : ls.length ≤ 1000) {K : Vl → List T → Prop} : FQ prog (n+4) F.pieces [.tup [.tup (ls.map .int), s], .int p] K = K (.fr (.tup ((pieL ls p).map .int))) [] := by
  refine fq_eq ?_
  refine open_pieces ?_; unfold d_pieces
  simp! [s_ends_of hl, s_covering hl]
  refine ⟨small_of (by omega) (by omega), ?_⟩
  refine for_rng (fun i l => ∃ (pf : List Int) (q : Int), ptsL ls p i.toNat = pf ++ [q] ∧ l = [Sl.fr (.tup [.tup (ls.map .int), s]), Sl.fr (.int p), Sl.ow (.lst ((En ls ls.length).map .int)), Sl.fr (.tup ((covL ls p).map .int)), Sl.ow (.lst ((difs (pf ++ [q]) ++ [totl ls i.toNat - q]).map .int)), .no, .no]) (by omega) ⟨[], 0, rfl, rfl⟩ (fun i l i0 i1 hl => ?_) (fun l hl => ?_)
  · obtain ⟨pf, q, e1, rfl⟩ := hl
    obtain ⟨k, rfl⟩ := Int.eq_ofNat_of_zero_le i0
    rw [show ((k : Int)).toNat = k from rfl] at e1
    rw [show ((k : Int)).toNat = k from rfl, show ((k : Int) + 1).toNat = k + 1 by omega]
    have pl := pts_len (ls := ls) (p := p) (k := k)
    rw [e1] at pl
    have dl := difs_len (xs := pf ++ [q])
    have gk : ls[k]? = some (gi ls k) := by
      unfold gi
      rw [show ((k : Int)).toNat = k from rfl, List.getD_eq_getElem?_getD, List.getElem?_eq_getElem (by omega)]; rfl
    rw [List.map_append, List.map_cons, List.map_nil]
    simp! [En_at (ls := ls) (k := ls.length) i0 (show (k : Int) ≤ ls.length by omega), at_get gk, at_snoc, ix_snoc, set_snoc]
    have et : totl ls (k + 1) = totl ls k + gi ls k := rfl
    split <;> rename_i hc
    · have hc := (cov_mem (by omega)).mp hc
      simp only [ptsL, hc, if_true, e1]
      simp! [at_snoc, ix_snoc, set_snoc_m]
      refine ⟨by simp at pl dl ⊢; unfold sizeMax; omega, pf ++ [q], _, rfl, ?_⟩
      have ed : ∀ y, difs (pf ++ [q] ++ [y]) = difs (pf ++ [q]) ++ [y - q] := fun y => by rw [List.append_assoc]; exact difs_snoc
      rw [ed, et]
      simp only [List.map_append, List.map_cons, List.map_nil, List.append_assoc, List.singleton_append, List.cons_append, List.nil_append]
      have e5 : totl ls k + absV (p - endAt ls k) - q = totl ls k - q + absV (p - endAt ls k) := by omega
      have e6 : totl ls k + gi ls k - (totl ls k + absV (p - endAt ls k)) = gi ls k - absV (p - endAt ls k) := by omega
      rw [e5, e6]
      rfl
    · have hc : ¬ isCut ls p k = true := fun h => hc ((cov_mem (by omega)).mpr h)
      simp only [ptsL, hc, e1]
      refine ⟨pf, q, by simp, ?_⟩
      rw [et, List.map_append, List.map_cons, List.map_nil, show totl ls k + gi ls k - q = totl ls k - q + gi ls k by omega, set_snoc_m]
  · obtain ⟨pf, q, e1, rfl⟩ := hl
    rw [show ((ls.length : Int)).toNat = ls.length from rfl] at e1
    simp! []
    unfold pieL
    rw [e1, List.append_assoc, List.singleton_append, difs_snoc]
    rfl

theorem s__law_ends {n : Nat} {ls : List Int} (hl : ls.length ≤ 1000) {K : Vl → List T → Prop}  : FQ prog (n+1) F._law_ends [.tup (ls.map .int)] K = K (.ow (.lst ((En ls ls.length).map .int))) [] := by
  refine fq_eq ?_
  refine open__law_ends ?_; unfold d__law_ends
  simp! []
  refine ⟨small_of (by omega) (by omega), for_rng (fun i l => l = [Sl.fr (T.tup (List.map T.int ls)), Sl.ow (T.lst ((En ls i.toNat).map .int)), Sl.no]) (by omega) rfl (fun i l h0 h1 h => ?_) (fun l h => ?_)⟩
  · subst h
    obtain ⟨k, rfl⟩ := Int.eq_ofNat_of_zero_le h0
    rw [show ((k : Int) + 1).toNat = k + 1 by omega, En_succ, show (k : Int).toNat = k from rfl]
    simp only [endAt, List.map_append, List.map_cons, List.map_nil]
    have : (En ls k).length < sizeMax := by rw [En_len]; unfold sizeMax; omega
    rcases Int.emod_two_eq (k : Int) with e | e
    · simp! [En_last, at_of h0 h1, e]
      exact this
    · simp! [En_last, at_of h0 h1, e]
      exact this
  · subst h
    simp! []
    rfl

theorem w__law_length {n : Nat} {ds : List Int} {cell : Int} {K : Vl → List T → Prop} (h : ∀ (v : Int) (ds' : List Int), 1 ≤ v → (v ≤ 101 ∨ v = 1 + absV cell) → K (.fr (.int v)) [.lst (ds'.map .int)]) : FQ prog (n+2) F._law_length [.lst (ds.map .int), .int cell] K := by
  refine open__law_length ?_; unfold d__law_length
  simp! []
  refine w__law_take (by omega) fun s ds s0 s1 => ?_
  simp! []
  split
  · exact h _ ds (by split <;> omega) (.inr rfl)
  · split
    · refine w__law_take (by omega) fun v ds v0 v1 => ?_
      simp! []
      exact h _ ds (by omega) (.inl (by omega))
    · refine w__law_take (by omega) fun v ds v0 v1 => ?_
      simp! []
      exact h _ ds (by omega) (.inl (by omega))

theorem w__law_strip {n : Nat} {ds : List Int} {cell many : Int} {K : Vl → List T → Prop} (m0 : 1 ≤ many) (m1 : many ≤ 1000) (h : ∀ (ls ds' : List Int) (s : List Nat), (ls.length : Int) = many → ((s.length : Int) = many - 1) → (∀ c ∈ s, c = 77 ∨ c = 86 ∨ c = 70) → (∀ v ∈ ls, 1 ≤ v ∧ (v ≤ 101 ∨ v = 1 + absV cell)) → (42 ≤ many → ∀ c ∈ s, c = 77 ∨ c = 86) → K (.fr (.tup [.tup (ls.map .int), .str s])) [.lst (ds'.map .int)]) : FQ prog (n+3) F._law_strip [.lst (ds.map .int), .int cell, .int many] K := by
  refine open__law_strip ?_; unfold d__law_strip
  simp! []
  refine ⟨by decide, ?_⟩
  refine cm_rule (fun xs ys l => ∃ ls ds : List Int, ys = ls.map .int ∧ ls.length + xs.length = 5 ∧ (∀ v ∈ ls, 1 ≤ v ∧ (v ≤ 101 ∨ v = 1 + absV cell)) ∧ l = [Sl.rw (.lst (ds.map .int)), .fr (.int cell), .fr (.int many), .no, .no, .no, .no, .no, .no, .no]) ⟨[], ds, rfl, rfl, by simp, rfl⟩ (fun x xs ys l hl => ?_) (fun ys l hl => ?_)
  · obtain ⟨ls, ds, rfl, e1, e2, rfl⟩ := hl
    simp! []
    refine w__law_length fun v ds v0 v1 => ?_
    simp! []
    refine ⟨ls ++ [v], ds, by simp, by simp at e1 ⊢; omega, fun w hw => ?_, rfl⟩
    rcases List.mem_append.mp hw with hw | hw
    · exact e2 w hw
    · cases List.mem_singleton.mp hw; exact ⟨v0, v1⟩
  · obtain ⟨pool, ds, rfl, e1, e2, rfl⟩ := hl
    simp at e1
    simp! []
    refine ⟨by rw [e1]; decide, ?_⟩
    refine w__law_take (by omega) fun w ds w0 w1 => ?_
    simp! []
    split
    all_goals
      refine ⟨small_of (by omega) (by omega), ?_⟩
      refine for_rng (fun i l => ∃ (ls ds : List Int) (s : List Nat) (kk : Int), (kk = 2 ∨ (kk = 3 ∧ many < 42)) ∧ (ls.length : Int) = i ∧ ((s.length : Int) = if i = 0 then 0 else i - 1) ∧ (∀ c ∈ s, c = 77 ∨ c = 86 ∨ (c = 70 ∧ many < 42)) ∧ (∀ v ∈ ls, 1 ≤ v ∧ (v ≤ 101 ∨ v = 1 + absV cell)) ∧ l = [Sl.rw (.lst (ds.map .int)), .fr (.int cell), .fr (.int many), .ow (.lst (pool.map .int)), .fr (.int kk), .ow (.lst (ls.map .int)), .fr (.str s), .no, .no, .no]) (by omega) ⟨[], ds, [], _, ?_, rfl, rfl, by simp, by simp, rfl⟩ (fun i l i0 i1 hl => ?_) (fun l hl => ?_)
      · first | (split <;> omega) | omega
      · obtain ⟨ls, ds, s, kk, hk, l1, l2, l3, l4, rfl⟩ := hl
        simp! []
        refine w__law_take (by omega) fun d ds d0 d1 => ?_
        have p0 : 0 ≤ d % 5 := Int.emod_nonneg _ (by omega)
        have p1 : d % 5 < pool.length := by have := Int.emod_lt_of_pos d (show (0 : Int) < 5 by omega); omega
        simp! [at_of p0 p1]
        have hg := e2 _ (gi_mem p0 p1)
        have l5 : ∀ v ∈ ls ++ [gi pool (d % 5)], 1 ≤ v ∧ (v ≤ 101 ∨ v = 1 + absV cell) := fun v hv => by
          rcases List.mem_append.mp hv with hv | hv
          · exact l4 v hv
          · cases List.mem_singleton.mp hv; exact hg
        refine ⟨by unfold sizeMax; omega, ?_⟩
        split
        · rename_i hi
          rw [if_neg (by omega)] at l2
          have q0 : 0 ≤ d / 5 % kk := Int.emod_nonneg _ (by omega)
          have q1 : d / 5 % kk < kk := Int.emod_lt_of_pos _ (by omega)
          refine ⟨by decide, by omega, by decide, ?_⟩
          have hcs : ∃ c : Nat, (c = 77 ∨ c = 86 ∨ (c = 70 ∧ many < 42)) ∧ ∀ K : Nat → Prop, WR (atI [77, 86, 70] (d / 5 % kk)) K = K c := by
            rcases (show d / 5 % kk = 0 ∨ d / 5 % kk = 1 ∨ (d / 5 % kk = 2 ∧ many < 42) by omega) with h | h | ⟨h, h'⟩
            · rw [h]; exact ⟨77, by simp, fun K => at0⟩
            · rw [h]; exact ⟨86, by simp, fun K => at1⟩
            · rw [h]; exact ⟨70, by simp [h'], fun K => at2⟩
          obtain ⟨c, c1, c2⟩ := hcs
          simp! [c2]
          refine ⟨by unfold sizeMax; omega, ls ++ [gi pool (d % 5)], ds, s ++ [c], kk, hk, by simp; omega, by rw [if_neg (by omega)]; simp; omega, fun x hx => ?_, l5, by simp⟩
          rcases List.mem_append.mp hx with hx | hx
          · exact l3 x hx
          · cases List.mem_singleton.mp hx; exact c1
        · rename_i hi
          rw [if_pos (by omega)] at l2
          refine ⟨ls ++ [gi pool (d % 5)], ds, s, kk, hk, by simp; omega, by rw [if_neg (by omega)]; omega, l3, l5, by simp⟩
      · obtain ⟨ls, ds, s, kk, hk, l1, l2, l3, l4, rfl⟩ := hl
        simp! []
        rw [if_neg (by omega)] at l2
        refine h ls ds s l1 l2 (fun c hc => ?_) l4 (fun h42 c hc => ?_)
        · rcases l3 c hc with h | h | ⟨h, _⟩
          · exact .inl h
          · exact .inr (.inl h)
          · exact .inr (.inr h)
        · rcases l3 c hc with h | h | ⟨_, h⟩
          · exact .inl h
          · exact .inr h
          · omega

theorem w__law_parts {n : Nat} {ds : List Int} {K : Vl → List T → Prop} (h : ∀ (v : Int) (ds' : List Int), 1 ≤ v → v ≤ 401 → K (.fr (.int v)) [.lst (ds'.map .int)]) : FQ prog (n+2) F._law_parts [.lst (ds.map .int)] K := by
  refine open__law_parts ?_; unfold d__law_parts
  simp! []
  refine w__law_take (by omega) fun s ds s0 s1 => ?_
  simp! []
  split
  · refine w__law_take (by omega) fun v ds v0 v1 => ?_
    simp! []
    exact h _ ds (by omega) (by omega)
  · split
    · refine w__law_take (by omega) fun v ds v0 v1 => ?_
      simp! []
      exact h _ ds (by omega) (by omega)
    · refine w__law_take (by omega) fun v ds v0 v1 => ?_
      simp! []
      exact h _ ds (by omega) (by omega)

/-! ### dicts as lists of pairs -/
section
variable {κ β : Type} [DecidableEq κ] {f : κ → T} {g : β → T}
def dgP (D : List (κ × β)) (k : κ) : Option β := (D.find? fun p => decide (p.1 = k)).map (·.2)
def dpP (D : List (κ × β)) (k : κ) (v : β) : List (κ × β) := if D.any (fun p => decide (p.1 = k)) then D.map (fun p => if p.1 = k then (p.1, v) else p) else D ++ [(k, v)]
theorem dAt_map (hf : ∀ a b, eqv (f a) (f b) = decide (a = b)) (k : κ) : ∀ D : List (κ × β), dAt (D.map fun p => f p.1) (D.map fun p => g p.2) (f k) = (dgP D k).map g
  | [] => rfl
  | p :: r => by
    rw [List.map_cons, List.map_cons]
    unfold dAt dgP
    rw [hf, List.find?_cons]
    by_cases e : p.1 = k
    · simp [e]
    · rw [decide_eq_false e]
      simp only [Bool.false_eq_true, if_false]
      exact dAt_map hf k r
theorem dHas_map (hf : ∀ a b, eqv (f a) (f b) = decide (a = b)) (k : κ) : ∀ D : List (κ × β), dHas (D.map fun p => f p.1) (f k) = D.any fun p => decide (p.1 = k)
  | [] => rfl
  | p :: r => by
    unfold dHas
    rw [List.map_cons, List.any_cons, List.any_cons, hf]
    exact congrArg _ (dHas_map hf k r)
theorem dKs_map (hf : ∀ a b, eqv (f a) (f b) = decide (a = b)) (k : κ) (v : β) (D : List (κ × β)) : dKs (D.map fun p => f p.1) (f k) = (dpP D k v).map fun p => f p.1 := by
  unfold dKs dpP
  rw [dHas_map hf]
  split
  · rw [List.map_map]
    apply List.map_congr_left
    intro p _
    show f p.1 = f (if p.1 = k then (p.1, v) else p).1
    split <;> rfl
  · rw [List.map_append]; rfl
theorem dVs_map (hf : ∀ a b, eqv (f a) (f b) = decide (a = b)) (k : κ) (v : β) (D : List (κ × β)) : dVs (D.map fun p => f p.1) (D.map fun p => g p.2) (f k) (g v) = (dpP D k v).map fun p => g p.2 := by
  unfold dVs dpP
  rw [dHas_map hf]
  split
  · rw [List.map_map]
    have : ∀ D : List (κ × β), List.zipWith (fun a w => if eqv a (f k) = true then g v else w) (D.map fun p => f p.1) (D.map fun p => g p.2) = D.map ((fun p => g p.2) ∘ fun p => if p.1 = k then (p.1, v) else p) := fun D => by
      induction D with
      | nil => rfl
      | cons p r ih =>
        rw [List.map_cons, List.map_cons, List.zipWith_cons_cons, ih, List.map_cons, hf]
        congr 1
        show _ = g (if p.1 = k then (p.1, v) else p).2
        by_cases e : p.1 = k <;> simp [e]
    exact this D
  · rw [List.map_append]; rfl
/-- things put together by their keys -/
def grp (xs : List (κ × β)) : List (κ × List β) := xs.foldl (fun D x => dpP D x.1 ((dgP D x.1).getD [] ++ [x.2])) []
theorem grp_snoc {xs : List (κ × β)} {x : κ × β} : grp (xs ++ [x]) = dpP (grp xs) x.1 ((dgP (grp xs) x.1).getD [] ++ [x.2]) := by unfold grp; rw [List.foldl_append]; rfl
def flt (xs : List (κ × β)) (k : κ) : List β := (xs.filter fun x => decide (x.1 = k)).map (·.2)
theorem flt_snoc {xs : List (κ × β)} {x : κ × β} {k : κ} : flt (xs ++ [x]) k = flt xs k ++ (if x.1 = k then [x.2] else []) := by
  unfold flt
  rw [List.filter_append, List.map_append]
  by_cases e : x.1 = k <;> simp [e]
theorem grp_ok : ∀ (n : Nat) {xs : List (κ × β)}, xs.length = n → (∀ p ∈ grp xs, p.2 = flt xs p.1) ∧ ∀ x ∈ xs, ∃ p ∈ grp xs, p.1 = x.1
  | 0, xs, h => by
    rw [List.length_eq_zero_iff] at h
    subst h
    exact ⟨fun p hp => (by cases hp), fun x hx => (by cases hx)⟩
  | n + 1, xs, h => by
    rcases List.eq_nil_or_concat xs with rfl | ⟨r, x, rfl⟩
    · simp at h
    · rw [List.concat_eq_append] at h ⊢
      obtain ⟨h1, h2⟩ := grp_ok n (xs := r) (by simpa using h)
      rw [grp_snoc]
      by_cases c : (grp r).any (fun p => decide (p.1 = x.1)) = true
      · have hg : (dgP (grp r) x.1).getD [] = flt r x.1 := by
          unfold dgP
          cases q : (grp r).find? fun p => decide (p.1 = x.1) with
          | none =>
            rw [List.any_eq_true] at c
            obtain ⟨p, hp, hk⟩ := c
            have := List.find?_eq_none.mp q p hp
            exact absurd hk this
          | some p =>
            have hm := List.mem_of_find?_eq_some q
            have hk : p.1 = x.1 := of_decide_eq_true (List.find?_some (p := fun p : κ × List β => decide (p.1 = x.1)) q)
            show p.2 = _
            rw [h1 p hm, hk]
        unfold dpP
        rw [if_pos c, hg]
        refine ⟨fun p hp => ?_, fun y hy => ?_⟩
        · obtain ⟨p0, hp0, rfl⟩ := List.mem_map.mp hp
          rw [flt_snoc]
          by_cases e : p0.1 = x.1
          · rw [if_pos e]
            show flt r x.1 ++ [x.2] = flt r p0.1 ++ (if x.1 = p0.1 then [x.2] else [])
            rw [if_pos e.symm, e]
          · rw [if_neg e]
            rw [if_neg (fun z => e z.symm), List.append_nil]
            exact h1 p0 hp0
        · rcases List.mem_append.mp hy with hy | hy
          · obtain ⟨p, hp, hk⟩ := h2 y hy
            exact ⟨_, List.mem_map.mpr ⟨p, hp, rfl⟩, by split <;> exact hk⟩
          · simp at hy
            subst hy
            rw [List.any_eq_true] at c
            obtain ⟨p, hp, hk⟩ := c
            exact ⟨_, List.mem_map.mpr ⟨p, hp, rfl⟩, by split <;> exact of_decide_eq_true hk⟩
      · have hn : ∀ p ∈ grp r, p.1 ≠ x.1 := fun p hp e => c (List.any_eq_true.mpr ⟨p, hp, decide_eq_true e⟩)
        have hg : (dgP (grp r) x.1).getD [] = [] := by
          unfold dgP
          rw [List.find?_eq_none.mpr fun p hp => by simpa using hn p hp]; rfl
        have hz : flt r x.1 = [] := by
          unfold flt
          rw [List.filter_eq_nil_iff.mpr fun y hy => ?_]
          · rfl
          · obtain ⟨p, hp, hk⟩ := h2 y hy
            intro e
            exact hn p hp (hk.trans (of_decide_eq_true e))
        unfold dpP
        rw [if_neg c, hg]
        refine ⟨fun p hp => ?_, fun y hy => ?_⟩
        · rw [flt_snoc]
          rcases List.mem_append.mp hp with hp | hp
          · rw [if_neg (fun e => hn p hp e.symm), List.append_nil]
            exact h1 p hp
          · simp at hp
            subst hp
            rw [if_pos rfl, hz]; rfl
        · rcases List.mem_append.mp hy with hy | hy
          · obtain ⟨p, hp, hk⟩ := h2 y hy
            exact ⟨p, List.mem_append.mpr (.inl hp), hk⟩
          · simp at hy
            subst hy
            exact ⟨_, List.mem_append.mpr (.inr (List.mem_singleton.mpr rfl)), rfl⟩
/-- all of one key, two by two -/
theorem grp_all {xs : List (κ × β)} {P : β → β → Prop} : (∀ p ∈ grp xs, ∀ a ∈ p.2, ∀ b ∈ p.2, P a b) ↔ ∀ x ∈ xs, ∀ y ∈ xs, x.1 = y.1 → P x.2 y.2 := by
  obtain ⟨h1, h2⟩ := grp_ok _ (xs := xs) rfl
  have mem : ∀ {k : κ} {b : β}, b ∈ flt xs k ↔ ∃ x ∈ xs, x.1 = k ∧ x.2 = b := fun {k b} => by
    unfold flt
    rw [List.mem_map]
    constructor
    · rintro ⟨x, hx, rfl⟩
      rw [List.mem_filter] at hx
      exact ⟨x, hx.1, of_decide_eq_true hx.2, rfl⟩
    · rintro ⟨x, hx, hk, rfl⟩
      exact ⟨x, List.mem_filter.mpr ⟨hx, decide_eq_true hk⟩, rfl⟩
  constructor
  · intro h x hx y hy e
    obtain ⟨p, hp, hk⟩ := h2 x hx
    exact h p hp _ (by rw [h1 p hp]; exact mem.mpr ⟨x, hx, hk.symm, rfl⟩) _ (by rw [h1 p hp]; exact mem.mpr ⟨y, hy, by rw [← e, hk], rfl⟩)
  · intro h p hp a ha b hb
    rw [h1 p hp] at ha hb
    obtain ⟨x, hx, e1, rfl⟩ := mem.mp ha
    obtain ⟨y, hy, e2, rfl⟩ := mem.mp hb
    exact h x hx y hy (e1.trans e2.symm)
theorem dg_grp {xs : List (κ × β)} {p : κ × List β} (hp : p ∈ grp xs) : dgP (grp xs) p.1 = some p.2 := by
  obtain ⟨h1, h2⟩ := grp_ok _ (xs := xs) rfl
  unfold dgP
  cases q : (grp xs).find? fun q => decide (q.1 = p.1) with
  | none => exact absurd (decide_eq_true rfl) (List.find?_eq_none.mp q p hp)
  | some r =>
    have hm := List.mem_of_find?_eq_some q
    have hk : r.1 = p.1 := of_decide_eq_true (List.find?_some (p := fun q : κ × List β => decide (q.1 = p.1)) q)
    show some r.2 = _
    rw [h1 r hm, h1 p hp, hk]
theorem grp_len {xs : List (κ × β)} : (grp xs).length ≤ xs.length := by
  have : ∀ (n : Nat) (xs : List (κ × β)), xs.length = n → (grp xs).length ≤ n := fun n => by
    induction n with
    | zero => intro xs h; rw [List.length_eq_zero_iff] at h; subst h; simp [grp]
    | succ n ih =>
      intro xs h
      rcases List.eq_nil_or_concat xs with rfl | ⟨r, x, rfl⟩
      · simp at h
      · rw [List.concat_eq_append] at h ⊢
        have := ih r (by simpa using h)
        rw [grp_snoc]
        unfold dpP
        split
        · rw [List.length_map]; omega
        · simp; omega
  exact this _ xs rfl
theorem flt_len {xs : List (κ × β)} {k : κ} : (flt xs k).length ≤ xs.length := by
  unfold flt
  rw [List.length_map]
  exact List.length_filter_le _ _
end
theorem prT_eqv {a b : Int × Int} : eqv (prT a) (prT b) = decide (a = b) := by
  unfold prT
  simp only [eqv, eqvs]
  obtain ⟨a1, a2⟩ := a
  obtain ⟨b1, b2⟩ := b
  rw [Bool.eq_iff_iff]
  simp

def dbl (ls : List Int) : List Int := ls.map fun v => 2 * v
def allE (ls : List Int) : List Int := (rangeL 0 (dbl ls).length).flatMap fun i => [sp1 (dbl ls) i, sp2 (dbl ls) i]
/-- the parts above a place -/
def cnt (ls : List Int) (p : Int) : Int := (covL (dbl ls) p).length
def bstep (ls : List Int) (s : Int × Int) (e : Int) : Int × Int := if cnt ls (e + 1) > s.1 then (cnt ls (e + 1), e + 1) else s
def bst (ls : List Int) : Int × Int := (srtU (allE ls)).foldl (bstep ls) (0, gi (srtU (allE ls)) 0 + 1)
theorem allE_len {ls : List Int} : (allE ls).length = 2 * ls.length := by
  unfold allE
  have : ∀ M : List Int, (M.flatMap fun i => [sp1 (dbl ls) i, sp2 (dbl ls) i]).length = 2 * M.length := fun M => by
    induction M with
    | nil => rfl
    | cons a r ih => rw [List.flatMap_cons, List.length_append, ih]; simp; omega
  rw [this, len_rng]; unfold dbl; simp
theorem s_best_place {n : Nat} {ls : List Int} {s : T} (h1 : 1 ≤ ls.length) (hl : ls.length ≤ 500) {K : Vl → List T → Prop} : FQ prog (n+3) F.best_place [.tup [.tup (ls.map .int), s]] K = K (.fr (.int (bst ls).2)) [] := by
  refine fq_eq ?_
  refine open_best_place ?_; unfold d_best_place
  simp! []
  refine cm_map (as := ls) (enc := .int) (fun v => T.int (2 * v)) (fun i hi => ?_) ?_
  · simp! []
    exact mulOk_l (by decide) (by decide)
  have e : ls.map (fun v => T.int (2 * v)) = (dbl ls).map .int := by unfold dbl; rw [List.map_map]; rfl
  have dl : (dbl ls).length = ls.length := by unfold dbl; simp
  rw [e]
  simp! [s_spans (n := n) (ls := dbl ls) (s := s) (by omega)]
  refine ⟨by unfold sizeMax; omega, ?_⟩
  refine cm2_pure (as := rangeL 0 (dbl ls).length) (enc := fun i => T.tup [.int (sp1 (dbl ls) i), .int (sp2 (dbl ls) i)]) (fun i => [T.int (sp1 (dbl ls) i), T.int (sp2 (dbl ls) i)]) (fun i hi => ?_) ?_
  · simp! []
    refine cm_map (as := [sp1 (dbl ls) i, sp2 (dbl ls) i]) (enc := .int) (fun v => T.int v) (fun s hs => ?_) ?_
    · simp! []
    · simp! []
      rfl
  have e2 : (rangeL 0 (dbl ls).length).flatMap (fun i => [T.int (sp1 (dbl ls) i), T.int (sp2 (dbl ls) i)]) = (allE ls).map .int := by
    unfold allE
    generalize rangeL 0 ((dbl ls).length : Int) = M
    induction M with
    | nil => rfl
    | cons a r ih => rw [List.flatMap_cons, List.flatMap_cons, ih, List.map_append]; rfl
  have al := allE_len (ls := ls)
  have sl := srtU_le (xs := allE ls)
  have sn : 0 < (srtU (allE ls)).length := by
    obtain ⟨x, hx⟩ := List.exists_mem_of_length_pos (show 0 < (allE ls).length by omega)
    exact List.length_pos_of_mem (mem_srtU.mpr hx)
  rw [e2]
  simp! [p_sset]
  refine ⟨by unfold sizeMax; omega, by omega, ?_⟩
  have bd : bst ls = (srtU (allE ls)).foldl (bstep ls) (0, gi (srtU (allE ls)) 0 + 1) := rfl
  generalize srtU (allE ls) = S at *
  simp! [at_of (xs := S) (i := 0) (by omega) (by omega)]
  refine cm_map (as := S) (enc := .int) (fun v => T.int (v + 1)) (fun v hv => ?_) ?_
  · simp! []
  simp! []
  refine ⟨by unfold sizeMax; omega, ?_⟩
  refine for_at (γ := Int) (enc := fun v => T.int (v + 1)) (as := S) (fun done rest l => l = [Sl.fr (T.tup [T.tup (List.map T.int ls), s]), Sl.fr (T.tup (spL (dbl ls))), Sl.ow (T.lst (List.map T.int S)), Sl.fr (T.int (done.foldl (bstep ls) (0, gi S 0 + 1)).1), Sl.fr (T.int (done.foldl (bstep ls) (0, gi S 0 + 1)).2), .no, .no, .no, .no, .no, .no, .no]) ?_ (fun done v rest l ef hl => ?_) (fun l hl => ?_)
  · rfl
  · subst hl
    rw [List.foldl_append]
    generalize done.foldl (bstep ls) (0, gi S 0 + 1) = st
    simp! []
    refine cm_pure (as := rangeL 0 (dbl ls).length) (enc := fun i => T.tup [.int (sp1 (dbl ls) i), .int (sp2 (dbl ls) i)]) (fun i => if isCut (dbl ls) (v + 1) i = true then [T.int (sp1 (dbl ls) i)] else []) (fun i hi => ?_) ?_
    · simp! []
      unfold isCut
      by_cases h1 : sp1 (dbl ls) i < v + 1
      · by_cases h2 : v + 1 < sp2 (dbl ls) i
        · simp [h1, h2]
        · simp [h1, h2]
      · simp [h1]
    · have e4 : ((rangeL 0 ((dbl ls).length : Int)).flatMap (fun i => if isCut (dbl ls) (v + 1) i = true then [T.int (sp1 (dbl ls) i)] else [])).length = (covL (dbl ls) (v + 1)).length := by
        unfold covL
        generalize rangeL 0 ((dbl ls).length : Int) = xs
        induction xs with
        | nil => rfl
        | cons a r ih =>
          rw [List.flatMap_cons, List.length_append, ih, List.filter_cons]
          by_cases h : isCut (dbl ls) (v + 1) a = true <;> simp [h]; omega
      have l1 : (covL (dbl ls) (v + 1)).length ≤ (rangeL 0 ((dbl ls).length : Int)).length := List.length_filter_le _ _
      rw [len_rng] at l1
      simp! []
      rw [e4]
      refine ⟨by unfold sizeMax; omega, ?_⟩
      have eb : bstep ls st v = if st.1 < ((covL (dbl ls) (v + 1)).length : Int) then (((covL (dbl ls) (v + 1)).length : Int), v + 1) else st := rfl
      rw [eb]
      split <;> rfl
  · subst hl
    simp! []
    rw [bd]

/-! the law's own way -/
theorem gi_dbl {ls : List Int} {i : Int} : gi (dbl ls) i = 2 * gi ls i := by
  unfold gi dbl
  rw [List.getD_eq_getElem?_getD, List.getD_eq_getElem?_getD, List.getElem?_map]
  cases ls[i.toNat]? <;> simp
theorem endAt_dbl {ls : List Int} : ∀ {k : Nat}, endAt (dbl ls) k = 2 * endAt ls k
  | 0 => rfl
  | k + 1 => by
    show endAt (dbl ls) k + (if (k : Int) % 2 = 0 then gi (dbl ls) k else - gi (dbl ls) k) = 2 * (endAt ls k + (if (k : Int) % 2 = 0 then gi ls k else - gi ls k))
    rw [endAt_dbl, gi_dbl]
    split <;> omega
theorem eqv_ii (a b : Int) : eqv (.int a) (.int b) = decide (a = b) := by
  rw [Bool.eq_iff_iff]; simp [eqv]
theorem ms2 {a b : Int} : [a, b].mergeSort leI = [if b < a then b else a, if b > a then b else a] := by
  by_cases h : b < a
  · rw [if_pos h, if_neg (by omega)]
    simp [List.mergeSort, List.MergeSort.Internal.splitInTwo, leI, List.merge, show ¬ a ≤ b by omega]
  · rw [if_neg h]
    simp [List.mergeSort, List.MergeSort.Internal.splitInTwo, leI, List.merge, show a ≤ b by omega]
    intro; omega
def chg (ls : List Int) : Nat → List (Int × Int)
  | 0 => []
  | k + 1 =>
    let D := dpP (chg ls k) (sp1 (dbl ls) k) ((dgP (chg ls k) (sp1 (dbl ls) k)).getD 0 + 1)
    dpP D (sp2 (dbl ls) k) ((dgP D (sp2 (dbl ls) k)).getD 0 - 1)
/-! the ends by their changes -/
theorem dg_cons {p : Int × Int} {D : List (Int × Int)} {k : Int} : dgP (p :: D) k = if p.1 = k then some p.2 else dgP D k := by
  unfold dgP
  rw [List.find?_cons]
  by_cases h : p.1 = k <;> simp [h]
theorem dg_nil {k : Int} : dgP ([] : List (Int × Int)) k = none := rfl
theorem dg_map {a v k : Int} : ∀ {D : List (Int × Int)}, dgP (D.map fun p => if p.1 = a then (p.1, v) else p) k = if k = a then (if a ∈ D.map (·.1) then some v else none) else dgP D k
  | [] => by simp [dg_nil]
  | p :: D => by
    rw [List.map_cons, dg_cons, dg_map, dg_cons, List.map_cons]
    by_cases h : p.1 = a
    · by_cases h2 : k = a
      · simp [h, h2]
      · have : ¬ a = k := fun e => h2 e.symm
        simp [h, h2, this]
    · by_cases h2 : k = a
      · have : ¬ a = p.1 := fun e => h e.symm
        rw [if_pos h2, if_pos h2, if_neg h, if_neg (fun e => h (by rw [e, h2]))]
        by_cases hm : a ∈ D.map (·.1)
        · rw [if_pos hm, if_pos (List.mem_cons_of_mem _ hm)]
        · rw [if_neg hm, if_neg (by rw [List.mem_cons, not_or]; exact ⟨this, hm⟩)]
      · simp [h, h2]
theorem dg_app {a v k : Int} : ∀ {D : List (Int × Int)}, a ∉ D.map (·.1) → dgP (D ++ [(a, v)]) k = if k = a then some v else dgP D k
  | [], _ => by
    rw [List.nil_append, dg_cons, dg_nil]
    by_cases h : a = k
    · simp [h]
    · rw [if_neg h, if_neg fun e => h e.symm]
  | p :: D, h => by
    rw [List.map_cons, List.mem_cons, not_or] at h
    rw [List.cons_append, dg_cons, dg_app h.2, dg_cons]
    by_cases h1 : p.1 = k
    · rw [if_pos h1, if_neg (fun e => h.1 (by rw [h1, e])), if_pos h1]
    · rw [if_neg h1, if_neg h1]
theorem any_mem {a : Int} {D : List (Int × Int)} : (D.any fun p => decide (p.1 = a)) = decide (a ∈ D.map (·.1)) := by
  rw [Bool.eq_iff_iff]
  simp
theorem dg_put {D : List (Int × Int)} {a v k : Int} : dgP (dpP D a v) k = if k = a then some v else dgP D k := by
  unfold dpP
  rw [any_mem]
  by_cases h : a ∈ D.map (·.1)
  · rw [decide_eq_true h, if_pos rfl, dg_map, if_pos h]
  · rw [decide_eq_false h, if_neg (by simp), dg_app h]
theorem ky_put {D : List (Int × Int)} {a v : Int} : (dpP D a v).map (·.1) = if a ∈ D.map (·.1) then D.map (·.1) else D.map (·.1) ++ [a] := by
  unfold dpP
  rw [any_mem]
  by_cases h : a ∈ D.map (·.1)
  · rw [decide_eq_true h, if_pos rfl, if_pos h, List.map_map]
    refine List.map_congr_left fun p _ => ?_
    show (if p.1 = a then (p.1, v) else p).1 = p.1
    split <;> rfl
  · rw [decide_eq_false h, if_neg (by simp), if_neg h, List.map_append]; rfl
theorem ky_mem {D : List (Int × Int)} {a v k : Int} : k ∈ (dpP D a v).map (·.1) ↔ k ∈ D.map (·.1) ∨ k = a := by
  rw [ky_put]
  split
  · rename_i h
    exact ⟨.inl, fun x => x.elim id fun e => e ▸ h⟩
  · rw [List.mem_append, List.mem_singleton]
theorem ky_nd {D : List (Int × Int)} {a v : Int} (h : (D.map (·.1)).Nodup) : ((dpP D a v).map (·.1)).Nodup := by
  rw [ky_put]
  split
  · exact h
  · rename_i h2
    exact List.nodup_append.mpr ⟨h, by simp, fun x hx y hy e => h2 (by rw [List.mem_singleton] at hy; rw [← hy, ← e]; exact hx)⟩
theorem dg_key {D : List (Int × Int)} {k : Int} (h : k ∈ D.map (·.1)) : dgP D k = some ((dgP D k).getD 0) := by
  induction D with
  | nil => simp at h
  | cons p D ih =>
    rw [dg_cons]
    by_cases e : p.1 = k
    · rw [if_pos e]; rfl
    · rw [if_neg e]
      rw [List.map_cons, List.mem_cons] at h
      exact ih (h.resolve_left fun x => e x.symm)
def lo (ls : List Int) (k : Nat) : Int := sp1 (dbl ls) k
def hi (ls : List Int) (k : Nat) : Int := sp2 (dbl ls) k
def vS (ls : List Int) (e : Int) : Nat → Int
  | 0 => 0
  | k + 1 => vS ls e k + (if lo ls k = e then 1 else 0) - (if hi ls k = e then 1 else 0)
def nF (ls X : List Int) : Nat → Int
  | 0 => 0
  | k + 1 => nF ls X k + (if lo ls k ∈ X then 1 else 0) - (if hi ls k ∈ X then 1 else 0)
def cF (ls : List Int) (p : Int) : Nat → Int
  | 0 => 0
  | k + 1 => cF ls p k + (if isCut (dbl ls) p k = true then 1 else 0)
theorem chg_mem {ls : List Int} {e : Int} : ∀ {k : Nat}, e ∈ (chg ls k).map (·.1) ↔ ∃ i, i < k ∧ (e = lo ls i ∨ e = hi ls i)
  | 0 => by simp [chg]
  | k + 1 => by
    show e ∈ (dpP (dpP _ _ _) _ _).map (·.1) ↔ _
    rw [ky_mem, ky_mem, chg_mem]
    constructor
    · rintro ((⟨i, hi, h⟩ | h) | h)
      · exact ⟨i, by omega, h⟩
      · exact ⟨k, by omega, .inl h⟩
      · exact ⟨k, by omega, .inr h⟩
    · rintro ⟨i, hi, h⟩
      rcases Nat.lt_or_ge i k with c | c
      · exact .inl (.inl ⟨i, c, h⟩)
      · have : i = k := by omega
        subst this
        exact h.elim (fun h => .inl (.inr h)) .inr
theorem chg_nd {ls : List Int} : ∀ {k : Nat}, ((chg ls k).map (·.1)).Nodup
  | 0 => by simp [chg]
  | k + 1 => ky_nd (ky_nd chg_nd)
theorem chg_val {ls : List Int} {e : Int} : ∀ {k : Nat}, (dgP (chg ls k) e).getD 0 = vS ls e k
  | 0 => rfl
  | k + 1 => by
    have ee : chg ls (k + 1) = dpP (dpP (chg ls k) (lo ls k) ((dgP (chg ls k) (lo ls k)).getD 0 + 1)) (hi ls k) ((dgP (dpP (chg ls k) (lo ls k) ((dgP (chg ls k) (lo ls k)).getD 0 + 1)) (hi ls k)).getD 0 - 1) := rfl
    show (dgP (chg ls (k + 1)) e).getD 0 = vS ls e k + _ - _
    rw [ee, dg_put, dg_put, dg_put, ← chg_val]
    by_cases h1 : lo ls k = e <;> by_cases h2 : hi ls k = e
    · subst h1; rw [if_pos h2.symm, if_pos h2, if_pos rfl, if_pos h2]; rfl
    · subst h1
      have : ¬ lo ls k = hi ls k := fun e => h2 e.symm
      rw [if_neg this, if_pos rfl, if_pos rfl, if_neg h2, Int.sub_zero]; rfl
    · subst h2
      have : ¬ hi ls k = lo ls k := fun e => h1 e.symm
      rw [if_pos rfl, if_neg this, if_neg h1, if_pos rfl, Int.add_zero]; rfl
    · rw [if_neg (fun e => h2 e.symm), if_neg (fun e => h1 e.symm), if_neg h1, if_neg h2, Int.add_zero, Int.sub_zero]
theorem nF_nil {ls : List Int} : ∀ {k : Nat}, nF ls [] k = 0
  | 0 => rfl
  | k + 1 => by
    show nF ls [] k + _ - _ = 0
    rw [nF_nil]; simp
theorem nF_snoc {ls X : List Int} {e : Int} (h : e ∉ X) : ∀ {k : Nat}, nF ls (X ++ [e]) k = nF ls X k + vS ls e k
  | 0 => rfl
  | k + 1 => by
    have one : ∀ a : Int, (if a ∈ X ++ [e] then (1 : Int) else 0) = (if a ∈ X then 1 else 0) + (if a = e then 1 else 0) := fun a => by
      by_cases c : a = e
      · subst c; simp [h]
      · by_cases d : a ∈ X <;> simp [c, d]
    show nF ls (X ++ [e]) k + _ - _ = nF ls X k + _ - _ + (vS ls e k + _ - _)
    rw [nF_snoc h, one, one]
    omega
theorem allE_mem {ls : List Int} {e : Int} : e ∈ allE ls ↔ ∃ i, i < ls.length ∧ (e = lo ls i ∨ e = hi ls i) := by
  have dl : (dbl ls).length = ls.length := by unfold dbl; simp
  unfold allE rangeL lo hi
  rw [List.mem_flatMap]
  constructor
  · rintro ⟨a, ha, h⟩
    obtain ⟨i, hi, rfl⟩ := List.mem_map.mp ha
    rw [List.mem_range] at hi
    refine ⟨i, by omega, ?_⟩
    simpa using h
  · rintro ⟨i, hi, h⟩
    refine ⟨i, List.mem_map.mpr ⟨i, List.mem_range.mpr (by omega), by simp⟩, ?_⟩
    simpa using h
theorem S_eq {ls : List Int} : ((chg ls ls.length).map (·.1)).mergeSort leI = srtU (allE ls) :=
  sort_uniq (perm_of_mem chg_nd (lt_nodup srt_srtU) (fun a => by rw [mem_srtU, chg_mem, allE_mem])) (lt_le srt_srtU)
theorem lo_hi {ls : List Int} (hp : ∀ v ∈ ls, 1 ≤ v) {k : Nat} (hk : k < ls.length) : lo ls k < hi ls k ∧ lo ls k % 2 = 0 ∧ hi ls k % 2 = 0 := by
  have g : 1 ≤ gi ls k := by
    have : gi ls k = ls[k] := by
      unfold gi
      rw [Int.toNat_natCast, List.getD_eq_getElem?_getD, List.getElem?_eq_getElem hk]; rfl
    rw [this]; exact hp _ (List.getElem_mem hk)
  have s : endAt ls (k + 1) = endAt ls k + (if (k : Int) % 2 = 0 then gi ls k else - gi ls k) := rfl
  unfold lo hi sp1 sp2
  rw [show ((k : Int) + 1).toNat = k + 1 by omega, show ((k : Int)).toNat = k from rfl, endAt_dbl, endAt_dbl, s]
  split <;> split <;> split <;> omega
theorem cnt_cF {ls : List Int} {p : Int} : cnt ls p = cF ls p ls.length := by
  have dl : (dbl ls).length = ls.length := by unfold dbl; simp
  unfold cnt covL
  rw [dl]
  generalize ls.length = k
  induction k with
  | zero => rfl
  | succ k ih =>
    rw [show ((k + 1 : Nat) : Int) = (k : Int) + 1 by omega, show rangeL 0 ((k : Int) + 1) = rangeL 0 k ++ [(k : Int)] by (unfold rangeL; rw [show ((k : Int) + 1 - 0).toNat = k + 1 by omega, show ((k : Int) - 0).toNat = k by omega, List.range_succ, List.map_append]; simp), List.filter_append, List.length_append]
    show _ = cF ls p k + _
    rw [← ih]
    by_cases h : isCut (dbl ls) p k = true <;> simp [h]
theorem nF_cF {ls done rest : List Int} {e : Int} (hp : ∀ v ∈ ls, 1 ≤ v) (hS : done ++ e :: rest = srtU (allE ls)) : ∀ {k : Nat}, k ≤ ls.length → nF ls (done ++ [e]) k = cF ls (e + 1) k
  | 0, _ => rfl
  | k + 1, hk => by
    have pw := srt_srtU (is := allE ls)
    have me : ∀ x, x ∈ allE ls → (x ∈ done ++ [e] ↔ x ≤ e) := fun x hx => by
      have hx : x ∈ srtU (allE ls) := mem_srtU.mpr hx
      rw [← hS] at hx pw
      have p1 := List.pairwise_append.mp pw
      have p2 := List.pairwise_cons.mp p1.2.1
      rw [List.mem_append, List.mem_cons] at hx
      rw [List.mem_append, List.mem_singleton]
      constructor
      · rintro (h | h)
        · exact Int.le_of_lt (p1.2.2 x h e List.mem_cons_self)
        · omega
      · intro h
        rcases hx with hx | hx | hx
        · exact .inl hx
        · exact .inr hx
        · have := p2.1 x hx; omega
    have ev : e % 2 = 0 := by
      have he : e ∈ srtU (allE ls) := by rw [← hS]; simp
      obtain ⟨i, hi, h⟩ := allE_mem.mp (mem_srtU.mp he)
      have := lo_hi hp hi
      rcases h with h | h <;> omega
    have l := lo_hi hp (show k < ls.length by omega)
    have ic : (isCut (dbl ls) (e + 1) k = true) ↔ (lo ls k < e + 1 ∧ e + 1 < hi ls k) := by
      unfold isCut lo hi
      simp only [Bool.and_eq_true, decide_eq_true_eq]
    show nF ls (done ++ [e]) k + (if lo ls k ∈ done ++ [e] then (1 : Int) else 0) - (if hi ls k ∈ done ++ [e] then 1 else 0) = cF ls (e + 1) k + (if isCut (dbl ls) (e + 1) k = true then (1 : Int) else 0)
    have f1 := me _ (allE_mem.mpr ⟨k, by omega, .inl rfl⟩)
    have f2 := me _ (allE_mem.mpr ⟨k, by omega, .inr rfl⟩)
    rw [nF_cF hp hS (by omega)]
    simp only [f1, f2, ic]
    clear me f1 f2 ic pw
    split <;> split <;> split <;> omega
theorem cnt_first {ls r : List Int} {e : Int} (hp : ∀ v ∈ ls, 1 ≤ v) (hS : e :: r = srtU (allE ls)) : 0 < cnt ls (e + 1) := by
  have dl : (dbl ls).length = ls.length := by unfold dbl; simp
  have he : e ∈ srtU (allE ls) := by rw [← hS]; simp
  obtain ⟨i, hi', h⟩ := allE_mem.mp (mem_srtU.mp he)
  have l := lo_hi hp hi'
  have h0 : lo ls i ∈ srtU (allE ls) := mem_srtU.mpr (allE_mem.mpr ⟨i, hi', .inl rfl⟩)
  have pw := srt_srtU (is := allE ls)
  rw [← hS] at h0 pw
  have p2 := (List.pairwise_cons.mp pw).1
  have le : e ≤ lo ls i := by
    rcases List.mem_cons.mp h0 with h | h
    · omega
    · have := p2 _ h; omega
  have hm : (i : Int) ∈ covL (dbl ls) (e + 1) := by
    unfold covL
    refine List.mem_filter.mpr ⟨?_, ?_⟩
    · unfold rangeL
      exact List.mem_map.mpr ⟨i, List.mem_range.mpr (by omega), by simp⟩
    · unfold isCut
      have e1 : sp1 (dbl ls) i = lo ls i := rfl
      have e2 : sp2 (dbl ls) i = hi ls i := rfl
      rw [e1, e2]
      simp only [Bool.and_eq_true, decide_eq_true_eq]
      omega
  have := List.length_pos_of_mem hm
  unfold cnt
  omega
theorem bst_0 {ls : List Int} (hp : ∀ v ∈ ls, 1 ≤ v) (h1 : 1 ≤ ls.length) : (srtU (allE ls)).foldl (bstep ls) (0, 0) = bst ls := by
  unfold bst
  have h := @cnt_first ls
  generalize hS : srtU (allE ls) = S at h
  cases S with
  | nil =>
    have := allE_mem.mpr ⟨0, h1, .inl rfl⟩
    have := mem_srtU.mpr this
    rw [hS] at this
    simp at this
  | cons e r =>
    have := h hp rfl
    rw [List.foldl_cons, List.foldl_cons]
    unfold bstep
    rw [if_pos this, if_pos this]
theorem dpP_len {D : List (Int × Int)} {a v : Int} : (dpP D a v).length ≤ D.length + 1 := by
  unfold dpP
  split <;> simp
theorem chg_len {ls : List Int} : ∀ {k : Nat}, (chg ls k).length ≤ 2 * k
  | 0 => Nat.le_refl _
  | k + 1 => by
    have h := chg_len (ls := ls) (k := k)
    have h1 := dpP_len (D := chg ls k) (a := sp1 (dbl ls) k) (v := (dgP (chg ls k) (sp1 (dbl ls) k)).getD 0 + 1)
    have h2 := dpP_len (D := dpP (chg ls k) (sp1 (dbl ls) k) ((dgP (chg ls k) (sp1 (dbl ls) k)).getD 0 + 1)) (a := sp2 (dbl ls) k) (v := (dgP (dpP (chg ls k) (sp1 (dbl ls) k) ((dgP (chg ls k) (sp1 (dbl ls) k)).getD 0 + 1)) (sp2 (dbl ls) k)).getD 0 - 1)
    show (dpP _ _ _).length ≤ _
    omega
theorem s__law_best {n : Nat} {ls : List Int} (hp : ∀ v ∈ ls, 1 ≤ v) (h1 : 1 ≤ ls.length) (hl : ls.length ≤ 500) {K : Vl → List T → Prop} : FQ prog (n+2) F._law_best [.tup (ls.map .int)] K = K (.fr (.tup [.int (bst ls).1, .int (bst ls).2])) [] := by
  refine fq_eq ?_
  refine open__law_best ?_; unfold d__law_best
  simp! [s__law_ends (n := n) (ls := ls) (by omega)]
  refine ⟨small_of (by omega) (by omega), ?_⟩
  refine for_rng (fun i l => l = [Sl.fr (.tup (ls.map .int)), .ow (.lst ((En ls ls.length).map .int)), .ow (.dct false ((chg ls i.toNat).map fun p => .int p.1) ((chg ls i.toNat).map fun p => .int p.2)), .no, .no, .no, .no, .no, .no, .no]) (by omega) rfl (fun i l i0 i1 hl' => ?_) (fun l hl' => ?_)
  · subst hl'
    obtain ⟨k, rfl⟩ := Int.eq_ofNat_of_zero_le i0
    rw [show ((k : Int)).toNat = k from rfl, show ((k : Int) + 1).toNat = k + 1 by omega]
    simp! [En_at (ls := ls) (k := ls.length) i0 (show (k : Int) ≤ ls.length by omega), En_at (ls := ls) (k := ls.length) (show 0 ≤ (k : Int) + 1 by omega) (show (k : Int) + 1 ≤ ls.length by omega)]
    have q : ∀ K : Vl → Prop, PQ .sorted [.lst [.int (2 * endAt ls ((k : Int)).toNat), .int (2 * endAt ls ((k : Int) + 1).toNat)]] K = K (.ow (.lst [.int (sp1 (dbl ls) k), .int (sp2 (dbl ls) k)])) := fun K => by
      rw [show ([T.int (2 * endAt ls ((k : Int)).toNat), T.int (2 * endAt ls ((k : Int) + 1).toNat)] : List T) = [2 * endAt ls ((k : Int)).toNat, 2 * endAt ls ((k : Int) + 1).toNat].map .int from rfl, p_sorted, ms2]
      unfold sp1 sp2
      rw [endAt_dbl, endAt_dbl]; rfl
    refine ⟨mulOk_l (by decide) (by decide), mulOk_l (by decide) (by decide), ?_⟩
    rw [q]
    have e6 : chg ls (k + 1) = dpP (dpP (chg ls k) (sp1 (dbl ls) k) ((dgP (chg ls k) (sp1 (dbl ls) k)).getD 0 + 1)) (sp2 (dbl ls) k) ((dgP (dpP (chg ls k) (sp1 (dbl ls) k) ((dgP (chg ls k) (sp1 (dbl ls) k)).getD 0 + 1)) (sp2 (dbl ls) k)).getD 0 - 1) := rfl
    rw [e6]
    have z := chg_len (ls := ls) (k := k)
    generalize chg ls k = D at z
    generalize sp1 (dbl ls) k = a
    generalize sp2 (dbl ls) k = b
    have g1 : ∀ (D : List (Int × Int)) (a : Int), (dAt (D.map fun p => T.int p.1) (D.map fun p => T.int p.2) (.int a)).getD (.int 0) = .int ((dgP D a).getD 0) := fun D a => by
      rw [dAt_map (f := T.int) (g := T.int) eqv_ii]
      cases dgP D a <;> rfl
    have g2 : ∀ (D : List (Int × Int)) (a v : Int), dKs (D.map fun p => T.int p.1) (.int a) = (dpP D a v).map fun p => T.int p.1 := fun D a v => dKs_map (f := T.int) eqv_ii a v D
    have g3 : ∀ (D : List (Int × Int)) (a v : Int), dVs (D.map fun p => T.int p.1) (D.map fun p => T.int p.2) (.int a) (.int v) = (dpP D a v).map fun p => T.int p.2 := fun D a v => dVs_map (f := T.int) (g := T.int) eqv_ii a v D
    simp! [g1]
    have z2 := dpP_len (D := D) (a := a) (v := (dgP D a).getD 0 + 1)
    refine ⟨by unfold sizeMax; omega, ?_⟩
    rw [g2 D a ((dgP D a).getD 0 + 1), g3 D a]
    simp! [g1]
    refine ⟨by unfold sizeMax; omega, ?_⟩
    rw [g2 _ b ((dgP (dpP D a ((dgP D a).getD 0 + 1)) b).getD 0 - 1), g3 _ b]
  · subst hl'
    rw [show ((ls.length : Int)).toNat = ls.length from rfl]
    have e7 : (chg ls ls.length).map (fun p => T.int p.1) = ((chg ls ls.length).map (·.1)).map .int := by rw [List.map_map]; rfl
    have q : ∀ (vs : List T) (K : Vl → Prop), PQ .sorted [.dct false ((chg ls ls.length).map fun p => T.int p.1) vs] K = K (.ow (.lst ((((chg ls ls.length).map (·.1)).mergeSort leI).map .int))) := fun vs K => by rw [e7, p_sorted_d]
    simp! [q]
    rw [S_eq]
    refine for_at (γ := Int) (enc := .int) (as := srtU (allE ls)) (fun done rest l => l = [Sl.fr (.tup (ls.map .int)), .ow (.lst ((En ls ls.length).map .int)), .ow (.dct false ((chg ls ls.length).map fun p => .int p.1) ((chg ls ls.length).map fun p => .int p.2)), .no, .no, .no, .fr (.int (done.foldl (bstep ls) (0, 0)).1), .fr (.int (done.foldl (bstep ls) (0, 0)).2), .fr (.int (nF ls done ls.length)), .no]) ?_ (fun done e rest l ef hl' => ?_) (fun l hl' => ?_)
    · rw [nF_nil]; rfl
    · subst hl'
      have c1 : nF ls (done ++ [e]) ls.length = cnt ls (e + 1) := by rw [cnt_cF, nF_cF hp ef (Nat.le_refl _)]
      have nd : e ∉ done := fun h => by
        have pw := srt_srtU (is := allE ls)
        rw [← ef] at pw
        have := (List.pairwise_append.mp pw).2.2 e h e List.mem_cons_self
        omega
      have c2 := nF_snoc nd (ls := ls) (k := ls.length)
      have he : e ∈ srtU (allE ls) := by rw [← ef]; simp
      have hk := chg_mem.mpr (allE_mem.mp (mem_srtU.mp he))
      have g1 : dAt ((chg ls ls.length).map fun p => T.int p.1) ((chg ls ls.length).map fun p => T.int p.2) (.int e) = some (.int (vS ls e ls.length)) := by
        rw [dAt_map (f := T.int) (g := T.int) eqv_ii, dg_key hk, chg_val]; rfl
      rw [List.foldl_append, c1]
      generalize done.foldl (bstep ls) (0, 0) = st
      rw [c1] at c2
      simp! [g1]
      have eb : bstep ls st e = if st.1 < cnt ls (e + 1) then (cnt ls (e + 1), e + 1) else st := rfl
      rw [← c2, eb]
      split <;> rfl
    · subst hl'
      rw [bst_0 hp h1]
      simp! []
/-! the first greatest -/
def fst' (f : Int → Int) (s : Int × Int) (q : Int) : Int × Int := if f q > s.1 then (f q, q) else s
theorem fold_max {f : Int → Int} : ∀ {L : List Int} {s : Int × Int}, L.Pairwise (· < ·) → (L.foldl (fst' f) s = s ∧ ∀ q ∈ L, f q ≤ s.1) ∨ (s.1 < (L.foldl (fst' f) s).1 ∧ (L.foldl (fst' f) s).2 ∈ L ∧ f (L.foldl (fst' f) s).2 = (L.foldl (fst' f) s).1 ∧ (∀ q ∈ L, f q ≤ (L.foldl (fst' f) s).1) ∧ ∀ q ∈ L, q < (L.foldl (fst' f) s).2 → f q < (L.foldl (fst' f) s).1)
  | [], s, _ => .inl ⟨rfl, by simp⟩
  | a :: L, s, h => by
    have h1 := (List.pairwise_cons.mp h).1
    rw [List.foldl_cons]
    by_cases c : f a > s.1
    · have e : fst' f s a = (f a, a) := if_pos c
      rw [e]
      rcases fold_max (f := f) (s := (f a, a)) (List.pairwise_cons.mp h).2 with ⟨g, g1⟩ | ⟨g, g1, g2, g3, g4⟩
      · rw [g]
        refine .inr ⟨c, List.mem_cons_self, rfl, fun q hq => ?_, fun q hq lt => ?_⟩
        · rcases List.mem_cons.mp hq with rfl | hq
          · exact Int.le_refl _
          · exact g1 q hq
        · rcases List.mem_cons.mp hq with rfl | hq
          · exact absurd lt (Int.lt_irrefl _)
          · have := h1 q hq
            exact absurd lt (by show ¬ q < a; omega)
      · refine .inr ⟨Int.lt_trans c g, List.mem_cons_of_mem _ g1, g2, fun q hq => ?_, fun q hq lt => ?_⟩
        · rcases List.mem_cons.mp hq with rfl | hq
          · exact Int.le_of_lt g
          · exact g3 q hq
        · rcases List.mem_cons.mp hq with rfl | hq
          · exact g
          · exact g4 q hq lt
    · have e : fst' f s a = s := if_neg c
      rw [e]
      rcases fold_max (f := f) (s := s) (List.pairwise_cons.mp h).2 with ⟨g, g1⟩ | ⟨g, g1, g2, g3, g4⟩
      · refine .inl ⟨g, fun q hq => ?_⟩
        rcases List.mem_cons.mp hq with rfl | hq
        · omega
        · exact g1 q hq
      · refine .inr ⟨g, List.mem_cons_of_mem _ g1, g2, fun q hq => ?_, fun q hq lt => ?_⟩
        · rcases List.mem_cons.mp hq with rfl | hq
          · omega
          · exact g3 q hq
        · rcases List.mem_cons.mp hq with rfl | hq
          · omega
          · exact g4 q hq lt
theorem bst_fst {ls : List Int} (hp : ∀ v ∈ ls, 1 ≤ v) (h1 : 1 ≤ ls.length) : ((srtU (allE ls)).map (· + 1)).foldl (fst' (cnt ls)) (0, 0) = bst ls := by
  rw [← bst_0 hp h1, List.foldl_map]; rfl
theorem cut_iff {ls : List Int} {p : Int} {i : Nat} : isCut (dbl ls) p i = true ↔ lo ls i < p ∧ p < hi ls i := by
  unfold isCut lo hi
  simp only [Bool.and_eq_true, decide_eq_true_eq]
theorem cF_le {ls : List Int} {p q : Int} (h : ∀ i, i < ls.length → isCut (dbl ls) p i = true → isCut (dbl ls) q i = true) : ∀ {k : Nat}, k ≤ ls.length → cF ls p k ≤ cF ls q k
  | 0, _ => Int.le_refl _
  | k + 1, hk => by
    have a := cF_le h (show k ≤ ls.length by omega)
    have b := h k (by omega)
    show cF ls p k + (if isCut (dbl ls) p k = true then (1 : Int) else 0) ≤ cF ls q k + (if isCut (dbl ls) q k = true then (1 : Int) else 0)
    by_cases c : isCut (dbl ls) p k = true
    · rw [if_pos c, if_pos (b c)]; omega
    · rw [if_neg c]; split <;> omega
theorem cF_pos {ls : List Int} {p : Int} : ∀ {k : Nat}, 0 < cF ls p k → ∃ i, i < k ∧ isCut (dbl ls) p i = true
  | 0, h => absurd h (Int.lt_irrefl _)
  | k + 1, h => by
    by_cases c : isCut (dbl ls) p k = true
    · exact ⟨k, by omega, c⟩
    · have e : cF ls p (k + 1) = cF ls p k + (if isCut (dbl ls) p k = true then (1 : Int) else 0) := rfl
      rw [e, if_neg c] at h
      obtain ⟨i, hi, x⟩ := cF_pos (show 0 < cF ls p k by omega)
      exact ⟨i, by omega, x⟩
theorem max_le {p : Int} : ∀ {S : List Int}, (∃ x ∈ S, x < p) → ∃ e ∈ S, e < p ∧ ∀ x ∈ S, x < p → x ≤ e
  | [], h => by simp at h
  | a :: S, h => by
    by_cases c : ∃ x ∈ S, x < p
    · obtain ⟨e, he, lt, m⟩ := max_le c
      by_cases d : a < p ∧ e < a
      · exact ⟨a, List.mem_cons_self, d.1, fun x hx l => by
          rcases List.mem_cons.mp hx with rfl | hx
          · exact Int.le_refl _
          · have := m x hx l; omega⟩
      · exact ⟨e, List.mem_cons_of_mem _ he, lt, fun x hx l => by
          rcases List.mem_cons.mp hx with rfl | hx
          · omega
          · exact m x hx l⟩
    · obtain ⟨x, hx, l⟩ := h
      rcases List.mem_cons.mp hx with rfl | hx
      · exact ⟨x, List.mem_cons_self, l, fun y hy l2 => by
          rcases List.mem_cons.mp hy with rfl | hy
          · exact Int.le_refl _
          · exact absurd ⟨y, hy, l2⟩ c⟩
      · exact absurd ⟨x, hx, l⟩ c
/-- gone through all places -/
theorem thr_bst {ls : List Int} (hp : ∀ v ∈ ls, 1 ≤ v) (h1 : 1 ≤ ls.length) (hb : ∀ i, i < ls.length → -60 ≤ lo ls i ∧ hi ls i ≤ 60) : (rangeL (-60) 61).foldl (fst' (cnt ls)) (0, 0) = bst ls := by
  have pS := srt_srtU (is := allE ls)
  have pw : ((srtU (allE ls)).map (· + 1)).Pairwise (· < ·) := by
    rw [List.pairwise_map]; exact pS.imp (fun {a b} h => by omega)
  have b1 := bst_fst hp h1
  have A := fold_max (f := cnt ls) (s := (0, 0)) pw
  have B := fold_max (f := cnt ls) (s := (0, 0)) (rng_sorted (-60) 61)
  rw [b1] at A
  generalize (rangeL (-60) 61).foldl (fst' (cnt ls)) (0, 0) = T at B
  generalize bst ls = U at A
  have ps : 0 < U.1 ∧ U.2 ∈ (srtU (allE ls)).map (· + 1) ∧ cnt ls U.2 = U.1 ∧ (∀ q ∈ (srtU (allE ls)).map (· + 1), cnt ls q ≤ U.1) ∧ ∀ q ∈ (srtU (allE ls)).map (· + 1), q < U.2 → cnt ls q < U.1 := by
    rcases A with ⟨_, x⟩ | x
    · exfalso
      have hS : ∃ e r, e :: r = srtU (allE ls) := by
        have hm := mem_srtU.mpr (allE_mem.mpr ⟨0, h1, .inl rfl⟩)
        cases h : srtU (allE ls) with
        | nil => rw [h] at hm; simp at hm
        | cons e r => exact ⟨e, r, rfl⟩
      obtain ⟨e, r, hS⟩ := hS
      have h := cnt_first hp hS
      have y := x (e + 1) (by rw [← hS]; simp)
      exact absurd h (by show ¬ 0 < cnt ls (e + 1); have y : cnt ls (e + 1) ≤ 0 := y; omega)
    · exact x
  obtain ⟨u0, u1, u2, u3, u4⟩ := ps
  have inr : ∀ q, 0 < cnt ls q → q ∈ rangeL (-60) 61 := fun q hq => by
    rw [cnt_cF] at hq
    obtain ⟨i, hi, c⟩ := cF_pos hq
    have c := cut_iff.mp c
    have := hb i hi
    exact mem_rng_of (by omega) (by omega)
  have u5 := inr U.2 (by omega)
  rcases B with ⟨_, x⟩ | ⟨t0, t1, t2, t3, t4⟩
  · have := x _ u5
    exact absurd this (by show ¬ cnt ls U.2 ≤ 0; omega)
  have t0 : 0 < T.1 := t0
  obtain ⟨i, hi, c⟩ := cF_pos (show 0 < cF ls T.2 ls.length by rw [← cnt_cF]; omega)
  obtain ⟨e, he, lt, m⟩ := max_le (p := T.2) (S := srtU (allE ls)) ⟨lo ls i, mem_srtU.mpr (allE_mem.mpr ⟨i, hi, .inl rfl⟩), (cut_iff.mp c).1⟩
  have le : cnt ls T.2 ≤ cnt ls (e + 1) := by
    rw [cnt_cF, cnt_cF]
    refine cF_le (fun j hj c => ?_) (Nat.le_refl _)
    have c := cut_iff.mp c
    have := m (lo ls j) (mem_srtU.mpr (allE_mem.mpr ⟨j, hj, .inl rfl⟩)) c.1
    exact cut_iff.mpr ⟨by omega, by omega⟩
  have me : e + 1 ∈ (srtU (allE ls)).map (· + 1) := List.mem_map.mpr ⟨e, he, rfl⟩
  have q1 := u3 _ me
  have q2 := t3 _ u5
  have q3 : ¬ U.2 < T.2 := fun h => by have := t4 _ u5 h; omega
  have q4 : ¬ e + 1 < U.2 := fun h => by have := u4 _ me h; omega
  exact Prod.ext (by omega) (by omega)

theorem s__law_gone_through {n : Nat} {ls : List Int} (hp : ∀ v ∈ ls, 1 ≤ v) (h1 : 1 ≤ ls.length) (hl : ls.length ≤ 500) {K : Vl → List T → Prop} (h : ∀ a b : Int, (0 < a → (a, b) = bst ls) → K (.fr (.tup [.int a, .int b])) []) : FQ prog (n+2) F._law_gone_through [.tup (ls.map .int)] K := by

  refine open__law_gone_through ?_; unfold d__law_gone_through
  obtain ⟨m, hm, mm, ml⟩ := minL_of (xs := En ls ls.length) En_ne
  obtain ⟨M, hM, MM, Ml⟩ := maxL_of (xs := En ls ls.length) En_ne
  have bd : ¬ m < -30 → ¬ M > 30 → ∀ i, i < ls.length → -60 ≤ lo ls i ∧ hi ls i ≤ 60 := fun a b i hi => by
    have e : ∀ k, k ≤ ls.length → endAt ls k ∈ En ls ls.length := fun k hk => List.mem_map.mpr ⟨k, List.mem_range.mpr (by omega), rfl⟩
    have x1 := ml _ (e i (by omega))
    have x2 := ml _ (e (i + 1) (by omega))
    have y1 := Ml _ (e i (by omega))
    have y2 := Ml _ (e (i + 1) (by omega))
    unfold lo Ir.Wk.Law.hi sp1 sp2
    rw [show ((i : Int) + 1).toNat = i + 1 by omega, show ((i : Int)).toNat = i from rfl, endAt_dbl, endAt_dbl]
    split <;> split <;> omega
  simp! [s__law_ends (n := n) (ls := ls) (by omega), hm, hM]
  have z0 : K (.fr (.tup [.int 0, .int 0])) [] := h 0 0 fun c => absurd c (Int.lt_irrefl _)
  split
  · exact z0
  rename_i c1
  split
  · exact z0
  rename_i c2
  have B := thr_bst hp h1 (bd c1 c2)
  refine ⟨⟨by decide, by decide⟩, ?_⟩
  refine for_at (γ := Int) (enc := .int) (as := rangeL (-60) 61) (fun done rest l => l = [Sl.fr (.tup (ls.map .int)), .ow (.lst ((En ls ls.length).map .int)), .fr (.int (done.foldl (fst' (cnt ls)) (0, 0)).1), .fr (.int (done.foldl (fst' (cnt ls)) (0, 0)).2), .no, .no, .no]) ?_ (fun done p rest l ef hl' => ?_) (fun l hl' => ?_)
  · rfl
  · subst hl'
    rw [List.foldl_append]
    generalize done.foldl (fst' (cnt ls)) (0, 0) = st
    simp! []
    refine ⟨small_of (by omega) (by omega), ?_⟩
    refine for_rng (fun i l => l = [Sl.fr (.tup (ls.map .int)), .ow (.lst ((En ls ls.length).map .int)), .fr (.int st.1), .fr (.int st.2), .fr (.int p), .fr (.int (cF ls p i.toNat)), .no]) (by omega) rfl (fun i l i0 i1 hl' => ?_) (fun l hl' => ?_)
    · subst hl'
      obtain ⟨k, rfl⟩ := Int.eq_ofNat_of_zero_le i0
      rw [show ((k : Int)).toNat = k from rfl, show ((k : Int) + 1).toNat = k + 1 by omega]
      have ec : cF ls p (k + 1) = cF ls p k + (if isCut (dbl ls) p k = true then (1 : Int) else 0) := rfl
      have el : lo ls k = if 2 * endAt ls (k + 1) < 2 * endAt ls k then 2 * endAt ls (k + 1) else 2 * endAt ls k := by
        unfold lo sp1
        rw [show ((k : Int) + 1).toNat = k + 1 by omega, show ((k : Int)).toNat = k from rfl, endAt_dbl, endAt_dbl]
      have eh : Ir.Wk.Law.hi ls k = if 2 * endAt ls (k + 1) > 2 * endAt ls k then 2 * endAt ls (k + 1) else 2 * endAt ls k := by
        unfold Ir.Wk.Law.hi sp2
        rw [show ((k : Int) + 1).toNat = k + 1 by omega, show ((k : Int)).toNat = k from rfl, endAt_dbl, endAt_dbl]
      rw [ec]
      simp! [En_at (ls := ls) (k := ls.length) i0 (show (k : Int) ≤ ls.length by omega), En_at (ls := ls) (k := ls.length) (show 0 ≤ (k : Int) + 1 by omega) (show (k : Int) + 1 ≤ ls.length by omega)]
      have ci := cut_iff (ls := ls) (p := p) (i := k)
      rw [show ((k : Int)).toNat = k from rfl, show ((k : Int) + 1).toNat = k + 1 by omega, ← el, ← eh]
      refine ⟨mulOk_l (by decide) (by decide), mulOk_l (by decide) (by decide), ?_⟩
      split <;> rename_i x
      · refine ⟨mulOk_l (by decide) (by decide), mulOk_l (by decide) (by decide), ?_⟩
        by_cases y : p < Ir.Wk.Law.hi ls k
        · rw [if_pos y, if_pos (ci.mpr ⟨x, y⟩)]
        · rw [if_neg y, if_neg (fun c => y (ci.mp c).2)]
      · rw [if_neg (fun c => x (ci.mp c).1)]
    · subst hl'
      rw [show ((ls.length : Int)).toNat = ls.length from rfl, ← cnt_cF]
      simp! []
      have eb : fst' (cnt ls) st p = if st.1 < cnt ls p then (cnt ls p, p) else st := rfl
      rw [eb]
      split <;> rfl
  · subst hl'
    rw [B]
    simp! []
    exact h _ _ fun _ => rfl

def IsSt (x : T) : Prop := ∃ (ls : List Int) (s : List Nat), 1 ≤ ls.length ∧ ls.length ≤ 401 ∧ (∀ v ∈ ls, 1 ≤ v) ∧ x = .tup [.tup (ls.map .int), .str s]
theorem s__law_is_integer {n : Nat} {a : Int} {K : Vl → List T → Prop} : FQ prog (n+1) F._law_is_integer [.int a] K = K (.fr (.bl true)) [] := by
  refine fq_eq ?_
  refine open__law_is_integer ?_; unfold d__law_is_integer
  simp! []
structure PcOk (ls : List Int) (p m : Int) : Prop where
  len : ((pieL (dbl ls) p).length : Int) = m + 1
  pos : ∀ v ∈ pieL (dbl ls) p, 1 ≤ v
  sum : (pieL (dbl ls) p).sum = (dbl ls).sum
theorem pts_len2 {ls : List Int} {p : Int} : ∀ {k : Nat}, ((ptsL (dbl ls) p k).length : Int) = 1 + cF ls p k
  | 0 => rfl
  | k + 1 => by
    show ((ptsL (dbl ls) p k ++ (if isCut (dbl ls) p k = true then [totl (dbl ls) k + absV (p - endAt (dbl ls) k)] else [])).length : Int) = 1 + (cF ls p k + (if isCut (dbl ls) p k = true then (1 : Int) else 0))
    have := pts_len2 (ls := ls) (p := p) (k := k)
    rw [List.length_append]
    split <;> simp <;> omega
theorem dif_app : ∀ {xs : List Int} {b : Int}, (difs (xs ++ [b])).sum = if xs = [] then 0 else b - xs.headD 0
  | [], b => rfl
  | [a], b => by simp [difs]
  | a :: c :: r, b => by
    have := dif_app (xs := c :: r) (b := b)
    rw [if_neg (by simp)] at this ⊢
    show (c - a + (difs (c :: r ++ [b])).sum) = _
    rw [this]
    simp; omega
theorem dif_pos : ∀ {xs : List Int}, xs.Pairwise (· < ·) → ∀ v ∈ difs xs, 1 ≤ v
  | [], _, v, h => by simp [difs] at h
  | [a], _, v, h => by simp [difs] at h
  | a :: c :: r, h, v, hv => by
    have h0 := List.pairwise_cons.mp h
    have hv : v ∈ (c - a) :: difs (c :: r) := hv
    rcases List.mem_cons.mp hv with h1 | h1
    · have := h0.1 c List.mem_cons_self; omega
    · exact dif_pos h0.2 v h1
theorem tot_sum {ls : List Int} : ∀ {k : Nat}, k ≤ ls.length → totl ls k = (ls.take k).sum
  | 0, _ => by simp [totl]
  | k + 1, h => by
    have g : ls[k]? = some (gi ls k) := by
      unfold gi
      rw [Int.toNat_natCast, List.getD_eq_getElem?_getD, List.getElem?_eq_getElem (by omega)]; rfl
    rw [List.take_add_one, g, List.sum_append, ← tot_sum (show k ≤ ls.length by omega)]
    simp [totl]
theorem pts_pw {ls : List Int} {p : Int} (hp : ∀ v ∈ ls, 1 ≤ v) : ∀ {k : Nat}, k ≤ ls.length → (ptsL (dbl ls) p k).Pairwise (· < ·) ∧ (∀ x ∈ ptsL (dbl ls) p k, x < totl (dbl ls) k ∨ (k = 0 ∧ x = 0)) ∧ (ptsL (dbl ls) p k).headD 1 = 0
  | 0, _ => ⟨by simp [ptsL], by simp [ptsL], rfl⟩
  | k + 1, hk => by
    obtain ⟨a1, a2, a3⟩ := pts_pw (p := p) hp (show k ≤ ls.length by omega)
    have l := lo_hi hp (show k < ls.length by omega)
    have ci := cut_iff (ls := ls) (p := p) (i := k)
    have el : lo ls k = if endAt (dbl ls) (k + 1) < endAt (dbl ls) k then endAt (dbl ls) (k + 1) else endAt (dbl ls) k := rfl
    have eh : hi ls k = if endAt (dbl ls) (k + 1) > endAt (dbl ls) k then endAt (dbl ls) (k + 1) else endAt (dbl ls) k := rfl
    have es : endAt (dbl ls) (k + 1) = endAt (dbl ls) k + (if (k : Int) % 2 = 0 then gi (dbl ls) k else - gi (dbl ls) k) := rfl
    have et : totl (dbl ls) (k + 1) = totl (dbl ls) k + gi (dbl ls) k := rfl
    have g : 1 ≤ gi (dbl ls) k := by
      have g1 : gi ls k = ls[k] := by
        unfold gi
        rw [Int.toNat_natCast, List.getD_eq_getElem?_getD, List.getElem?_eq_getElem (by omega)]; rfl
      have g2 := hp _ (List.getElem_mem (show k < ls.length by omega))
      rw [gi_dbl, g1]; omega
    show (ptsL (dbl ls) p k ++ (if isCut (dbl ls) p k = true then [totl (dbl ls) k + absV (p - endAt (dbl ls) k)] else [])).Pairwise (· < ·) ∧ (∀ x ∈ ptsL (dbl ls) p k ++ (if isCut (dbl ls) p k = true then [totl (dbl ls) k + absV (p - endAt (dbl ls) k)] else []), x < totl (dbl ls) (k + 1) ∨ _) ∧ (ptsL (dbl ls) p k ++ _).headD 1 = 0
    have nn : ptsL (dbl ls) p k ≠ [] := fun e => by rw [e] at a3; simp at a3
    have tz : k = 0 → totl (dbl ls) k = 0 := fun e => by rw [e]; rfl
    by_cases c : isCut (dbl ls) p k = true
    · rw [if_pos c]
      have c := ci.mp c
      have av : 0 < absV (p - endAt (dbl ls) k) ∧ absV (p - endAt (dbl ls) k) < gi (dbl ls) k := by
        clear a1 a2 a3 ci et tz
        unfold absV
        split at es <;> split at el <;> split at eh <;> split <;> omega
      refine ⟨List.pairwise_append.mpr ⟨a1, by simp, fun x hx y hy => ?_⟩, fun x hx => ?_, ?_⟩
      · rw [List.mem_singleton] at hy
        subst hy
        rcases a2 x hx with h | ⟨h, h2⟩
        · omega
        · have := tz h; omega
      · rcases List.mem_append.mp hx with hx | hx
        · rcases a2 x hx with h | ⟨h, h2⟩
          · left; omega
          · have := tz h; left; omega
        · rw [List.mem_singleton] at hx
          left; omega
      · cases h : ptsL (dbl ls) p k with
        | nil => exact absurd h nn
        | cons u v => rw [h] at a3; exact a3
    · rw [if_neg c, List.append_nil]
      refine ⟨a1, fun x hx => ?_, a3⟩
      rcases a2 x hx with h | ⟨h, h2⟩
      · left; omega
      · have := tz h; left; omega
theorem pc_ok {ls : List Int} (hp : ∀ v ∈ ls, 1 ≤ v) (h1 : 1 ≤ ls.length) : PcOk ls (bst ls).2 (bst ls).1 := by
  have dl : (dbl ls).length = ls.length := by unfold dbl; simp
  have pw : ((srtU (allE ls)).map (· + 1)).Pairwise (· < ·) := by
    rw [List.pairwise_map]; exact (srt_srtU (is := allE ls)).imp (fun {a b} h => by omega)
  have A := fold_max (f := cnt ls) (s := (0, 0)) pw
  rw [bst_fst hp h1] at A
  have cm : cnt ls (bst ls).2 = (bst ls).1 := by
    rcases A with ⟨x0, x⟩ | x
    · exfalso
      have hS : ∃ e r, e :: r = srtU (allE ls) := by
        have hm := mem_srtU.mpr (allE_mem.mpr ⟨0, h1, .inl rfl⟩)
        cases h : srtU (allE ls) with
        | nil => rw [h] at hm; simp at hm
        | cons e r => exact ⟨e, r, rfl⟩
      obtain ⟨e, r, hS⟩ := hS
      have h := cnt_first hp hS
      have y : cnt ls (e + 1) ≤ 0 := x (e + 1) (by rw [← hS]; simp)
      omega
    · exact x.2.2.1
  generalize (bst ls).2 = p at *
  generalize (bst ls).1 = m at *
  obtain ⟨a1, a2, a3⟩ := pts_pw (p := p) hp (Nat.le_refl _)
  have pl := pts_len2 (ls := ls) (p := p) (k := ls.length)
  rw [← cnt_cF, cm] at pl
  have q : pieL (dbl ls) p = difs (ptsL (dbl ls) p ls.length ++ [totl (dbl ls) ls.length]) := by unfold pieL; rw [dl]
  have nn : ptsL (dbl ls) p ls.length ≠ [] := fun e => by rw [e] at a3; simp at a3
  refine ⟨?_, ?_, ?_⟩
  · rw [q, difs_len, List.length_append, List.length_singleton]; omega
  · rw [q]
    refine dif_pos (List.pairwise_append.mpr ⟨a1, by simp, fun x hx y hy => ?_⟩)
    rw [List.mem_singleton] at hy
    subst hy
    rcases a2 x hx with h | ⟨h, h2⟩
    · exact h
    · omega
  · rw [q, dif_app, if_neg nn, tot_sum (by omega), List.take_of_length_le (by omega)]
    cases h : ptsL (dbl ls) p ls.length with
    | nil => exact absurd h nn
    | cons u v => rw [h] at a3; have a3 : u = 0 := a3; subst a3; exact Int.sub_zero _
theorem law_true : LawF prog 61 F.law := by
  intro ns hl hb
  refine open_law ?_; unfold d_law
  simp! only []
  refine w__law_draws hl (by omega) (by omega) fun ds => ?_
  simp! only []
  refine w__law_raw hl fun cell ds hcell => ?_
  simp! only []
  refine w__law_take (by omega) fun v ds v0 v1 => ?_
  simp! only []
  refine ⟨small_of (by omega) (by omega), ?_⟩
  refine cm_rule (fun xs ys l => ∃ ls ds : List Int, ys = ls.map .int ∧ (∀ x ∈ ls, 1 ≤ x) ∧ ((ls.length + xs.length : Nat) : Int) = 1 + v ∧ l = [Sl.fr (T.lst (ns.map .int)), Sl.ow (T.lst (ds.map .int)), Sl.fr (.int cell), .no, .no, .no, .no, .no, .no, .no, .no, .no, .no, .no, .no, .no]) ⟨[], ds, rfl, by simp, by simp [len_rng]; omega, rfl⟩ (fun x xs ys l hl2 => ?_) (fun ys l hl2 => ?_)
  · obtain ⟨ls, ds, rfl, e0, e1, rfl⟩ := hl2
    simp! []
    refine w__law_take (by omega) fun w ds w0 w1 => ?_
    simp! []
    exact ⟨ls ++ [1 + w], ds, by simp, fun x hx => by
      rcases List.mem_append.mp hx with h | h
      · exact e0 x h
      · simp at h; omega, by simp at e1 ⊢; omega, rfl⟩
  · obtain ⟨sm, ds, rfl, e0, e1, rfl⟩ := hl2
    simp at e1
    simp! only []
    refine ⟨by unfold sizeMax; omega, ?_⟩
    refine w__law_parts fun m ds m0 m1 => ?_
    simp! only []
    refine w__law_strip (by omega) (by omega) fun l2 ds s2 b1 b2 b3 b4 b5 => ?_
    simp! only []
    refine s__law_gone_through e0 (by omega) (by omega) fun a b hab => ?_
    simp! only []
    refine cut_at (fun l => l = [Sl.fr (T.lst (List.map T.int ns)), Sl.ow (T.lst (List.map T.int ds)), Sl.fr (T.int cell), Sl.fr (T.tup (List.map T.int sm)), Sl.fr (T.tup [T.tup (List.map T.int l2), T.str s2]), Sl.fr (T.tup [T.int a, T.int b]), Sl.no, Sl.no, Sl.no, Sl.no, Sl.no, Sl.no, Sl.no, Sl.no, Sl.no, Sl.no]) ?_ (fun l hl => ?_)
    · simp! [s__law_best e0 (show 1 ≤ sm.length by omega) (show sm.length ≤ 500 by omega)]
      split
      · rename_i c
        rw [← hab c]
        exact ⟨rfl, by simp [eqvs, eqv]⟩
      · trivial
    subst hl
    simp! only []
    refine ⟨small_of (by omega) (by omega), ?_⟩
    refine cm_map (as := rangeL 0 ((sm.length : Int) - 1)) (fun k => T.str [([77, 86, 70] : List Nat).getD (k % 3).toNat 0]) (fun k hk => ?_) ?_
    · have hk := mem_rng hk
      simp! []
      rcases (show k % 3 = 0 ∨ k % 3 = 1 ∨ k % 3 = 2 by omega) with h | h | h
      · rw [h]; exact ⟨by decide, by simp! []; rfl⟩
      · rw [h]; exact ⟨by decide, by simp! []; rfl⟩
      · rw [h]; exact ⟨by decide, by simp! []; rfl⟩
    have e : (rangeL 0 ((sm.length : Int) - 1)).map (fun k => T.str [([77, 86, 70] : List Nat).getD (k % 3).toNat 0]) = (((rangeL 0 ((sm.length : Int) - 1)).map fun k => ([77, 86, 70] : List Nat).getD (k % 3).toNat 0).map fun c => [c]).map T.str := by
      rw [List.map_map, List.map_map]; rfl
    rw [e]
    have lg : ((rangeL 0 ((sm.length : Int) - 1)).map fun k => ([77, 86, 70] : List Nat).getD (k % 3).toNat 0).length = sm.length - 1 := by rw [List.length_map, len_rng]; omega
    generalize ((rangeL 0 ((sm.length : Int) - 1)).map fun k => ([77, 86, 70] : List Nat).getD (k % 3).toNat 0) = sg at lg
    simp! only [join_one]
    rw [sum_one]
    refine ⟨by unfold sizeMax; omega, by unfold sizeMax; omega, ?_⟩
    have hx : ∀ x ∈ [T.tup [.tup (sm.map .int), .str sg], .tup [.tup (l2.map .int), .str s2], .tup [.tup (sm.map .int), .str sg]], IsSt x := by
      intro x hx
      simp only [List.mem_cons, List.not_mem_nil, or_false] at hx
      have i1 : IsSt (T.tup [.tup (sm.map .int), .str sg]) := ⟨sm, sg, by omega, by omega, e0, rfl⟩
      have i2 : IsSt (T.tup [.tup (l2.map .int), .str s2]) := ⟨l2, s2, by omega, by omega, fun v hv => (b4 v hv).1, rfl⟩
      rcases hx with rfl | rfl | rfl
      · exact i1
      · exact i2
      · exact i1
    refine for_all IsSt (fun l => l = _) hx rfl (fun x l hx hl => ?_) (fun l hl => ?_)
    · subst hl
      obtain ⟨ls, s, c1, c2, c3, rfl⟩ := hx
      have pk := pc_ok c3 c1
      have dl : (dbl ls).length = ls.length := by unfold dbl; simp
      have sB := fun K : Vl → List T → Prop => s_best_place (n := 57) (ls := ls) (s := .str s) c1 (by omega) (K := K)
      have sL := fun K : Vl → List T → Prop => s__law_best (n := 58) c3 c1 (show ls.length ≤ 500 by omega) (K := K)
      have sS := fun K : Vl → List T → Prop => s__law_same (n := 59) (d := 0) (K := K) (Sd.int (b := (bst ls).2))
      simp! [sL, sB, sS]
      refine cm_map (as := ls) (enc := .int) (fun v => T.int (2 * v)) (fun i hi => ?_) ?_
      · simp! []
        exact mulOk_l (by decide) (by decide)
      have e : ls.map (fun v => T.int (2 * v)) = (dbl ls).map .int := by unfold dbl; rw [List.map_map]; rfl
      have sP := fun K : Vl → List T → Prop => s_pieces (n := 56) (ls := dbl ls) (s := .str s) (p := (bst ls).2) (by omega) (K := K)
      obtain ⟨k1, k2, k3⟩ := pk
      rw [e]
      generalize pieL (dbl ls) (bst ls).2 = P at *
      simp! [sP, k1]
      refine ⟨by unfold sizeMax; omega, ?_⟩
      have sI := fun (v : Int) (K : Vl → List T → Prop) => s__law_is_integer (n := 59) (a := v) (K := K)
      refine cm_pure (as := P) (enc := .int) (fun _ => []) (fun v hv => ?_) ?_
      · have := k2 v hv
        simp! [sI]
        rw [if_neg (by omega)]
        trivial
      · have en : (P.flatMap fun _ => ([] : List T)) = [] := by simp
        rw [en]
        simp! [k3]
        exact Nat.zero_le _
    · subst hl
      simp! []

end Ir.Wk.Law

set_option maxRecDepth 100000
set_option maxHeartbeats 2000000
open PySem PySem.W PyProof.Rows
set_option maxRecDepth 100000 in
set_option maxHeartbeats 0 in
theorem PySem.Challenge.cw_creasehold_k60_best_places_for_a_stroke_holds : PySem.Challenge.rw_creasehold_k60_best_places_for_a_stroke.Holds := by
  refine Ir.Wk.Law.said_of fun said => ?_
  w_on; k_head; (case hw => w_witness2)
  k_fill
  refine Ir.walk_ir (l := PySem.Challenge.rw_creasehold_k60_best_places_for_a_stroke) (k := 60) (fl := 16) (P := Ir.Wk.Law.prog) (fns := Ir.Wk.Law.fns) (glos := Ir.Wk.Law.glos) rfl rfl ⟨rfl, by decide, by decide⟩ rfl rfl (fun w h Y => PySem.W.kIn_of Y) ?B (Ir.Wk.LawF.done Ir.Wk.Law.law_true)
  case B =>
    intro w mg h KX G
    refine' Ir.Wk.Law.mk KX G ?a0 ?l0 ?c0 ?k0 ?a1 ?l1 ?c1 ?k1 ?a2 ?l2 ?c2 ?k2 ?a3 ?l3 ?c3 ?k3 ?a4 ?l4 ?c4 ?k4 ?a5 ?l5 ?c5 ?k5 ?a6 ?l6 ?c6 ?k6 ?a7 ?l7 ?c7 ?k7 ?a8 ?l8 ?c8 ?k8 ?a9 ?l9 ?c9 ?k9 ?a10 ?l10 ?c10 ?k10 ?a11 ?l11 ?c11 ?k11 ?a12 ?l12 ?c12 ?k12 ?a13 ?l13 ?c13 ?k13 ?a14 ?l14 ?c14 ?k14 ?a15 ?l15 ?c15 ?k15 ?a16 ?l16 ?c16 ?k16 ?b0 ?b1 ?b2 ?b3 ?b4 ?b5 ?b6 ?b7 ?b8 ?b9 ?b10 ?b11 ?b12 ?b13 ?b14 ?b15
    (case a0 => k_is)
    (case l0 => k_is)
    (case c0 => k_is)
    (case k0 => k_is)
    (case a1 => k_is)
    (case l1 => k_is)
    (case c1 => k_is)
    (case k1 => k_is)
    (case a2 => k_is)
    (case l2 => k_is)
    (case c2 => k_is)
    (case k2 => k_is)
    (case a3 => k_is)
    (case l3 => k_is)
    (case c3 => k_is)
    (case k3 => k_is)
    (case a4 => k_is)
    (case l4 => k_is)
    (case c4 => k_is)
    (case k4 => k_is)
    (case a5 => k_is)
    (case l5 => k_is)
    (case c5 => k_is)
    (case k5 => k_is)
    (case a6 => k_is)
    (case l6 => k_is)
    (case c6 => k_is)
    (case k6 => k_is)
    (case a7 => k_is)
    (case l7 => k_is)
    (case c7 => k_is)
    (case k7 => k_is)
    (case a8 => k_is)
    (case l8 => k_is)
    (case c8 => k_is)
    (case k8 => k_is)
    (case a9 => k_is)
    (case l9 => k_is)
    (case c9 => k_is)
    (case k9 => k_is)
    (case a10 => k_is)
    (case l10 => k_is)
    (case c10 => k_is)
    (case k10 => k_is)
    (case a11 => k_is)
    (case l11 => k_is)
    (case c11 => k_is)
    (case k11 => k_is)
    (case a12 => k_is)
    (case l12 => k_is)
    (case c12 => k_is)
    (case k12 => k_is)
    (case a13 => k_is)
    (case l13 => k_is)
    (case c13 => k_is)
    (case k13 => k_is)
    (case a14 => k_is)
    (case l14 => k_is)
    (case c14 => k_is)
    (case k14 => k_is)
    (case a15 => k_is)
    (case l15 => k_is)
    (case c15 => k_is)
    (case k15 => k_is)
    (case a16 => k_is)
    (case l16 => k_is)
    (case c16 => k_is)
    (case k16 => k_is)
    (case b0 => k_is)
    (case b1 => k_is)
    (case b2 => k_is)
    (case b3 => k_is)
    (case b4 => k_is)
    (case b5 => k_is)
    (case b6 => k_is)
    (case b7 => k_is)
    (case b8 => k_is)
    (case b9 => k_is)
    (case b10 => k_is)
    (case b11 => k_is)
    (case b12 => k_is)
    (case b13 => k_is)
    (case b14 => k_is)
    (case b15 => k_is)

