import PyProof.Rows.All
import HandS.List
import HandS.ForMost
import HandS.ForExc
import HandS.TryMany
import HandS.ExcInit
import HandS.ExcIs
import HandS.ExcField
import HandS.Wide
import HandS.TupAny
import HandS.TupLe
import HandS.Flow
import HandS.SortRule
import HandS.SortInts
import HandS.IsInst
import HandS.Conv
import HandS.Zip
import HandS.Head2
import HandS.HeadEnd
import HandS.HeadHook2
import HandS.TupMul
import KE.KTupSum
import KE.DatumOrd
import KE.GoesEnum
import KE.KExcIs
import PySem.Challenge.RW_lastisdone_k63_chains_times_a_factor
import Lean
set_option Elab.async false
set_option linter.all false
namespace Pv
open PySem

/-! ## Data, slots, results -/
inductive D where
  | non | bl (b : Bool) | int (i : Int) | str (s : Str) | tup (xs : List D) | lst (xs : List D)
  deriving Inhabited

mutual
def D.py : D → PyData
  | .non => .none
  | .bl b => .bool b
  | .int i => .int i
  | .str s => .str s
  | .tup xs => .tuple (D.pys xs)
  | .lst xs => .list (D.pys xs)
def D.pys : List D → List PyData
  | [] => []
  | x :: xs => D.py x :: D.pys xs
end
mutual
/-- how deep -/
def D.dep : D → Nat
  | .tup xs => D.deps xs + 1
  | .lst xs => D.deps xs + 1
  | _ => 0
def D.deps : List D → Nat
  | [] => 0
  | x :: xs => max (D.dep x) (D.deps xs)
end
mutual
/-- Python's ==, on data -/
def D.eqv : D → D → Bool
  | .non, .non => true
  | .bl a, .bl b => a == b
  | .bl a, .int j => (if a then 1 else 0) == j
  | .int i, .bl b => i == (if b then 1 else 0)
  | .int i, .int j => i == j
  | .str x, .str y => x == y
  | .lst xs, .lst ys => D.eqvs xs ys
  | .tup xs, .tup ys => D.eqvs xs ys
  | _, _ => false
def D.eqvs : List D → List D → Bool
  | [], [] => true
  | x :: xs, y :: ys => D.eqv x y && D.eqvs xs ys
  | _, _ => false
end

inductive Sl where
  | val (d : D) | own (ds : List D) | lck (ds : List D) | exc (c : Nat) (d : D)
  deriving Inhabited
abbrev Es := List (Option Sl)
inductive R (α : Type) where
  | ok (a : α) (e : Es) | exc (c : Nat) (d : D) (e : Es) | bad
def R.bind {α β : Type} (r : R α) (k : α → Es → R β) : R β := match r with
  | .ok a e => k a e
  | .exc c d e => .exc c d e
  | .bad => .bad
/-- no exception may leave -/
def R.nox {α : Type} (r : R α) : R α := match r with
  | .ok a e => .ok a e
  | _ => .bad
def Sl.fz : Sl → Option D
  | .val d => some d
  | .own ds => some (.lst ds)
  | _ => none
def R.fz (r : R Sl) : R D := r.bind fun s e => match s with
  | .val d => .ok d e
  | .own ds => .ok (.lst ds) e
  | _ => .bad
/-- an operand: data, a slot's list as it stands, a new list -/
inductive Bv where
  | val (d : D) | slot (i : Nat) | tmp (ds : List D)
def look (e : Es) : Bv → Option D
  | .val d => some d
  | .slot i => (match e[i]? with
    | some (some (.own ds)) => some (.lst ds)
    | some (some (.lck ds)) => some (.lst ds)
    | _ => none)
  | .tmp ds => some (.lst ds)
def looks (e : Es) : List Bv → Option (List D)
  | [] => some []
  | b :: bs => match look e b with
    | some d => (match looks e bs with
      | some ds => some (d :: ds)
      | none => none)
    | none => none

/-! ## The text -/
inductive Bop where
  | add | sub | mul | fdiv | mod | pow | shr
  deriving DecidableEq, Inhabited
inductive Cop where
  | lt | le | gt | ge | eq | ne | isin | notin
  deriving DecidableEq, Inhabited
inductive Bi where
  | len | abs | int | list | tuple | sum | max | min | sorted | all | any | gcd | str | set | rlist
  deriving DecidableEq, Inhabited
inductive Ty where
  | int | bool | str | list | tuple
  deriving DecidableEq, Inhabited
inductive Tg where
  | one (i : Nat) | tup (is : List Nat)
  deriving DecidableEq, Inhabited
inductive Ex where
  | var (i : Nat)
  | int (i : Int) | bl (b : Bool) | non | str (s : Str)
  | gl (x : Str) (d : D)
  | bin (o : Bop) (a b : Ex)
  | neg (a : Ex)
  | not (a : Ex) | and (a b : Ex) | or (a b : Ex)
  | cmp (o : Cop) (a b : Ex)
  | cmp2 (o o' : Cop) (a b c : Ex)
  | cmp3 (o o' o'' : Cop) (a b c d : Ex)
  | isC (neg : Bool) (c : Option Bool) (a : Ex)
  | ite (c a b : Ex)
  | nil | cons (a r : Ex)
  | tup (es : Ex) | lst (es : Ex)
  | ix (a b : Ex)
  | sl (a lo hi : Ex) | no
  | call (f : Nat) (es : Ex)
  | bi (b : Bi) (es : Ex)
  | isi (a : Ex) (ts : List Ty)
  | comp (tg : Tg) (it c elt : Ex)
  | comp2 (tg : Tg) (it c : Ex) (tg' : Tg) (it' c' elt : Ex)
  | yes | tst (a : Ex) | opt (a : Ex) | itv (a : Ex)
  | pop (i : Nat) | pop0 (i : Nat) (a : Ex)
  | fld (i : Nat) | isx (i c : Nat)
  | range1 (a : Ex) | range2 (a b : Ex) | range3 (a b c : Ex)
  | enum (a : Ex) | zip (a b : Ex)
  deriving Inhabited
inductive Sta where
  | nop
  | seq (a b : Sta)
  | asg (tg : Tg) (e : Ex)
  | par (is : List Nat) (es : Ex)
  | setIx (i : Nat) (ix e : Ex)
  | aug (i : Nat) (o : Bop) (e : Ex)
  | expr (e : Ex)
  | append (i : Nat) (e : Ex)
  | reverse (i : Nat)
  | ite (c : Ex) (a b : Sta)
  | for_ (tg : Tg) (it : Ex) (b : Sta)
  | while_ (c : Ex) (b : Sta)
  | ret (e : Ex) | ret0
  | raise (c : Nat) (e : Ex)
  | brk | cont
  | try_ (b h : Sta)
  | hnil | hcons (c : Nat) (n : Option Nat) (b r : Sta)
  deriving Inhabited

/-! ## Operators -/
def sizeMax : Nat := 16777216
def mulOk (i j : Int) : Bool := decide (-(2 ^ 64) < i ∧ i < 2 ^ 64) || decide (-(2 ^ 64) < j ∧ j < 2 ^ 64) || decide (i.natAbs.log2 + j.natAbs.log2 < 1000000)
def divOk (j : Int) : Bool := decide (0 < j) && decide (j.natAbs.log2 < 9000)
def powOk (i j : Int) : Bool := decide (0 ≤ j) && decide (j ≤ 1000) && decide (i.natAbs < 2 ^ 64)
def binD : Bop → D → D → Option Sl
  | .add, .int i, .int j => some (.val (.int (i + j)))
  | .add, .tup xs, .tup ys => if xs.length + ys.length ≤ sizeMax then some (.val (.tup (xs ++ ys))) else none
  | .add, .lst xs, .lst ys => if xs.length + ys.length ≤ sizeMax then some (.own (xs ++ ys)) else none
  | .add, .str x, .str y => if x.length + y.length ≤ sizeMax then some (.val (.str (x ++ y))) else none
  | .sub, .int i, .int j => some (.val (.int (i - j)))
  | .mul, .int i, .int j => if mulOk i j then some (.val (.int (i * j))) else none
  | .fdiv, .int i, .int j => if divOk j then some (.val (.int (i / j))) else none
  | .mod, .int i, .int j => if 0 < j then some (.val (.int (i % j))) else none
  | .pow, .int i, .int j => if powOk i j then some (.val (.int (i ^ j.toNat))) else none
  | .shr, .int i, .int j => if 0 ≤ j then some (.val (.int (i / 2 ^ j.toNat))) else none
  | _, _, _ => none
/-- scalars, which == compares at once -/
def D.flat : D → Bool
  | .tup _ => false
  | .lst _ => false
  | _ => true
def okD (d : D) : Bool := SeqAt.shaped d.py
def eqD : D → D → Option Bool
  | .int i, .int j => some (i == j)
  | .bl i, .bl j => some (i == j)
  | .str i, .str j => some (i == j)
  | a, b => if okD a && okD b then some (D.eqv a b) else none
def inD (x : D) (xs : List D) : Option Bool := if x.flat && xs.all D.flat then some (xs.any fun y => D.eqv y x) else none
def cmpD : Cop → D → D → Option Bool
  | .lt, .int i, .int j => some (decide (i < j))
  | .le, .int i, .int j => some (decide (i ≤ j))
  | .gt, .int i, .int j => some (decide (j < i))
  | .ge, .int i, .int j => some (decide (j ≤ i))
  | .eq, a, b => eqD a b
  | .ne, a, b => (eqD a b).map (!·)
  | .isin, a, .lst xs => inD a xs
  | .isin, a, .tup xs => inD a xs
  | .notin, a, .lst xs => (inD a xs).map (!·)
  | .notin, a, .tup xs => (inD a xs).map (!·)
  | _, _, _ => none
def isD : Option Bool → D → Bool
  | none, .non => true
  | some b, .bl c => b == c
  | _, _ => false
def truthD : D → Option Bool
  | .non => some false
  | .bl b => some b
  | .int i => some (i != 0)
  | .str s => if s.length ≤ sizeMax then some ((s.length : Int) != 0) else none
  | .tup xs => some (!xs.isEmpty)
  | .lst xs => some (!xs.isEmpty)
def hasTy : D → Ty → Bool
  | .bl _, .bool => true
  | .bl _, .int => true
  | .int _, .int => true
  | .str _, .str => true
  | .tup _, .tuple => true
  | .lst _, .list => true
  | _, _ => false
/-- the item at a place, from behind below 0 -/
def atD (xs : List D) (i : Int) : Option D := if 0 ≤ i then xs[i.toNat]? else if -(xs.length : Int) ≤ i then xs[(i + xs.length).toNat]? else none
def ixD : D → D → Option D
  | .lst xs, .int i => atD xs i
  | .tup xs, .int i => atD xs i
  | _, _ => none
/-- a slice's end, brought into the row -/
def endIx (n : Nat) (dflt : Nat) : Option Int → Nat
  | none => dflt
  | some i => if i < 0 then (i + n).toNat else min i.toNat n
def cutD (xs : List D) (lo hi : Option Int) : List D :=
  (xs.drop (endIx xs.length 0 lo)).take (endIx xs.length xs.length hi - endIx xs.length 0 lo)
def slD : D → Option Int → Option Int → Option Sl
  | .lst xs, lo, hi => some (.own (cutD xs lo hi))
  | .tup xs, lo, hi => some (.val (.tup (cutD xs lo hi)))
  | _, _, _ => none
def D.int? : D → Option Int
  | .int i => some i
  | _ => none
def intL : List D → Option (List Int)
  | [] => some []
  | .int i :: r => (intL r).map (i :: ·)
  | _ => none
def pairL : List D → Option (List (Int × Int))
  | [] => some []
  | .tup [.int i, .int j] :: r => (pairL r).map ((i, j) :: ·)
  | _ => none
def boolL : List D → Option (List Bool)
  | [] => some []
  | .bl i :: r => (boolL r).map (i :: ·)
  | _ => none
def maxL : List Int → Option Int
  | [] => none
  | x :: r => some (r.foldl max x)
def minL : List Int → Option Int
  | [] => none
  | x :: r => some (r.foldl min x)
def insI (x : Int) : List Int → List Int
  | [] => [x]
  | y :: r => if x ≤ y then x :: y :: r else y :: insI x r
def sortI (xs : List Int) : List Int := xs.foldr insI []
def leP (p q : Int × Int) : Bool := decide (p.1 < q.1) || (decide (p.1 = q.1) && decide (p.2 ≤ q.2))
def insP (x : Int × Int) : List (Int × Int) → List (Int × Int)
  | [] => [x]
  | y :: r => if leP x y then x :: y :: r else y :: insP x r
def sortP (xs : List (Int × Int)) : List (Int × Int) := xs.foldr insP []
def pairD (p : Int × Int) : D := .tup [.int p.1, .int p.2]
def sortD (xs : List D) : Option Sl := match intL xs with
  | some ns => some (.own ((sortI ns).map D.int))
  | none => (match pairL xs with
    | some ps => some (.own ((sortP ps).map pairD))
    | none => none)
def rangeL (lo hi : Int) : List D := (List.range (hi - lo).toNat).map fun k => D.int (lo + (k : Nat))
def seqD : D → Option (List D)
  | .lst xs => some xs
  | .tup xs => some xs
  | _ => none
def b1 (f : D → Option Sl) : List D → Option Sl
  | [d] => f d
  | _ => none
def lenD (d : D) : Option Sl := (seqD d).map fun xs => .val (.int xs.length)
def absD : D → Option Sl
  | .int i => some (.val (.int (if i < 0 then -i else i)))
  | _ => none
def intD : D → Option Sl
  | .int i => some (.val (.int i))
  | .bl b => some (.val (.int (if b then 1 else 0)))
  | _ => none
def listD (d : D) : Option Sl := (seqD d).map .own
def tupleD (d : D) : Option Sl := (seqD d).map fun xs => .val (.tup xs)
def sumD (d : D) : Option Sl := ((seqD d).bind intL).map fun ns => .val (.int ns.sum)
def maxD1 (d : D) : Option Sl := (((seqD d).bind intL).bind maxL).map fun m => .val (.int m)
def minD1 (d : D) : Option Sl := (((seqD d).bind intL).bind minL).map fun m => .val (.int m)
def maxD : List D → Option Sl
  | [.int i, .int j] => some (.val (.int (if j > i then j else i)))
  | ds => b1 maxD1 ds
def minD : List D → Option Sl
  | [.int i, .int j] => some (.val (.int (if j < i then j else i)))
  | ds => b1 minD1 ds
def sortedD (d : D) : Option Sl := (seqD d).bind sortD
def allD : D → Option Sl
  | .lst xs => (boolL xs).map fun bs => .val (.bl (bs.all id))
  | _ => none
def anyD : D → Option Sl
  | .lst xs => (boolL xs).map fun bs => .val (.bl (bs.any id))
  | _ => none
def rlistD : List D → Option Sl
  | [.int lo, .int hi] => if hi - lo ≤ 1000000 then some (.own (rangeL lo hi)) else none
  | _ => none
def biD : Bi → List D → Option Sl
  | .len => b1 lenD
  | .abs => b1 absD
  | .int => b1 intD
  | .list => b1 listD
  | .tuple => b1 tupleD
  | .sum => b1 sumD
  | .max => maxD
  | .min => minD
  | .sorted => b1 sortedD
  | .all => b1 allD
  | .any => b1 anyD
  | .rlist => rlistD
  | _ => fun _ => none

def zipL (xs ys : List D) : List D := (xs.zip ys).map fun p => .tup [p.1, p.2]
def enumL (xs : List D) : List D := xs.zipIdx.map fun p => .tup [.int (p.2 : Nat), p.1]
/-! ## The evaluator -/
inductive Flow where
  | next | brk | cont | ret (s : Sl)
  deriving Inhabited
def retD {α β : Type} (o : Option α) (f : α → β) (e : Es) : R β := match o with
  | some a => .ok (f a) e
  | none => .bad
/-- what is done with a name's slot where the list is only read -/
def bor (a : Ex) (e : Es) (r : R Sl) : R Bv :=
  let k := r.bind fun s e => match s with
    | .val d => .ok (.val d) e
    | .own ds => .ok (.tmp ds) e
    | _ => .bad
  match a with
  | .var i => (match e[i]? with
    | some (some (.own _)) => .ok (.slot i) e
    | some (some (.lck _)) => .ok (.slot i) e
    | _ => k)
  | _ => k
def getS (e : Es) (i : Nat) : Option Sl := match e[i]? with
  | some s => s
  | none => none
def putS (e : Es) (i : Nat) (s : Sl) : Option Es := match e[i]? with
  | some (some (.lck _)) => none
  | some _ => some (e.set i (some s))
  | none => none
def putAll : List Nat → List D → Es → Option Es
  | [], [], e => some e
  | i :: is, d :: ds, e => (match putS e i (.val d) with
    | some e1 => putAll is ds e1
    | none => none)
  | _, _, _ => none
/-- several names, from the left; a new list stays its name's own -/
def parS : List Nat → List Bv → Es → Option Es
  | [], [], e => some e
  | i :: is, .val d :: bs, e => (match putS e i (.val d) with
    | some e1 => parS is bs e1
    | none => none)
  | i :: is, .tmp ds :: bs, e => (match putS e i (.own ds) with
    | some e1 => parS is bs e1
    | none => none)
  | _, _, _ => none
def putT : Tg → Sl → Es → Option Es
  | .one i, .val d, e => putS e i (.val d)
  | .one i, .own ds, e => putS e i (.own ds)
  | .tup is, .val (.tup ds), e => putAll is ds e
  | _, _, _ => none
def Tg.ns : Tg → List Nat
  | .one i => [i]
  | .tup is => is
def wipeE (e : Es) : List Nat → Es
  | [] => e
  | i :: is => (wipeE e is).set i none
/-- the slots at is as they were in e -/
def backE (e e' : Es) : List Nat → Es
  | [] => e'
  | i :: is => (backE e e' is).set i (getS e i)
/-- arguments: a slot's list is lent -/
def argS (e : Es) : Bv → Option Sl
  | .val d => some (.val d)
  | .tmp ds => some (.own ds)
  | .slot i => (match e[i]? with
    | some (some (.own ds)) => some (.own ds)
    | some (some (.lck ds)) => some (.lck ds)
    | _ => none)
def argSs (e : Es) : List Bv → Option (List Sl)
  | [] => some []
  | b :: bs => match argS e b with
    | some d => (match argSs e bs with
      | some ds => some (d :: ds)
      | none => none)
    | none => none
def lent : List Bv → List Nat
  | [] => []
  | .slot i :: r => i :: lent r
  | _ :: r => lent r
/-- the slots lent come back from the callee's places -/
def giveBack (ce : Es) : Nat → List Bv → Es → Option Es
  | _, [], e => some e
  | p, .slot i :: r, e => (match getS ce p with
    | some s => giveBack ce (p + 1) r (e.set i (some s))
    | none => none)
  | p, .val _ :: r, e => giveBack ce (p + 1) r e
  | p, .tmp _ :: r, e => giveBack ce (p + 1) r e
/-- a list that goes to a place which the callee stores is let go ahead of the call -/
def prep (prot : Nat → Bool) : Nat → List Bv → Es → Option (List Bv × Es)
  | _, [], e => some ([], e)
  | p, .slot i :: r, e => if prot p then (match prep prot (p + 1) r e with
      | some (r', e') => some (.slot i :: r', e')
      | none => none)
    else (match e[i]? with
      | some (some (.own ds)) => (match prep prot (p + 1) r (e.set i (some (.val (.lst ds)))) with
        | some (r', e') => some (.val (.lst ds) :: r', e')
        | none => none)
      | _ => none)
  | p, .val d :: r, e => (match prep prot (p + 1) r e with
      | some (r', e') => some (.val d :: r', e')
      | none => none)
  | p, .tmp ds :: r, e => (match prep prot (p + 1) r e with
      | some (r', e') => some (.tmp ds :: r', e')
      | none => none)
def callN (g : List Sl → R Sl) (bs : List Bv) (e : Es) : R Sl := match argSs e bs with
  | some ss => (match g ss with
    | .ok s ce => (match giveBack ce 0 bs e with
      | some e' => .ok s e'
      | none => .bad)
    | .exc c d ce => (match giveBack ce 0 bs e with
      | some e' => .exc c d e'
      | none => .bad)
    | .bad => .bad)
  | none => .bad
def callR (prot : Nat → Bool) (g : List Sl → R Sl) (bs : List Bv) (e : Es) : R Sl := match prep prot 0 bs e with
  | some (bs', e1) => if (lent bs').Nodup then callN g bs' e1 else .bad
  | none => .bad
/-- the turns of a comprehension; its names are wiped behind each -/
def compGo (asg : D → Es → Option Es) (wp : Es → Es) (cond : Es → R Bool) (elt : Es → R D) : List D → Es → List D → R (List D)
  | [], e, acc => .ok acc e
  | x :: xs, e, acc => match asg x e with
    | none => .bad
    | some e1 => (match cond e1 with
      | .ok true e2 => (match elt e2 with
        | .ok d e3 => if acc.length < sizeMax then compGo asg wp cond elt xs (wp e3) (acc ++ [d]) else .bad
        | _ => .bad)
      | .ok false e2 => compGo asg wp cond elt xs (wp e2) acc
      | _ => .bad)
/-- .. of one with a second clause -/
def compGo2 (asg : D → Es → Option Es) (wp : Es → Es) (cond : Es → R Bool) (inner : Es → List D → R (List D)) : List D → Es → List D → R (List D)
  | [], e, acc => .ok acc e
  | x :: xs, e, acc => match asg x e with
    | none => .bad
    | some e1 => (match cond e1 with
      | .ok true e2 => (match inner e2 acc with
        | .ok acc' e3 => compGo2 asg wp cond inner xs (wp e3) acc'
        | _ => .bad)
      | .ok false e2 => compGo2 asg wp cond inner xs (wp e2) acc
      | _ => .bad)
/-- a list that is walked is locked meanwhile -/
def lockE (a : Ex) (e : Es) : Es := match a with
  | .itv (.var i) => (match e[i]? with
    | some (some (.own ds)) => e.set i (some (.lck ds))
    | _ => e)
  | _ => e
def unlockE (a : Ex) (e0 e : Es) : Es := match a with
  | .itv (.var i) => (match e0[i]? with
    | some (some (.own ds)) => (match e[i]? with
      | some (some (.lck ds)) => e.set i (some (.own ds))
      | _ => e)
    | _ => e)
  | _ => e
def intB (e : Es) (b : Bv) : Option Int := (look e b).bind D.int?
section
variable (prot : Nat → Nat → Bool) (cal : Nat → List Sl → R Sl) (sub : Nat → Nat → Bool)
mutual
def evE : Ex → Es → R Sl
  | .var i, e => (match e[i]? with
    | some (some (.val d)) => .ok (.val d) e
    | some (some (.own ds)) => .ok (.val (.lst ds)) (e.set i (some (.val (.lst ds))))
    | _ => .bad)
  | .int i, e => .ok (.val (.int i)) e
  | .bl b, e => .ok (.val (.bl b)) e
  | .non, e => .ok (.val .non) e
  | .str s, e => .ok (.val (.str s)) e
  | .gl _ d, e => .ok (.val d) e
  | .bin o a b, e => (bor a e (evE a e)).bind fun x e1 => (bor b e1 (evE b e1)).bind fun y e2 => match look e2 x, look e2 y with
    | some d, some d' => retD (binD o d d') id e2
    | _, _ => .bad
  | .neg a, e => (evE a e).bind fun s e1 => match s with
    | .val (.int i) => .ok (.val (.int (-i))) e1
    | _ => .bad
  | .not a, e => (evT a e).bind fun b e1 => .ok (.val (.bl (!b))) e1
  | .and a b, e => (evE a e).bind fun s e1 => match s with
    | .val (.bl true) => evE b e1
    | .val (.bl false) => .ok (.val (.bl false)) e1
    | _ => .bad
  | .or a b, e => (evE a e).bind fun s e1 => match s with
    | .val (.bl true) => .ok (.val (.bl true)) e1
    | .val (.bl false) => evE b e1
    | _ => .bad
  | .cmp o a b, e => (bor a e (evE a e)).bind fun x e1 => (bor b e1 (evE b e1)).bind fun y e2 => match look e2 x, look e2 y with
    | some d, some d' => retD (cmpD o d d') (fun b => .val (.bl b)) e2
    | _, _ => .bad
  | .cmp2 o o' a b c, e => (evE a e).bind fun x e1 => (evE b e1).bind fun y e2 => match x, y with
    | .val d, .val d' => (match cmpD o d d' with
      | some true => (evE c e2).bind fun z e3 => (match z with
        | .val d'' => retD (cmpD o' d' d'') (fun b => .val (.bl b)) e3
        | _ => .bad)
      | some false => .ok (.val (.bl false)) e2
      | none => .bad)
    | _, _ => .bad
  | .cmp3 .., _ => .bad
  | .isC n c a, e => (bor a e (evE a e)).bind fun x e1 => retD (look e1 x) (fun d => .val (.bl (isD c d != n))) e1
  | .ite c a b, e => (evT c e).bind fun t e1 => if t then evE a e1 else evE b e1
  | .tup es, e => (evV es e).bind fun ds e1 => if ds.length ≤ sizeMax then .ok (.val (.tup ds)) e1 else .bad
  | .lst es, e => (evV es e).bind fun ds e1 => if ds.length ≤ sizeMax then .ok (.own ds) e1 else .bad
  | .ix a b, e => (bor a e (evE a e)).bind fun x e1 => (evE b e1).bind fun y e2 => match look e2 x, y with
    | some d, .val i => retD (ixD d i) .val e2
    | _, _ => .bad
  | .sl a lo hi, e => (bor a e (evE a e)).bind fun x e1 => (evO lo e1).bind fun l e2 => (evO hi e2).bind fun h e3 => match look e3 x with
    | some d => retD (slD d l h) id e3
    | none => .bad
  | .call f es, e => (evA es e).bind fun bs e1 => callR (prot f) (cal f) bs e1
  | .bi b es, e => (evA es e).bind fun bs e1 => match looks e1 bs with
    | some ds => retD (biD b ds) id e1
    | none => .bad
  | .isi a ts, e => (bor a e (evE a e)).bind fun x e1 => retD (look e1 x) (fun d => .val (.bl (ts.any (hasTy d)))) e1
  | .comp tg it c elt, e => (evI it e).bind fun xs e1 =>
    match compGo (fun x e => putT tg (.val x) e) (fun e => wipeE e tg.ns) (evT c) (fun e => (evE elt e).fz) xs (wipeE (lockE it e1) tg.ns) [] with
    | .ok ds e2 => .ok (.own ds) (unlockE it e1 (backE (lockE it e1) e2 tg.ns))
    | _ => .bad
  | .comp2 tg it c tg' it' c' elt, e => (evI it e).bind fun xs e1 =>
    match compGo2 (fun x e => putT tg (.val x) e) (fun e => wipeE e (tg.ns ++ tg'.ns)) (evT c) (fun e2 acc => (evI it' e2).bind fun ys e3 =>
        match compGo (fun x e => putT tg' (.val x) e) (fun e => wipeE e tg'.ns) (evT c') (fun e => (evE elt e).fz) ys (lockE it' e3) acc with
        | .ok ds e4 => .ok ds (unlockE it' e3 e4)
        | _ => .bad)
      xs (wipeE (lockE it e1) (tg.ns ++ tg'.ns)) [] with
    | .ok ds e2 => .ok (.own ds) (unlockE it e1 (backE (lockE it e1) e2 (tg.ns ++ tg'.ns)))
    | _ => .bad
  | .pop i, e => (match e[i]? with
    | some (some (.own ds)) => (match ds.getLast? with
      | some d => .ok (.val d) (e.set i (some (.own ds.dropLast)))
      | none => .bad)
    | _ => .bad)
  | .pop0 i a, e => (match e[i]? with
    | some (some (.own _)) => (evE a e).bind fun y e1 => (match e1[i]?, y with
      | some (some (.own (d :: ds))), .val (.int 0) => .ok (.val d) (e1.set i (some (.own ds)))
      | _, _ => .bad)
    | _ => .bad)
  | .fld i, e => (match e[i]? with
    | some (some (.exc _ d)) => .ok (.val d) e
    | _ => .bad)
  | .isx i c, e => (match e[i]? with
    | some (some (.exc c' _)) => .ok (.val (.bl (sub c' c))) e
    | _ => .bad)
  | _, _ => .bad
def evT : Ex → Es → R Bool
  | .yes, e => .ok true e
  | .and a b, e => (evT a e).bind fun t e1 => if t then evT b e1 else .ok false e1
  | .or a b, e => (evT a e).bind fun t e1 => if t then .ok true e1 else evT b e1
  | .not a, e => (evT a e).bind fun t e1 => .ok (!t) e1
  | .tst a, e => (bor a e (evE a e)).bind fun x e1 => retD ((look e1 x).bind truthD) id e1
  | _, _ => .bad
def evV : Ex → Es → R (List D)
  | .nil, e => .ok [] e
  | .cons a r, e => (evE a e).fz.bind fun d e1 => (evV r e1).bind fun ds e2 => .ok (d :: ds) e2
  | _, _ => .bad
def evA : Ex → Es → R (List Bv)
  | .nil, e => .ok [] e
  | .cons a r, e => (bor a e (evE a e)).bind fun d e1 => (evA r e1).bind fun ds e2 => .ok (d :: ds) e2
  | _, _ => .bad
def evO : Ex → Es → R (Option Int)
  | .no, e => .ok none e
  | .opt a, e => (evE a e).bind fun s e1 => match s with
    | .val (.int i) => .ok (some i) e1
    | _ => .bad
  | _, _ => .bad
def evI : Ex → Es → R (List D)
  | .range1 a, e => (evE a e).bind fun s e1 => match s with
    | .val (.int n) => if -(2 ^ 62) ≤ n ∧ n < 2 ^ 62 then .ok (rangeL 0 n) e1 else .bad
    | _ => .bad
  | .range2 a b, e => (evE a e).bind fun s e1 => (evE b e1).bind fun t e2 => match s, t with
    | .val (.int i), .val (.int j) => if (-(2 ^ 62) ≤ i ∧ i < 2 ^ 62) ∧ -(2 ^ 62) ≤ j ∧ j < 2 ^ 62 then .ok (rangeL i j) e2 else .bad
    | _, _ => .bad
  | .enum a, e => (evE a e).fz.bind fun s e1 => (match s with
    | .lst xs => .ok (enumL xs) e1
    | .tup xs => .ok (enumL xs) e1
    | _ => .bad)
  | .zip a b, e => (evE a e).fz.bind fun s e1 => (evE b e1).fz.bind fun t e2 => (match s, t with
    | .lst xs, .lst ys => .ok (zipL xs ys) e2
    | .tup xs, .tup ys => .ok (zipL xs ys) e2
    | _, _ => .bad)
  | .itv a, e => (bor a e (evE a e)).bind fun x e1 => match look e1 x with
    | some d => retD (seqD d) id e1
    | none => .bad
  | _, _ => .bad
end
end
/-! ## Statements -/
def forGo (asg : D → Es → Option Es) (body : Es → R Flow) : List D → Es → R Flow
  | [], e => .ok .next e
  | x :: xs, e => match asg x e with
    | none => .bad
    | some e1 => (match body e1 with
      | .ok .next e2 => forGo asg body xs e2
      | .ok .cont e2 => forGo asg body xs e2
      | .ok .brk e2 => .ok .next e2
      | .ok (.ret s) e2 => .ok (.ret s) e2
      | .exc c d e2 => .exc c d e2
      | .bad => .bad)
def whileGo (cond : Es → R Bool) (body : Es → R Flow) : Nat → Es → R Flow
  | 0, _ => .bad
  | n + 1, e => match cond e with
    | .ok false e1 => .ok .next e1
    | .ok true e1 => (match body e1 with
      | .ok .next e2 => whileGo cond body n e2
      | .ok .cont e2 => whileGo cond body n e2
      | .ok .brk e2 => .ok .next e2
      | .ok (.ret s) e2 => .ok (.ret s) e2
      | .exc c d e2 => .exc c d e2
      | .bad => .bad)
    | .exc c d e2 => .exc c d e2
    | .bad => .bad
def R.mapE {α : Type} (g : Es → Es) : R α → R α
  | .ok a e => .ok a (g e)
  | .exc c d e => .exc c d (g e)
  | .bad => .bad
/-- what is handed back: a local name's list goes with it -/
def retS (np : Nat) (a : Ex) (e : Es) (r : R Sl) : R Flow := match a with
  | .var i => if np ≤ i then (match e[i]? with
      | some (some (.own ds)) => .ok (.ret (.own ds)) (e.set i none)
      | _ => r.bind fun s e => .ok (.ret s) e)
    else r.bind fun s e => .ok (.ret s) e
  | _ => r.bind fun s e => .ok (.ret s) e
/-- no name holds an exception -/
def noX (e : Es) : Bool := e.all fun s => match s with
  | some (.exc _ _) => false
  | _ => true
/-- the end of a clause whose name is at i -/
def leaveX {α : Type} (i : Nat) : R α → R α
  | .ok f e => (match e[i]? with
    | some (some (.lck _)) => .bad
    | _ => if noX (e.set i none) then .ok f (e.set i none) else .bad)
  | _ => .bad
section
variable (prot : Nat → Nat → Bool) (cal : Nat → List Sl → R Sl) (mk : Nat → D → Option D) (sub : Nat → Nat → Bool) (np fuel : Nat)
mutual
def exec : Sta → Es → R Flow
  | .nop, e => .ok .next e
  | .seq a b, e => (exec a e).bind fun f e1 => match f with
    | .next => exec b e1
    | f => .ok f e1
  | .asg tg a, e => (evE prot cal sub a e).bind fun s e1 => (match putT tg s e1 with
    | some e2 => .ok .next e2
    | none => .bad)
  | .par is es, e => (evA prot cal sub es e).bind fun bs e1 => (match parS is bs e1 with
    | some e2 => .ok .next e2
    | none => .bad)
  | .setIx i a b, e => (evE prot cal sub b e).fz.bind fun d e1 => (match e1[i]? with
    | some (some (.own _)) => (evE prot cal sub a e1).bind fun s e2 => (match e2[i]?, s with
      | some (some (.own ds)), .val (.int k) => (if 0 ≤ k then (if k.toNat < ds.length then .ok .next (e2.set i (some (.own (ds.set k.toNat d)))) else .bad)
        else if -(ds.length : Int) ≤ k then .ok .next (e2.set i (some (.own (ds.set (k + ds.length).toNat d)))) else .bad)
      | _, _ => .bad)
    | _ => .bad)
  | .aug i o a, e => (match e[i]? with
    | some (some (.val (.int x))) => (evE prot cal sub a e).bind fun s e1 => (match s with
      | .val (.int y) => (match binD o (.int x) (.int y) with
        | some z => (match putT (.one i) z e1 with
          | some e2 => .ok .next e2
          | none => .bad)
        | none => .bad)
      | _ => .bad)
    | _ => .bad)
  | .expr a, e => (evE prot cal sub a e).bind fun _ e1 => .ok .next e1
  | .append i a, e => (match e[i]? with
    | some (some (.own _)) => (evE prot cal sub a e).fz.bind fun d e1 => (match e1[i]? with
      | some (some (.own ds)) => if ds.length < sizeMax then .ok .next (e1.set i (some (.own (ds ++ [d])))) else .bad
      | _ => .bad)
    | _ => .bad)
  | .reverse i, e => (match e[i]? with
    | some (some (.own ds)) => .ok .next (e.set i (some (.own ds.reverse)))
    | _ => .bad)
  | .ite c a b, e => (evT prot cal sub c e).bind fun t e1 => if t then exec a e1 else exec b e1
  | .for_ tg it b, e => (evI prot cal sub it e).bind fun xs e1 => (forGo (fun x e => putT tg (.val x) e) (fun e => exec b e) xs (lockE it e1)).mapE (unlockE it e1)
  | .while_ c b, e => whileGo (fun e => evT prot cal sub c e) (fun e => exec b e) fuel e
  | .ret a, e => retS np a e (evE prot cal sub a e)
  | .ret0, e => .ok (.ret (.val .non)) e
  | .raise c a, e => (evE prot cal sub a e).fz.bind fun d e1 => (match mk c d with
    | some d' => .exc c d' e1
    | none => .bad)
  | .brk, e => .ok .brk e
  | .cont, e => .ok .cont e
  | .try_ b h, e => (match exec b e with
    | .ok f e1 => .ok f e1
    | .exc c d e1 => hand h c d e1
    | .bad => .bad)
  | _, _ => .bad
def hand : Sta → Nat → D → Es → R Flow
  | .hcons c' n b r, c, d, e => if sub c c' then (match n with
      | some i => (match putS e i (.exc c d) with
        | some e1 => if noX e then leaveX i (exec b e1) else .bad
        | none => .bad)
      | none => (exec b e).nox)
    else hand r c d e
  | .hnil, c, d, e => .exc c d e
  | _, _, _, _ => .bad
end
end
/-- the slots that a text stores -/
def Sta.stores : Sta → List Nat
  | .seq a b => a.stores ++ b.stores
  | .asg tg _ => tg.ns
  | .par is _ => is
  | .aug i _ _ => [i]
  | .ite _ a b => a.stores ++ b.stores
  | .for_ tg _ b => tg.ns ++ b.stores
  | .while_ _ b => b.stores
  | .try_ b h => b.stores ++ h.stores
  | .hcons _ n b r => (match n with
    | some i => [i]
    | none => []) ++ b.stores ++ r.stores
  | _ => []
structure FnC where
  np : Nat
  nl : Nat
  body : Sta
/-- a program: its defs; its classes: none, its field is what is handed in; some f: what def f makes of it -/
structure Prog where
  fns : List FnC
  cls : List (Option Nat)
  sub : Nat → Nat → Bool
  fuel : Nat
def mkD (P : Prog) (run : Nat → List Sl → R Sl) (c : Nat) (d : D) : Option D := match P.cls[c]? with
  | some none => some d
  | some (some f) => (match run f [.val d] with
    | .ok (.val d') _ => some d'
    | .ok (.own ds) _ => some (.lst ds)
    | _ => none)
  | none => none
def Prog.prot (P : Prog) (f p : Nat) : Bool := match P.fns[f]? with
  | some c => decide (p < c.np) && !(c.body.stores.contains p)
  | none => false
def run (P : Prog) : Nat → Nat → List Sl → R Sl
  | 0, _, _ => .bad
  | k + 1, f, ss => match P.fns[f]? with
    | some c => if ss.length = c.np then
        (match exec P.prot (run P k) (mkD P (run P k)) P.sub c.np P.fuel c.body (ss.map some ++ List.replicate (c.nl - c.np) none) with
        | .ok (.ret s) e => .ok s e
        | .ok .next e => .ok (.val .non) e
        | .exc c d e => .exc c d e
        | _ => .bad)
      else .bad
    | none => .bad
end Pv
set_option maxRecDepth 100000
set_option maxHeartbeats 2000000
namespace Pv
open PySem PySem.Spec PyProof.Rows L2

/-! ## How data lies in the heap -/
/-- a list that stands in the written part -/
def SqK (K : PySem.W.Frag) (a : Addr) (xs : List V) : Prop := ∃ (o : Obj) (its : Array Value) (n : Nat), K.lookup a = some o ∧ o.cls = .type "list" ∧ o.dict = none ∧ o.data = .seq its n ∧ its.size ≤ sizeLine ∧ Vals xs its.toList
def SqZ (K : PySem.W.Frag) (Z : Addr → Prop) (H : Hp) (a : Addr) (xs : List V) : Prop := (H a = some (.lst xs) ∧ Z a) ∨ (∃ o, H a = some (.frz o (.lst xs))) ∨ SqK K a xs
mutual
def Rp (K : PySem.W.Frag) (Z : Addr → Prop) (H : Hp) : D → V → Prop
  | .non, v => v = .non
  | .bl b, v => v = .bl b
  | .int i, v => v = .int i
  | .str s, v => v = .str s
  | .tup ds, v => ∃ a xs, v = .ref a ∧ H a = some (.tup xs) ∧ Rps K Z H ds xs
  | .lst ds, v => ∃ a xs, v = .ref a ∧ SqZ K Z H a xs ∧ Rps K Z H ds xs
def Rps (K : PySem.W.Frag) (Z : Addr → Prop) (H : Hp) : List D → List V → Prop
  | [], xs => xs = []
  | d :: ds, xs => ∃ x r, xs = x :: r ∧ Rp K Z H d x ∧ Rps K Z H ds r
end
/-- nothing is lost but lists outside Z -/
def Keep (Z : Addr → Prop) (H H' : Hp) : Prop := ∀ a o, H a = some o → (∀ xs, o = .lst xs → Z a) → H' a = some o
theorem SqZ.l {K : PySem.W.Frag} {Z : Addr → Prop} {H : Hp} {a : Addr} {xs : List V} (h : SqZ K Z H a xs) : SqL K H a xs := by
  rcases h with ⟨h, _⟩ | ⟨o, h⟩ | h
  · exact .inl (.inl h)
  · exact .inl (.inr ⟨o, h⟩)
  · exact .inr h
section
variable {K : PySem.W.Frag} {Z Z' : Addr → Prop} {H H' : Hp}
theorem Keep.sqz {a : Addr} {xs : List V} (k : Keep Z H H') (z : ∀ a, Z a → Z' a) (h : SqZ K Z H a xs) : SqZ K Z' H' a xs := by
  rcases h with ⟨h, hz⟩ | ⟨o, h⟩ | h
  · exact .inl ⟨k _ _ h fun _ _ => hz, z _ hz⟩
  · exact .inr (.inl ⟨o, k _ _ h fun _ e => nomatch e⟩)
  · exact .inr (.inr h)
theorem Keep.sqt {a : Addr} {xs : List V} (k : Keep Z H H') (h : H a = some (.tup xs)) : H' a = some (.tup xs) := k _ _ h fun _ e => nomatch e
mutual
theorem Rp.mono (k : Keep Z H H') (z : ∀ a, Z a → Z' a) : ∀ {d : D} {v : V}, Rp K Z H d v → Rp K Z' H' d v
  | .non, _, h => by unfold Rp at h ⊢; exact h
  | .bl _, _, h => by unfold Rp at h ⊢; exact h
  | .int _, _, h => by unfold Rp at h ⊢; exact h
  | .str _, _, h => by unfold Rp at h ⊢; exact h
  | .tup ds, _, h => by
    unfold Rp at h ⊢
    obtain ⟨a, xs, e, s, r⟩ := h
    exact ⟨a, xs, e, k.sqt s, Rps.mono k z r⟩
  | .lst ds, _, h => by
    unfold Rp at h ⊢
    obtain ⟨a, xs, e, s, r⟩ := h
    exact ⟨a, xs, e, k.sqz z s, Rps.mono k z r⟩
theorem Rps.mono (k : Keep Z H H') (z : ∀ a, Z a → Z' a) : ∀ {ds : List D} {xs : List V}, Rps K Z H ds xs → Rps K Z' H' ds xs
  | [], _, h => by unfold Rps at h ⊢; exact h
  | d :: ds, _, h => by
    unfold Rps at h ⊢
    obtain ⟨x, r, e, h1, h2⟩ := h
    exact ⟨x, r, e, Rp.mono k z h1, Rps.mono k z h2⟩
end
theorem rps_nil : Rps K Z H [] [] := by unfold Rps; rfl
theorem rps_cons {d : D} {ds : List D} {x : V} {xs : List V} (h1 : Rp K Z H d x) (h2 : Rps K Z H ds xs) : Rps K Z H (d :: ds) (x :: xs) := by
  unfold Rps; exact ⟨x, xs, rfl, h1, h2⟩
theorem rps_inv {d : D} {ds : List D} {xs : List V} (h : Rps K Z H (d :: ds) xs) : ∃ x r, xs = x :: r ∧ Rp K Z H d x ∧ Rps K Z H ds r := by
  unfold Rps at h; exact h
theorem rps_nil_inv {xs : List V} (h : Rps K Z H [] xs) : xs = [] := by unfold Rps at h; exact h
theorem Rps.len : ∀ {ds : List D} {xs : List V}, Rps K Z H ds xs → xs.length = ds.length
  | [], _, h => by rw [rps_nil_inv h]; rfl
  | d :: ds, _, h => by
    obtain ⟨x, r, e, _, h2⟩ := rps_inv h
    rw [e, List.length_cons, List.length_cons, Rps.len h2]
theorem Rps.get : ∀ {ds : List D} {xs : List V} {i : Nat} {d : D}, Rps K Z H ds xs → ds[i]? = some d → ∃ x, xs[i]? = some x ∧ Rp K Z H d x
  | [], _, _, _, _, e => by simp at e
  | d :: ds, _, 0, d', h, e => by
    obtain ⟨x, r, rfl, h1, _⟩ := rps_inv h
    have e' : d = d' := by simpa using e
    exact ⟨x, rfl, e' ▸ h1⟩
  | d :: ds, _, i + 1, d', h, e => by
    obtain ⟨x, r, rfl, _, h2⟩ := rps_inv h
    obtain ⟨y, e2, hy⟩ := Rps.get (i := i) h2 (by simpa using e)
    exact ⟨y, by simpa using e2, hy⟩
theorem Rps.getV : ∀ {ds : List D} {xs : List V} {i : Nat} {x : V}, Rps K Z H ds xs → xs[i]? = some x → ∃ d, ds[i]? = some d ∧ Rp K Z H d x
  | [], _, _, _, h, e => by rw [rps_nil_inv h] at e; simp at e
  | d :: ds, _, 0, x', h, e => by
    obtain ⟨x, r, rfl, h1, _⟩ := rps_inv h
    have e' : x = x' := by simpa using e
    exact ⟨d, rfl, e' ▸ h1⟩
  | d :: ds, _, i + 1, x', h, e => by
    obtain ⟨x, r, rfl, _, h2⟩ := rps_inv h
    obtain ⟨y, e2, hy⟩ := Rps.getV (i := i) h2 (by simpa using e)
    exact ⟨y, by simpa using e2, hy⟩
theorem Rps.append : ∀ {ds es : List D} {xs ys : List V}, Rps K Z H ds xs → Rps K Z H es ys → Rps K Z H (ds ++ es) (xs ++ ys)
  | [], _, _, _, h, h' => by rw [rps_nil_inv h]; exact h'
  | d :: ds, _, _, _, h, h' => by
    obtain ⟨x, r, rfl, h1, h2⟩ := rps_inv h
    exact rps_cons h1 (Rps.append h2 h')
theorem Rps.take : ∀ {ds : List D} {xs : List V} (n : Nat), Rps K Z H ds xs → Rps K Z H (ds.take n) (xs.take n)
  | _, _, 0, _ => by simp only [List.take_zero]; exact rps_nil
  | [], _, n + 1, h => by rw [rps_nil_inv h]; exact rps_nil
  | d :: ds, _, n + 1, h => by
    obtain ⟨x, r, rfl, h1, h2⟩ := rps_inv h
    exact rps_cons h1 (Rps.take n h2)
theorem Rps.drop : ∀ {ds : List D} {xs : List V} (n : Nat), Rps K Z H ds xs → Rps K Z H (ds.drop n) (xs.drop n)
  | _, _, 0, h => h
  | [], _, n + 1, h => by rw [rps_nil_inv h]; exact rps_nil
  | d :: ds, _, n + 1, h => by
    obtain ⟨x, r, rfl, h1, h2⟩ := rps_inv h
    exact Rps.drop n h2
theorem Rps.set {d : D} {x : V} (hx : Rp K Z H d x) : ∀ {ds : List D} {xs : List V} (n : Nat), Rps K Z H ds xs → Rps K Z H (ds.set n d) (xs.set n x)
  | [], _, n, h => by rw [rps_nil_inv h]; exact rps_nil
  | d' :: ds, _, 0, h => by
    obtain ⟨x', r, rfl, h1, h2⟩ := rps_inv h
    exact rps_cons hx h2
  | d' :: ds, _, n + 1, h => by
    obtain ⟨x', r, rfl, h1, h2⟩ := rps_inv h
    exact rps_cons h1 (Rps.set hx n h2)
theorem Rps.dropLast {ds : List D} {xs : List V} (h : Rps K Z H ds xs) : Rps K Z H ds.dropLast xs.dropLast := by
  rw [List.dropLast_eq_take, List.dropLast_eq_take, h.len]
  exact h.take _
theorem Rps.reverse : ∀ {ds : List D} {xs : List V}, Rps K Z H ds xs → Rps K Z H ds.reverse xs.reverse
  | [], _, h => by rw [rps_nil_inv h]; exact rps_nil
  | d :: ds, _, h => by
    obtain ⟨x, r, rfl, h1, h2⟩ := rps_inv h
    rw [List.reverse_cons, List.reverse_cons]
    exact (Rps.reverse h2).append (rps_cons h1 rps_nil)
theorem rp_int {i : Int} {v : V} (h : Rp K Z H (.int i) v) : v = .int i := by unfold Rp at h; exact h
theorem rp_bl {i : Bool} {v : V} (h : Rp K Z H (.bl i) v) : v = .bl i := by unfold Rp at h; exact h
theorem rp_non {v : V} (h : Rp K Z H .non v) : v = .non := by unfold Rp at h; exact h
theorem rp_str {s : Str} {v : V} (h : Rp K Z H (.str s) v) : v = .str s := by unfold Rp at h; exact h
theorem rp_tup {ds : List D} {v : V} (h : Rp K Z H (.tup ds) v) : ∃ a xs, v = .ref a ∧ H a = some (.tup xs) ∧ Rps K Z H ds xs := by unfold Rp at h; exact h
theorem rp_lst {ds : List D} {v : V} (h : Rp K Z H (.lst ds) v) : ∃ a xs, v = .ref a ∧ SqZ K Z H a xs ∧ Rps K Z H ds xs := by unfold Rp at h; exact h
theorem mk_int (i : Int) : Rp K Z H (.int i) (.int i) := by unfold Rp; rfl
theorem mk_bl (b : Bool) : Rp K Z H (.bl b) (.bl b) := by unfold Rp; rfl
theorem mk_non : Rp K Z H .non .non := by unfold Rp; rfl
theorem mk_str (s : Str) : Rp K Z H (.str s) (.str s) := by unfold Rp; rfl
theorem mk_tup {ds : List D} {a : Addr} {xs : List V} (h : H a = some (.tup xs)) (r : Rps K Z H ds xs) : Rp K Z H (.tup ds) (.ref a) := by unfold Rp; exact ⟨a, xs, rfl, h, r⟩
theorem mk_lst {ds : List D} {a : Addr} {xs : List V} (h : SqZ K Z H a xs) (r : Rps K Z H ds xs) : Rp K Z H (.lst ds) (.ref a) := by unfold Rp; exact ⟨a, xs, rfl, h, r⟩
end
/-- data to be read: a list may be any -/
def Rq (K : PySem.W.Frag) (Z : Addr → Prop) (H : Hp) : D → V → Prop
  | .lst ds, v => ∃ a xs, v = .ref a ∧ SqL K H a xs ∧ Rps K Z H ds xs
  | d, v => Rp K Z H d v
theorem Rp.q {K : PySem.W.Frag} {Z : Addr → Prop} {H : Hp} {d : D} {v : V} (h : Rp K Z H d v) : Rq K Z H d v := by
  cases d with
  | lst ds =>
    obtain ⟨a, xs, e, s, r⟩ := rp_lst h
    exact ⟨a, xs, e, s.l, r⟩
  | _ => exact h
def Rqs (K : PySem.W.Frag) (Z : Addr → Prop) (H : Hp) : List D → List V → Prop
  | [], xs => xs = []
  | d :: ds, xs => ∃ x r, xs = x :: r ∧ Rq K Z H d x ∧ Rqs K Z H ds r

/-! ## Names' slots -/
/-- what stays fixed through a def's body: K; what was tracked at its entry; how many parameters; the classes' addresses and fields; the exception at hand -/
structure Cn where
  K : PySem.W.Frag
  B : Addr → Prop
  np : Nat
  clA : Nat → Addr
  fld : Nat → Str
  xa : Option (Addr × Nat × Option Addr)
  pr : Nat → Bool
def ExcD (c : Cn) (Z : Addr → Prop) (H : Hp) (cl : Nat) (d : D) (dx : Option Addr) : Prop :=
  ∃ dd v, dx = some dd ∧ H dd = some (.xd [(c.fld cl, v)]) ∧ Rp c.K Z H d v
def SlotR (c : Cn) (Z : Addr → Prop) (H : Hp) : Sl → Option (Option V) → Prop
  | .val d, o => ∃ v, o = some (some v) ∧ Rp c.K Z H d v
  | .own ds, o => ∃ a xs, o = some (some (.ref a)) ∧ H a = some (.lst xs) ∧ ¬ Z a ∧ Rps c.K Z H ds xs
  | .lck ds, o => ∃ a xs, o = some (some (.ref a)) ∧ H a = some (.lst xs) ∧ ¬ Z a ∧ Rps c.K Z H ds xs
  | .exc cl d, o => ∃ a dx, o = some (some (.ref a)) ∧ c.xa = some (a, cl, dx) ∧ ExcD c Z H cl d dx
def OwnA (σ : L2.St) (e : Es) (a : Addr) : Prop := ∃ (i : Nat) (ds : List D), e[i]? = some (some (.own ds)) ∧ σ[i]? = some (some (.ref a))
def HeldAt (σ : L2.St) (e : Es) (i : Nat) (a : Addr) : Prop := ∃ ds : List D, (e[i]? = some (some (.own ds)) ∨ e[i]? = some (some (.lck ds))) ∧ σ[i]? = some (some (.ref a))
def Held (σ : L2.St) (e : Es) (a : Addr) : Prop := ∃ i, HeldAt σ e i a
structure EnvR (c : Cn) (Z : Addr → Prop) (H : Hp) (σ : L2.St) (e : Es) : Prop where
  len : σ.length = e.length
  slot : ∀ (i : Nat) (s : Sl), e[i]? = some (some s) → SlotR c Z H s (σ[i]?)
  inj : ∀ (i j : Nat) (a : Addr), HeldAt σ e i a → HeldAt σ e j a → i = j
  prov : ∀ (i : Nat) (a : Addr), c.np ≤ i → HeldAt σ e i a → ¬ c.B a
  bt : ∀ a, c.B a → H a ≠ none
  zt : ∀ a, Z a → H a ≠ none
/-- from one state to a later one -/
structure Tr (σ : L2.St) (e : Es) (Z : Addr → Prop) (H : Hp) (σ' : L2.St) (e' : Es) (Z' : Addr → Prop) (H' : Hp) : Prop where
  keep : ∀ a o, H a = some o → ¬ OwnA σ e a → H' a = some o
  zle : ∀ a, Z a → Z' a
  znew : ∀ a, Z' a → Z a ∨ H a = none ∨ OwnA σ e a
  own : ∀ a, OwnA σ' e' a → OwnA σ e a ∨ H a = none
  held : ∀ a, Held σ' e' a → Held σ e a ∨ H a = none
  here : ∀ a, H a ≠ none → H' a ≠ none
  lk : ∀ (i : Nat) (ds : List D), e[i]? = some (some (.lck ds)) → σ'[i]? = σ[i]? ∧ ∃ ds' : List D, e'[i]? = some (some (.lck ds'))
theorem OwnA.held {σ : L2.St} {e : Es} {a : Addr} (h : OwnA σ e a) : Held σ e a := let ⟨i, ds, h1, h2⟩ := h; ⟨i, ds, .inl h1, h2⟩
section
variable {c : Cn} {Z Z' Z1 Z2 : Addr → Prop} {H H' H1 H2 : Hp} {σ σ1 σ2 : L2.St} {e e1 e2 : Es}
theorem Tr.refl : Tr σ e Z H σ e Z H := ⟨fun _ _ h _ => h, fun _ h => h, fun _ h => .inl h, fun _ h => .inl h, fun _ h => .inl h, fun _ h => h, fun _ ds h => ⟨rfl, ds, h⟩⟩
theorem none_back {H H1 : Hp} (here : ∀ a, H a ≠ none → H1 a ≠ none) {a : Addr} (h : H1 a = none) : H a = none := by
  cases q : H a with
  | none => rfl
  | some o => exact absurd h (here a (by rw [q]; exact fun z => nomatch z))
theorem Tr.trans (a : Tr σ e Z H σ1 e1 Z1 H1) (b : Tr σ1 e1 Z1 H1 σ2 e2 Z2 H2) : Tr σ e Z H σ2 e2 Z2 H2 where
  keep := fun p o h n => by
    refine b.keep p o (a.keep p o h n) fun w => ?_
    rcases a.own p w with w | w
    · exact n w
    · rw [w] at h; cases h
  zle := fun p h => b.zle p (a.zle p h)
  znew := fun p h => by
    rcases b.znew p h with h | h | h
    · exact a.znew p h
    · exact .inr (.inl (none_back a.here h))
    · rcases a.own p h with h | h
      · exact .inr (.inr h)
      · exact .inr (.inl h)
  own := fun p h => by
    rcases b.own p h with h | h
    · exact a.own p h
    · exact .inr (none_back a.here h)
  held := fun p h => by
    rcases b.held p h with h | h
    · exact a.held p h
    · exact .inr (none_back a.here h)
  here := fun p h => b.here p (a.here p h)
  lk := fun i ds h => by
    obtain ⟨q1, ds1, q2⟩ := a.lk i ds h
    obtain ⟨q3, ds2, q4⟩ := b.lk i ds1 q2
    exact ⟨q3.trans q1, ds2, q4⟩
theorem EnvR.ownz (E : EnvR c Z H σ e) {a : Addr} (h : Held σ e a) : ¬ Z a ∧ ∃ xs, H a = some (.lst xs) := by
  obtain ⟨i, ds, h1, h2⟩ := h
  rcases h1 with h1 | h1
  · obtain ⟨a', xs, e1, e2, e3, _⟩ := E.slot i _ h1
    rw [h2] at e1; cases e1
    exact ⟨e3, xs, e2⟩
  · obtain ⟨a', xs, e1, e2, e3, _⟩ := E.slot i _ h1
    rw [h2] at e1; cases e1
    exact ⟨e3, xs, e2⟩
theorem Tr.keepZ (E : EnvR c Z H σ e) (t : Tr σ e Z H σ1 e1 Z1 H1) : Keep Z H H1 := fun a o h n => t.keep a o h fun w => by
  obtain ⟨nz, xs, hx⟩ := E.ownz w.held
  rw [h] at hx; cases hx
  exact nz (n xs rfl)
theorem Rp.tr (E : EnvR c Z H σ e) (t : Tr σ e Z H σ1 e1 Z1 H1) {d : D} {v : V} (h : Rp c.K Z H d v) : Rp c.K Z1 H1 d v := h.mono (t.keepZ E) t.zle
theorem Rps.tr (E : EnvR c Z H σ e) (t : Tr σ e Z H σ1 e1 Z1 H1) {d : List D} {v : List V} (h : Rps c.K Z H d v) : Rps c.K Z1 H1 d v := h.mono (t.keepZ E) t.zle
end

/-! ## Results -/
/-- an expression's value; H₀: the heap ahead of it -/
def TmpR (c : Cn) (H₀ : Hp) (Z : Addr → Prop) (H : Hp) (σ : L2.St) (e : Es) : Sl → V → Prop
  | .val d, v => Rp c.K Z H d v
  | .own ds, v => ∃ a xs, v = .ref a ∧ H₀ a = none ∧ H a = some (.lst xs) ∧ ¬ Z a ∧ ¬ Held σ e a ∧ Rps c.K Z H ds xs
  | _, _ => False
def BvR (c : Cn) (H₀ : Hp) (Z : Addr → Prop) (H : Hp) (σ : L2.St) (e : Es) : Bv → V → Prop
  | .val d, v => Rp c.K Z H d v
  | .slot i, v => σ[i]? = some (some v)
  | .tmp ds, v => TmpR c H₀ Z H σ e (.own ds) v
/-- what is wanted behind the evaluation of an expression -/
def Post (c : Cn) (W : WX) (σ : L2.St) (e : Es) (Z : Addr → Prop) (H : Hp) {α : Type} (r : R α) (k : α → Es → (Addr → Prop) → Hp → Prop) : Prop := match r with
  | .ok a e' => ∀ Z' H', Tr σ e Z H σ e' Z' H' → EnvR c Z' H' σ e' → k a e' Z' H'
  | .exc cl d e' => ∀ Z' H' dx, Tr σ e Z H σ e' Z' H' → EnvR c Z' H' σ e' → ExcD c Z' H' cl d dx → W (.ref (c.clA cl)) dx σ H'
  | .bad => False
section
variable {c : Cn} {W : WX} {σ : L2.St} {e e1 : Es} {Z Z1 : Addr → Prop} {H H1 : Hp} {α β : Type}
theorem Post.imp {r : R α} {k k' : α → Es → (Addr → Prop) → Hp → Prop} (h : Post c W σ e Z H r k)
    (f : ∀ a e' Z' H', Tr σ e Z H σ e' Z' H' → EnvR c Z' H' σ e' → k a e' Z' H' → k' a e' Z' H') : Post c W σ e Z H r k' := by
  cases r with
  | ok a e' => exact fun Z' H' t E => f a e' Z' H' t E (h Z' H' t E)
  | exc cl d e' => exact h
  | bad => exact h
theorem Post.after {r : R α} {k : α → Es → (Addr → Prop) → Hp → Prop} (h : Post c W σ e Z H r k) (t : Tr σ e Z H σ e1 Z1 H1) : Post c W σ e1 Z1 H1 r k := by
  cases r with
  | ok a e' => exact fun Z' H' t' E => h Z' H' (t.trans t') E
  | exc cl d e' => exact fun Z' H' dx t' E x => h Z' H' dx (t.trans t') E x
  | bad => exact h
theorem Post.bind {r : R α} {g : α → Es → R β} {k : β → Es → (Addr → Prop) → Hp → Prop} (h : Post c W σ e Z H (r.bind g) k) :
    Post c W σ e Z H r fun a e1 Z1 H1 => Post c W σ e1 Z1 H1 (g a e1) k := by
  cases r with
  | ok a e' => exact fun Z' H' t E => Post.after (show Post c W σ e Z H (g a e') k from h) t
  | exc cl d e' => exact h
  | bad => exact h
/-- behind a step that makes new objects only -/
theorem tr_ext (s : Same H H1) : Tr σ e Z H σ e Z H1 := ⟨fun a o h _ => s a o h, fun _ h => h, fun _ h => .inl h, fun _ h => .inl h, fun _ h => .inl h, (fun a h q => by
  cases w : H a with
  | none => exact h w
  | some o => rw [s a o w] at q; cases q), fun _ ds h => ⟨rfl, ds, h⟩⟩
theorem Same.keep (s : Same H H1) : Keep Z H H1 := fun a o h _ => s a o h
theorem SlotR.ext {s : Sl} {o : Option (Option V)} (x : Same H H1) (h : SlotR c Z H s o) : SlotR c Z H1 s o := by
  cases s with
  | val d =>
    obtain ⟨v, h1, h2⟩ := h
    exact ⟨v, h1, h2.mono (Same.keep x) fun _ z => z⟩
  | own ds =>
    obtain ⟨a, xs, h1, h2, h3, h4⟩ := h
    exact ⟨a, xs, h1, x _ _ h2, h3, h4.mono (Same.keep x) fun _ z => z⟩
  | lck ds =>
    obtain ⟨a, xs, h1, h2, h3, h4⟩ := h
    exact ⟨a, xs, h1, x _ _ h2, h3, h4.mono (Same.keep x) fun _ z => z⟩
  | exc cl d =>
    obtain ⟨a, dx, h1, h2, dd, v, h3, h4, h5⟩ := h
    exact ⟨a, dx, h1, h2, dd, v, h3, x _ _ h4, h5.mono (Same.keep x) fun _ z => z⟩
theorem EnvR.ext (E : EnvR c Z H σ e) (x : Same H H1) : EnvR c Z H1 σ e where
  len := E.len
  slot := fun i s h => (E.slot i s h).ext x
  inj := E.inj
  prov := E.prov
  bt := fun a h q => by
    have := E.bt a h
    cases w : H a with
    | none => exact this w
    | some o => rw [x a o w] at q; cases q
  zt := fun a h q => by
    have := E.zt a h
    cases w : H a with
    | none => exact this w
    | some o => rw [x a o w] at q; cases q
/-- the end of a step that makes new objects -/
theorem Post.ok_ext {a : α} {k : α → Es → (Addr → Prop) → Hp → Prop} (h : Post c W σ e Z H (.ok a e) k) (E : EnvR c Z H σ e) (x : Same H H1) : k a e Z H1 := h Z H1 (tr_ext x) (E.ext x)
theorem Post.ok_now {a : α} {k : α → Es → (Addr → Prop) → Hp → Prop} (h : Post c W σ e Z H (.ok a e) k) (E : EnvR c Z H σ e) : k a e Z H := h Z H Tr.refl E
end
end Pv
set_option maxRecDepth 100000
set_option maxHeartbeats 2000000
namespace Pv
open PySem PySem.Spec PyProof.Rows L2

/-! ## Operators by values -/
/-- what a step makes: data, or a new list -/
def NewR (K : PySem.W.Frag) (Z : Addr → Prop) (H H' : Hp) : Sl → V → Prop
  | .val d, v => Rp K Z H' d v
  | .own ds, v => ∃ a xs, v = .ref a ∧ H a = none ∧ H' a = some (.lst xs) ∧ Rps K Z H' ds xs
  | _, _ => False
theorem nw_int {K : PySem.W.Frag} {Z : Addr → Prop} {H H' : Hp} (i : Int) : NewR K Z H H' (.val (.int i)) (.int i) := mk_int (K := K) (Z := Z) (H := H') i
theorem nw_bl {K : PySem.W.Frag} {Z : Addr → Prop} {H H' : Hp} (i : Bool) : NewR K Z H H' (.val (.bl i)) (.bl i) := mk_bl (K := K) (Z := Z) (H := H') i
theorem nw_str {K : PySem.W.Frag} {Z : Addr → Prop} {H H' : Hp} (i : Str) : NewR K Z H H' (.val (.str i)) (.str i) := mk_str (K := K) (Z := Z) (H := H') i
theorem same_new {H : Hp} {p : Addr} {o : HO} (h : H p = none) : Same H (upd H p o) := fun b u e => by rw [upd_ne (ne_of_none e h)]; exact e
theorem Rq.l {K : PySem.W.Frag} {Z : Addr → Prop} {H : Hp} {ds : List D} {v : V} (h : Rq K Z H (.lst ds) v) : ∃ a xs, v = .ref a ∧ SqL K H a xs ∧ Rps K Z H ds xs := by
  exact h
theorem rq_int {K : PySem.W.Frag} {Z : Addr → Prop} {H : Hp} {i : Int} {v : V} (h : Rq K Z H (.int i) v) : v = .int i := rp_int (K := K) (Z := Z) (H := H) h
theorem rq_bl {K : PySem.W.Frag} {Z : Addr → Prop} {H : Hp} {i : Bool} {v : V} (h : Rq K Z H (.bl i) v) : v = .bl i := rp_bl (K := K) (Z := Z) (H := H) h
theorem rq_str {K : PySem.W.Frag} {Z : Addr → Prop} {H : Hp} {i : Str} {v : V} (h : Rq K Z H (.str i) v) : v = .str i := rp_str (K := K) (Z := Z) (H := H) h
theorem rq_non {K : PySem.W.Frag} {Z : Addr → Prop} {H : Hp} {v : V} (h : Rq K Z H .non v) : v = .non := rp_non (K := K) (Z := Z) (H := H) h
theorem rq_tup {K : PySem.W.Frag} {Z : Addr → Prop} {H : Hp} {ds : List D} {v : V} (h : Rq K Z H (.tup ds) v) : ∃ a xs, v = .ref a ∧ H a = some (.tup xs) ∧ Rps K Z H ds xs := rp_tup h
def rO2 (K : PySem.W.Frag) (g : D → D → Option Sl) : R2 := fun x y H Q => ∃ Z d d' s, Rq K Z H d x ∧ Rq K Z H d' y ∧ g d d' = some s ∧ ∀ v H', Same H H' → NewR K Z H H' s v → Q v H'
def rO1 (K : PySem.W.Frag) (g : List D → Option Sl) : List V → Hp → VK → Prop := fun vs H Q => ∃ Z ds s, Rqs K Z H ds vs ∧ g ds = some s ∧ ∀ v H', Same H H' → NewR K Z H H' s v → Q v H'
theorem sizeMax_eq : sizeMax = sizeLine := by rw [sizeLine_eq]; rfl
def bopOp : Bop → Operator
  | .add => .Add | .sub => .Sub | .mul => .Mult | .fdiv => .FloorDiv | .mod => .Mod | .pow => .Pow | .shr => .RShift
section
variable {X : Cx}
theorem Inv.rd {pins : List (Addr × Obj)} {σ : L2.St} {H : Hp} {s : Shared} {a : Addr} {xs : List V} (I : Inv X pins σ H s) (h : Rd H a (.lst xs)) : xs.length ≤ sizeLine ∧ ∃ (its : List Value) (n : Nat), Vals xs its ∧ s.heap.get? a = some { cls := .type "list", data := .seq its.toArray n } := by
  have q : ObjOk X.prog X.w H s.heap a (.lst xs) := h.ok I.hok
  obtain ⟨z, its, n, r, e⟩ := q
  exact ⟨z, its, n, r, e⟩
/-- list + list -/
theorem cat_any : OpR X (binaryOp .Add) (fun x y H Q => ∃ (l b : Addr) (xs zs : List V), x = .ref l ∧ y = .ref b ∧ SqL X.K H l xs ∧ SqL X.K H b zs ∧ xs.length + zs.length ≤ sizeLine ∧ ∀ p, H p = none → Q (.ref p) (upd H p (.lst (xs ++ zs)))) := by
  intro pins s σ H x y v u Q I r1 r2 hh
  obtain ⟨l, b, xs, zs, ex, ey, hl, hb, hn, q⟩ := hh
  subst ex ey
  obtain rfl : v = Value.ref l := r1
  obtain rfl : u = Value.ref b := r2
  obtain ⟨i1, w1, ⟨⟨k1, dd1, da1, sl1⟩, n1, g1, hc1, hd1, he1⟩, _⟩ := I.list hl
  obtain ⟨i2, w2, ⟨⟨k2, dd2, da2, sl2⟩, n2, g2, hc2, hd2, he2⟩, _⟩ := I.list hb
  cases hc1; cases hd1; cases he1; cases hc2; cases hd2; cases he2
  have c1 := w1.length
  have c2 := w2.length
  refine concat_meets ⟨_, g1, rfl⟩ ⟨_, g2, rfl⟩ noFill_list_add seq_list_add PySem.F.slot_list_add PySem.F.entry_list_add (PySem.F.args_list_add_2 _ _) (list_addW l b i1.toArray i2.toArray n1 n2 none none sl1 sl2 (by simp only [List.size_toArray]; omega)) ⟨g1, g2, ?_⟩
  rw [show i1.toArray ++ i2.toArray = (i1 ++ i2).toArray from by simp]
  exact ⟨.ref _, _, I.lnew (t' := s.toks) (w1.append w2) (by rw [List.length_append]; exact hn), rfl, q _ I.fresh⟩
theorem rep_len {n k : Nat} (h1 : k ≤ 100000) (h2 : n ≤ 100) : n * k ≤ sizeLine := by
  rw [sizeLine_eq]
  exact Nat.le_trans (Nat.mul_le_mul h2 h1) (by decide)
theorem binR (o : Bop) : OpR X (binaryOp (bopOp o)) (rO2 X.K (binD o)) := by
  intro pins s σ H x y v u Q I r1 r2 hh
  obtain ⟨Z, d, d', sl, hx, hy, hg, q⟩ := hh
  have here : ∀ {i : Int}, NewR X.K Z H H (.val (.int i)) (.int i) := fun {i} => nw_int i
  cases o <;> cases d <;> cases d' <;> simp only [binD] at hg <;> try (cases hg; done)
  case add.int.int i j =>
    cases hg
    obtain rfl := rq_int hx
    obtain rfl := rq_int hy
    exact op_add pins s σ H _ _ v u Q I r1 r2 ⟨i, j, rfl, rfl, q _ H (Same.refl H) here⟩
  case sub.int.int i j =>
    cases hg
    obtain rfl := rq_int hx
    obtain rfl := rq_int hy
    exact op_sub pins s σ H _ _ v u Q I r1 r2 ⟨i, j, rfl, rfl, q _ H (Same.refl H) here⟩
  case mul.int.int i j =>
    obtain rfl := rq_int hx
    obtain rfl := rq_int hy
    split at hg
    · rename_i hm
      cases hg
      have hq := q (.int (i * j)) H (Same.refl H) here
      simp only [mulOk, Bool.or_eq_true, decide_eq_true_eq] at hm
      rcases hm with (hm | hm) | hm
      · exact op_mul pins s σ H _ _ v u Q I r1 r2 ⟨i, j, rfl, rfl, .inl hm, hq⟩
      · exact op_mul pins s σ H _ _ v u Q I r1 r2 ⟨i, j, rfl, rfl, .inr hm, hq⟩
      · exact op_mulW pins s σ H _ _ v u Q I r1 r2 ⟨i, j, rfl, rfl, hm, hq⟩
    · cases hg
  case fdiv.int.int i j =>
    obtain rfl := rq_int hx
    obtain rfl := rq_int hy
    split at hg
    · rename_i hm
      cases hg
      simp only [divOk, Bool.and_eq_true, decide_eq_true_eq] at hm
      exact op_fdivW pins s σ H _ _ v u Q I r1 r2 ⟨i, j, rfl, rfl, hm, q _ H (Same.refl H) here⟩
    · cases hg
  case mod.int.int i j =>
    obtain rfl := rq_int hx
    obtain rfl := rq_int hy
    split at hg
    · rename_i hm
      cases hg
      exact op_mod pins s σ H _ _ v u Q I r1 r2 ⟨i, j, rfl, rfl, hm, q _ H (Same.refl H) here⟩
    · cases hg
  case pow.int.int i j =>
    obtain rfl := rq_int hx
    obtain rfl := rq_int hy
    split at hg
    · rename_i hm
      cases hg
      simp only [powOk, Bool.and_eq_true, decide_eq_true_eq] at hm
      exact op_pow pins s σ H _ _ v u Q I r1 r2 ⟨i, j, rfl, rfl, ⟨hm.1.1, by omega, hm.2⟩, q _ H (Same.refl H) here⟩
    · cases hg
  case shr.int.int i j =>
    obtain rfl := rq_int hx
    obtain rfl := rq_int hy
    split at hg
    · rename_i hm
      cases hg
      exact op_shr pins s σ H _ _ v u Q I r1 r2 ⟨i, j, rfl, rfl, hm, q _ H (Same.refl H) here⟩
    · cases hg
  case add.str.str i j =>
    obtain rfl := rq_str hx
    obtain rfl := rq_str hy
    split at hg
    · rename_i hm
      cases hg
      exact op_add_str pins s σ H _ _ v u Q I r1 r2 ⟨i, j, rfl, rfl, by rw [← sizeMax_eq]; exact hm, q _ H (Same.refl H) (nw_str _)⟩
    · cases hg
  case add.tup.tup xs ys =>
    split at hg
    · rename_i hm
      cases hg
      obtain ⟨a, vs, rfl, h1, p1⟩ := rq_tup hx
      obtain ⟨b, ws, rfl, h2, p2⟩ := rq_tup hy
      refine op_catA pins s σ H _ _ v u Q I r1 r2 ⟨a, b, vs, ws, rfl, rfl, SqT.of h1, SqT.of h2, by rw [p1.len, p2.len, ← sizeMax_eq]; exact hm, fun e => ?_, fun _ e => ?_, fun _ _ p hp => ?_⟩
      · refine q _ H (Same.refl H) ?_
        have e0 : xs = [] := List.eq_nil_of_length_eq_zero (by rw [← p1.len, e]; rfl)
        rw [e0]
        exact mk_tup h2 p2
      · refine q _ H (Same.refl H) ?_
        have e0 : ys = [] := List.eq_nil_of_length_eq_zero (by rw [← p2.len, e]; rfl)
        rw [e0, List.append_nil]
        exact mk_tup h1 p1
      · have sm := same_new (o := .tup (vs ++ ws)) hp
        exact q _ _ sm (mk_tup upd_same ((p1.append p2).mono (Same.keep sm) fun _ z => z))
    · cases hg
  case add.lst.lst xs ys =>
    split at hg
    · rename_i hm
      cases hg
      obtain ⟨a, vs, rfl, h1, p1⟩ := hx
      obtain ⟨b, ws, rfl, h2, p2⟩ := hy
      refine cat_any pins s σ H _ _ v u Q I r1 r2 ⟨a, b, vs, ws, rfl, rfl, h1, h2, by rw [p1.len, p2.len, ← sizeMax_eq]; exact hm, fun p hp => ?_⟩
      have sm := same_new (o := .lst (vs ++ ws)) hp
      exact q _ _ sm ⟨p, _, rfl, hp, upd_same, (p1.append p2).mono (Same.keep sm) fun _ z => z⟩
    · cases hg
end
/-! ### comparisons -/
section
variable {K : PySem.W.Frag} {Z : Addr → Prop} {H : Hp}
mutual
theorem dp_of : ∀ {d : D} {v : V}, Rp K Z H d v → Dp K H v d.py
  | .non, _, h => by rw [rp_non h]; simp only [D.py]; exact .non
  | .bl b, _, h => by rw [rp_bl h]; simp only [D.py]; exact .bl b
  | .int b, _, h => by rw [rp_int h]; simp only [D.py]; exact .int b
  | .str b, _, h => by rw [rp_str h]; simp only [D.py]; exact .str b
  | .tup ds, _, h => by
    obtain ⟨a, xs, rfl, h1, h2⟩ := rp_tup h
    simp only [D.py]
    exact .tup (SqT.of h1) (dps_of h2)
  | .lst ds, _, h => by
    obtain ⟨a, xs, rfl, h1, h2⟩ := rp_lst h
    simp only [D.py]
    exact .lst h1.l (dps_of h2)
theorem dps_of : ∀ {ds : List D} {vs : List V}, Rps K Z H ds vs → DpAll K H vs (D.pys ds)
  | [], _, h => by rw [rps_nil_inv h]; simp only [D.pys]; exact .nil
  | d :: ds, _, h => by
    obtain ⟨x, r, rfl, h1, h2⟩ := rps_inv h
    simp only [D.pys]
    exact .cons (dp_of h1) (dps_of h2)
end
theorem dq_of {d : D} {v : V} (h : Rq K Z H d v) : Dp K H v d.py := by
  cases d with
  | lst ds =>
    obtain ⟨a, xs, rfl, h1, h2⟩ := h
    simp only [D.py]
    exact .lst h1 (dps_of h2)
  | _ => exact dp_of (K := K) (Z := Z) (H := H) h
end
mutual
theorem eqv_py : ∀ a b : D, PyData.eqv a.py b.py = D.eqv a b
  | .lst xs, b => by
    cases b <;> simp only [D.py, D.eqv, PyData.eqv]
    exact eqvs_py xs _
  | .tup xs, b => by
    cases b <;> simp only [D.py, D.eqv, PyData.eqv]
    exact eqvs_py xs _
  | .non, b => by cases b <;> simp only [D.py, D.eqv, PyData.eqv]
  | .bl _, b => by cases b <;> simp only [D.py, D.eqv, PyData.eqv]
  | .int _, b => by cases b <;> simp only [D.py, D.eqv, PyData.eqv]
  | .str _, b => by cases b <;> simp only [D.py, D.eqv, PyData.eqv]
theorem eqvs_py : ∀ xs ys : List D, PyData.eqvAll (D.pys xs) (D.pys ys) = D.eqvs xs ys
  | [], [] => by simp only [D.pys, D.eqvs, PyData.eqvAll]
  | [], _ :: _ => by simp only [D.pys, D.eqvs, PyData.eqvAll]
  | _ :: _, [] => by simp only [D.pys, D.eqvs, PyData.eqvAll]
  | x :: xs, y :: ys => by
    simp only [D.pys, D.eqvs, PyData.eqvAll]
    rw [eqv_py x y, eqvs_py xs ys]
end
def copOp : Cop → CmpOp
  | .lt => .Lt | .le => .LtE | .gt => .Gt | .ge => .GtE | .eq => .Eq | .ne => .NotEq | .isin => .In | .notin => .NotIn
def rC (K : PySem.W.Frag) (o : Cop) : R2 := fun x y H Q => ∃ Z d d' b, Rq K Z H d x ∧ Rq K Z H d' y ∧ cmpD o d d' = some b ∧ Q (.bl b) H
section
variable {X : Cx} {K : PySem.W.Frag} {Z : Addr → Prop} {H : Hp}
theorem flat_of {d : D} {v : V} (h : Rq K Z H d v) (f : d.flat = true) : flatV v = true := by
  cases d with
  | non => rw [rq_non h]; rfl
  | bl b => rw [rq_bl h]; rfl
  | int b => rw [rq_int h]; rfl
  | str b => rw [rq_str h]; rfl
  | tup b => cases f
  | lst b => cases f
theorem flats_of : ∀ {ds : List D} {vs : List V}, Rps K Z H ds vs → ds.all D.flat = true → vs.all flatV = true
  | [], _, h, _ => by rw [rps_nil_inv h]; rfl
  | d :: ds, _, h, f => by
    obtain ⟨x, r, rfl, h1, h2⟩ := rps_inv h
    rw [List.all_cons, Bool.and_eq_true] at f ⊢
    exact ⟨flat_of h1.q f.1, flats_of h2 f.2⟩
theorem eqV_of {d d' : D} {v v' : V} (h : Rq K Z H d v) (h' : Rq K Z H d' v') (f : d.flat = true) (f' : d'.flat = true) : eqV v v' = D.eqv d d' := by
  cases d <;> first | cases f | skip
  all_goals cases d' <;> first | cases f' | skip
  all_goals
    first
      | obtain rfl := rq_non h
      | obtain rfl := rq_bl h
      | obtain rfl := rq_int h
      | obtain rfl := rq_str h
    first
      | obtain rfl := rq_non h'
      | obtain rfl := rq_bl h'
      | obtain rfl := rq_int h'
      | obtain rfl := rq_str h'
    simp only [eqV, D.eqv]
theorem inV_of {d : D} {v : V} (h : Rq K Z H d v) (f : d.flat = true) : ∀ {ds : List D} {vs : List V}, Rps K Z H ds vs → ds.all D.flat = true → (vs.any fun y => eqV y v) = ds.any fun y => D.eqv y d
  | [], _, q, _ => by rw [rps_nil_inv q]; rfl
  | e :: ds, _, q, g => by
    obtain ⟨x, r, rfl, h1, h2⟩ := rps_inv q
    rw [List.all_cons, Bool.and_eq_true] at g
    rw [List.any_cons, List.any_cons, eqV_of h1.q h g.1 f, inV_of h f h2 g.2]
theorem eqR (hu : X.A.units + 64 < cLine) : OpR X (compareOp .Eq) (rC X.K .eq) := by
  intro pins s σ H x y v u Q I r1 r2 hh
  obtain ⟨Z, d, d', b, hx, hy, hg, q⟩ := hh
  have gen : okD d = true → okD d' = true → b = D.eqv d d' → wpAny (model X.prog X.w) X.A (compareOp .Eq v u) (EP X pins σ Q) X.xe s := fun o1 o2 e => by
    refine op_eqD hu pins s σ H x y v u Q I r1 r2 ⟨_, _, dq_of hx, dq_of hy, o1, o2, ?_⟩
    rw [eqv_py, ← e]
    exact q
  simp only [cmpD] at hg
  unfold eqD at hg
  split at hg
  · obtain rfl := rq_int hx
    obtain rfl := rq_int hy
    cases hg
    refine op_eq pins s σ H _ _ v u Q I r1 r2 ⟨rfl, ?_⟩
    rw [dec_int]
    exact q
  · obtain rfl := rq_bl hx
    obtain rfl := rq_bl hy
    cases hg
    refine op_eq pins s σ H _ _ v u Q I r1 r2 ⟨rfl, ?_⟩
    rw [dec_bl]
    exact q
  · obtain rfl := rq_str hx
    obtain rfl := rq_str hy
    cases hg
    refine op_eq pins s σ H _ _ v u Q I r1 r2 ⟨rfl, ?_⟩
    rw [dec_str]
    exact q
  · split at hg
    · rename_i o
      rw [Bool.and_eq_true] at o
      cases hg
      exact gen o.1 o.2 rfl
    · cases hg
theorem neR (hu : X.A.units + 64 < cLine) : OpR X (compareOp .NotEq) (rC X.K .ne) := by
  intro pins s σ H x y v u Q I r1 r2 hh
  obtain ⟨Z, d, d', b, hx, hy, hg, q⟩ := hh
  simp only [cmpD, Option.map_eq_some_iff] at hg
  obtain ⟨b', hg, rfl⟩ := hg
  have gen : okD d = true → okD d' = true → b' = D.eqv d d' → wpAny (model X.prog X.w) X.A (compareOp .NotEq v u) (EP X pins σ Q) X.xe s := fun o1 o2 e => by
    refine op_neD hu pins s σ H x y v u Q I r1 r2 ⟨_, _, dq_of hx, dq_of hy, o1, o2, ?_⟩
    rw [eqv_py, ← e]
    exact q
  unfold eqD at hg
  split at hg
  · obtain rfl := rq_int hx
    obtain rfl := rq_int hy
    cases hg
    refine op_ne pins s σ H _ _ v u Q I r1 r2 ⟨rfl, ?_⟩
    rw [dec_int]
    exact q
  · obtain rfl := rq_bl hx
    obtain rfl := rq_bl hy
    cases hg
    refine op_ne pins s σ H _ _ v u Q I r1 r2 ⟨rfl, ?_⟩
    rw [dec_bl]
    exact q
  · obtain rfl := rq_str hx
    obtain rfl := rq_str hy
    cases hg
    refine op_ne pins s σ H _ _ v u Q I r1 r2 ⟨rfl, ?_⟩
    rw [dec_str]
    exact q
  · split at hg
    · rename_i o
      rw [Bool.and_eq_true] at o
      cases hg
      exact gen o.1 o.2 rfl
    · cases hg
theorem cmpR (hu : X.A.units + 64 < cLine) (o : Cop) : OpR X (compareOp (copOp o)) (rC X.K o) := by
  cases o with
  | eq => exact eqR hu
  | ne => exact neR hu
  | isin =>
    intro pins s σ H x y v u Q I r1 r2 hh
    obtain ⟨Z, d, d', b, hx, hy, hg, q⟩ := hh
    cases d' <;> simp only [cmpD] at hg <;> try (cases hg; done)
    all_goals
      unfold inD at hg
      split at hg
      · rename_i f
        rw [Bool.and_eq_true] at f
        cases hg
        first
          | (obtain ⟨a, xs, rfl, h1, h2⟩ := hy
             refine op_in_seq pins s σ H _ _ v u Q I r1 r2 ⟨a, xs, rfl, .inl h1, flat_of hx f.1, flats_of h2 f.2, ?_⟩
             rw [if_neg Bool.false_ne_true, show inV x xs = _ from inV_of hx f.1 h2 f.2]
             exact q)
          | (obtain ⟨a, xs, rfl, h1, h2⟩ := rq_tup hy
             refine op_in_seq pins s σ H _ _ v u Q I r1 r2 ⟨a, xs, rfl, .inr (SqT.of h1), flat_of hx f.1, flats_of h2 f.2, ?_⟩
             rw [if_neg Bool.false_ne_true, show inV x xs = _ from inV_of hx f.1 h2 f.2]
             exact q)
      · cases hg
  | notin =>
    intro pins s σ H x y v u Q I r1 r2 hh
    obtain ⟨Z, d, d', b, hx, hy, hg, q⟩ := hh
    cases d' <;> simp only [cmpD, Option.map_eq_some_iff] at hg <;> try (cases hg; done)
    all_goals
      obtain ⟨b', hg, rfl⟩ := hg
      unfold inD at hg
      split at hg
      · rename_i f
        rw [Bool.and_eq_true] at f
        cases hg
        first
          | (obtain ⟨a, xs, rfl, h1, h2⟩ := hy
             refine op_notIn_seq pins s σ H _ _ v u Q I r1 r2 ⟨a, xs, rfl, .inl h1, flat_of hx f.1, flats_of h2 f.2, ?_⟩
             rw [if_pos rfl, show inV x xs = _ from inV_of hx f.1 h2 f.2]
             exact q)
          | (obtain ⟨a, xs, rfl, h1, h2⟩ := rq_tup hy
             refine op_notIn_seq pins s σ H _ _ v u Q I r1 r2 ⟨a, xs, rfl, .inr (SqT.of h1), flat_of hx f.1, flats_of h2 f.2, ?_⟩
             rw [if_pos rfl, show inV x xs = _ from inV_of hx f.1 h2 f.2]
             exact q)
      · cases hg
  | lt =>
    intro pins s σ H x y v u Q I r1 r2 hh
    obtain ⟨Z, d, d', b, hx, hy, hg, q⟩ := hh
    cases d <;> cases d' <;> simp only [cmpD] at hg <;> try (cases hg; done)
    cases hg
    obtain rfl := rq_int hx
    obtain rfl := rq_int hy
    exact op_lt pins s σ H _ _ v u Q I r1 r2 ⟨_, _, rfl, rfl, q⟩
  | le =>
    intro pins s σ H x y v u Q I r1 r2 hh
    obtain ⟨Z, d, d', b, hx, hy, hg, q⟩ := hh
    cases d <;> cases d' <;> simp only [cmpD] at hg <;> try (cases hg; done)
    cases hg
    obtain rfl := rq_int hx
    obtain rfl := rq_int hy
    exact op_le pins s σ H _ _ v u Q I r1 r2 ⟨_, _, rfl, rfl, q⟩
  | gt =>
    intro pins s σ H x y v u Q I r1 r2 hh
    obtain ⟨Z, d, d', b, hx, hy, hg, q⟩ := hh
    cases d <;> cases d' <;> simp only [cmpD] at hg <;> try (cases hg; done)
    cases hg
    obtain rfl := rq_int hx
    obtain rfl := rq_int hy
    exact op_gt pins s σ H _ _ v u Q I r1 r2 ⟨_, _, rfl, rfl, q⟩
  | ge =>
    intro pins s σ H x y v u Q I r1 r2 hh
    obtain ⟨Z, d, d', b, hx, hy, hg, q⟩ := hh
    cases d <;> cases d' <;> simp only [cmpD] at hg <;> try (cases hg; done)
    cases hg
    obtain rfl := rq_int hx
    obtain rfl := rq_int hy
    exact op_ge pins s σ H _ _ v u Q I r1 r2 ⟨_, _, rfl, rfl, q⟩
/-- is None | True | False -/
def cOf : Option Bool → Const
  | none => .none
  | some b => .bool b
def cV : Option Bool → V
  | none => .non
  | some b => .bl b
theorem isD_of {d : D} {v : V} (c : Option Bool) (h : Rq K Z H d v) : isD c d = decide (v = cV c) := by
  cases d with
  | non =>
    obtain rfl := rq_non h
    cases c <;> rfl
  | bl b =>
    obtain rfl := rq_bl h
    cases c with
    | none => rfl
    | some b' => cases b <;> cases b' <;> rfl
  | int b =>
    obtain rfl := rq_int h
    cases c <;> rfl
  | str b =>
    obtain rfl := rq_str h
    cases c <;> rfl
  | tup b =>
    obtain ⟨a, xs, rfl, _⟩ := rq_tup h
    cases c <;> rfl
  | lst b =>
    obtain ⟨a, xs, rfl, _⟩ := h
    cases c <;> rfl
end
/-! ### is -/
def rIs (K : PySem.W.Frag) (neg : Bool) (c : Option Bool) : V → Hp → VK → Prop := fun x H Q => ∃ Z d, Rq K Z H d x ∧ Q (.bl (isD c d != neg)) H
section
variable {X : Cx}
theorem is_con {c : Option Bool} {cv v : Value} {x : V} (hc : RelV (cV c) cv) (hx : RelV x v) {Z : Addr → Prop} {H : Hp} {d : D} (h : Rq X.K Z H d x) : PySem.plainIs v cv = true ∧ (v == cv) = isD c d := by
  rw [isD_of c h]
  have pl : ∀ w, (w = Value.none ∨ ∃ b, w = Value.bool b) → PySem.plainIs v w = true := fun w hw => by
    cases x <;> first
      | (cases hx; rcases hw with rfl | ⟨b, rfl⟩ <;> rfl)
      | (obtain ⟨t, rfl⟩ := hx; rcases hw with rfl | ⟨b, rfl⟩ <;> rfl)
  cases c with
  | none =>
    cases hc
    refine ⟨pl _ (.inl rfl), ?_⟩
    · rw [hx.none_iff]; rfl
  | some b =>
    cases hc
    refine ⟨pl _ (.inr ⟨b, rfl⟩), ?_⟩
    · cases x with
      | bl y => cases hx; cases y <;> cases b <;> rfl
      | non => cases hx; rfl
      | int i => obtain ⟨t, rfl⟩ := hx; rfl
      | str i => obtain ⟨t, rfl⟩ := hx; rfl
      | byt i => obtain ⟨t, rfl⟩ := hx; rfl
      | flt i => obtain ⟨t, rfl⟩ := hx; rfl
      | ref i => cases hx; rfl
      | ty i => cases hx; rfl
theorem pe_isC {a : Expr} {c : Option Bool} {ta : TE} {k : Nat} {pos pos' : Pos} (neg : Bool) (ha : PE X a ta) :
    PE X (.Compare a [if neg then .IsNot else .Is] [.Constant (cOf c) k pos'] pos) (fun σ H Q => ta σ H fun x H1 => rIs X.K neg c x H1 Q) := by
  refine ⟨fun pins s σ H Q I h => ?_⟩
  have con : ∀ {Q' : Value → Shared → Prop} {s1 : Shared} {H1 : Hp}, Inv X pins σ H1 s1 → (∀ cv s2, RelV (cV c) cv → Inv X pins σ H1 s2 → Q' cv s2) → wpAny (model X.prog X.w) X.A (eval (.Constant (cOf c) k pos') X.env) Q' X.xe s1 := fun {Q' s1 H1} I1 q => by
    cases c with
    | none => exact Constant_none (q _ _ rfl I1)
    | some b => exact Constant_bool (q _ _ rfl I1)
  refine wpAny_Compare1 ?_ (by cases neg <;> rfl)
  refine thn (ha.run pins s σ H _ I h) fun v s1 ⟨x, H1, I1, r1, Z, d, hd, q⟩ => ?_
  refine con I1 fun cv s2 hc I2 => ?_
  obtain ⟨hp, he⟩ := is_con (X := X) hc r1 hd
  cases neg with
  | false =>
    refine wpAny_is_plain hp ?_
    rw [he]
    exact ⟨.bl _, H1, I2, rfl, by simpa using q⟩
  | true =>
    refine wpAny_isNot_plain hp ?_
    rw [he]
    exact ⟨.bl _, H1, I2, rfl, by simpa using q⟩
end
end Pv
set_option maxRecDepth 100000
set_option maxHeartbeats 2000000
namespace Pv
open PySem PySem.Spec PyProof.Rows L2
section
variable {X : Cx} {K : PySem.W.Frag} {Z : Addr → Prop} {H : Hp}
theorem at_of {ds : List D} {xs : List V} {i : Int} {d : D} (h : Rps K Z H ds xs) (e : atD ds i = some d) : ∃ v, atI xs i = some v ∧ Rp K Z H d v := by
  have hl := h.len
  unfold atD at e
  unfold atI ixN
  split at e
  · rename_i h0
    obtain ⟨v, hv, r⟩ := h.get e
    have lt : i.toNat < xs.length := (List.getElem?_eq_some_iff.mp hv).1
    refine ⟨v, ?_, r⟩
    rw [if_pos h0, if_pos (by omega)]
    exact hv
  · rename_i h0
    split at e
    · rename_i h1
      obtain ⟨v, hv, r⟩ := h.get e
      refine ⟨v, ?_, r⟩
      rw [if_neg h0, if_pos (by rw [hl]; exact h1), hl]
      exact hv
    · cases e
def rIxD (K : PySem.W.Frag) : R2 := fun x y H Q => ∃ Z d d' r, Rq K Z H d x ∧ Rq K Z H d' y ∧ ixD d d' = some r ∧ ∀ v, Rp K Z H r v → Q v H
theorem ixR : IxR X (rIxD X.K) := by
  intro value slice pins s σ H x y v u Q I r1 r2 hh hs
  obtain ⟨Z, d, d', r, hx, hy, hg, q⟩ := hh
  cases d <;> cases d' <;> simp only [ixD] at hg <;> try (cases hg; done)
  · obtain ⟨a, xs, rfl, h1, h2⟩ := rq_tup hx
    obtain rfl := rq_int hy
    obtain ⟨w, hw, rw'⟩ := at_of h2 hg
    exact ix_tup value slice pins s σ H _ _ v u Q I r1 r2 ⟨a, xs, _, w, rfl, rfl, SqT.of h1, hw, q w rw'⟩ hs
  · obtain ⟨a, xs, rfl, h1, h2⟩ := hx
    obtain rfl := rq_int hy
    obtain ⟨w, hw, rw'⟩ := at_of h2 hg
    exact ix_list value slice pins s σ H _ _ v u Q I r1 r2 ⟨a, xs, _, w, rfl, rfl, h1, hw, q w rw'⟩ hs
theorem end_eq (n d : Nat) (o : Option Int) : HT.sIx n d o = endIx n d o := by cases o <;> rfl
theorem cut_of {ds : List D} {xs : List V} (h : Rps K Z H ds xs) (lo hi : Option Int) : Rps K Z H (cutD ds lo hi) (cutV xs lo hi) := by
  unfold cutD cutV
  rw [end_eq, end_eq, h.len]
  exact (h.drop _).take _
def rSlD (K : PySem.W.Frag) : V → Option Int → Option Int → Hp → VK → Prop := fun x lo hi H Q => ∃ Z d s, Rq K Z H d x ∧ slD d lo hi = some s ∧ ∀ v H', Same H H' → NewR K Z H H' s v → Q v H'
theorem slR : SlR X (rSlD X.K) := by
  intro pins s σ H x v vl vu lo hi sl Q I rx hs pl pu hh
  obtain ⟨Z, d, r, hx, hg, q⟩ := hh
  cases d <;> simp only [slD] at hg <;> try (cases hg; done)
  · cases hg
    obtain ⟨a, xs, rfl, h1, h2⟩ := rq_tup hx
    refine sl_tupA pins s σ H _ v vl vu lo hi sl Q I rx hs pl pu ⟨a, xs, rfl, SqT.of h1, fun w => q _ H (Same.refl H) ?_, fun w p hp => ?_⟩
    · have e : cutV xs lo hi = xs := by
        unfold cutV
        rw [w.1, w.2]
        simp
      have := cut_of h2 lo hi
      rw [e] at this
      exact mk_tup h1 this
    · have sm := same_new (o := .tup (cutV xs lo hi)) hp
      exact q _ _ sm (mk_tup upd_same ((cut_of h2 lo hi).mono (Same.keep sm) fun _ z => z))
  · cases hg
    obtain ⟨a, xs, rfl, h1, h2⟩ := hx
    refine sl_list pins s σ H _ v vl vu lo hi sl Q I rx hs pl pu ⟨a, xs, rfl, h1, fun p hp => ?_⟩
    have sm := same_new (o := .lst (cutV xs lo hi)) hp
    exact q _ _ sm ⟨p, _, rfl, hp, upd_same, (cut_of h2 lo hi).mono (Same.keep sm) fun _ z => z⟩
/-- truth -/
theorem tru_of {d : D} {v : V} {b : Bool} (h : Rq K Z H d v) (e : truthD d = some b) : TruV K v H b := by
  cases d with
  | non =>
    obtain rfl := rq_non h
    cases e
    rfl
  | bl c =>
    obtain rfl := rq_bl h
    cases e
    rfl
  | int i =>
    obtain rfl := rq_int h
    cases e
    rfl
  | str x =>
    obtain rfl := rq_str h
    simp only [truthD] at e
    split at e
    · rename_i hl
      cases e
      exact ⟨by rw [← sizeMax_eq]; exact hl, rfl⟩
    · cases e
  | tup ds =>
    obtain ⟨a, xs, rfl, h1, h2⟩ := rq_tup h
    cases e
    refine .inr (.inl ⟨xs, SqT.of h1, ?_⟩)
    have := h2.len
    cases ds <;> cases xs <;> first | rfl | simp at this
  | lst ds =>
    obtain ⟨a, xs, rfl, h1, h2⟩ := h
    cases e
    refine .inl ⟨xs, h1, ?_⟩
    have := h2.len
    cases ds <;> cases xs <;> first | rfl | simp at this
/-! ### built-ins -/
theorem ints_of : ∀ {ds : List D} {xs : List V} {ns : List Int}, Rps K Z H ds xs → intL ds = some ns → xs = ns.map V.int
  | [], _, ns, h, e => by
    rw [rps_nil_inv h]
    cases e
    rfl
  | d :: ds, _, ns, h, e => by
    obtain ⟨x, r, rfl, h1, h2⟩ := rps_inv h
    cases d <;> simp only [intL] at e <;> try (cases e; done)
    rename_i i
    rw [Option.map_eq_some_iff] at e
    obtain ⟨ms, e1, rfl⟩ := e
    rw [rp_int h1, ints_of h2 e1]
    rfl
theorem bools_of : ∀ {ds : List D} {xs : List V} {ns : List Bool}, Rps K Z H ds xs → boolL ds = some ns → xs = ns.map V.bl
  | [], _, ns, h, e => by
    rw [rps_nil_inv h]
    cases e
    rfl
  | d :: ds, _, ns, h, e => by
    obtain ⟨x, r, rfl, h1, h2⟩ := rps_inv h
    cases d <;> simp only [boolL] at e <;> try (cases e; done)
    rename_i i
    rw [Option.map_eq_some_iff] at e
    obtain ⟨ms, e1, rfl⟩ := e
    rw [rp_bl h1, bools_of h2 e1]
    rfl
theorem maxL_spec : ∀ {ns : List Int} {m : Int}, maxL ns = some m → m ∈ ns ∧ ∀ y ∈ ns, y ≤ m := by
  have go : ∀ (l : List Int) (x : Int), (l.foldl max x = x ∨ l.foldl max x ∈ l) ∧ x ≤ l.foldl max x ∧ ∀ y ∈ l, y ≤ l.foldl max x := by
    intro l
    induction l with
    | nil => intro x; exact ⟨.inl rfl, Int.le_refl _, fun y hy => by cases hy⟩
    | cons z l ih =>
      intro x
      obtain ⟨a, b, c⟩ := ih (max x z)
      rw [List.foldl_cons]
      refine ⟨?_, by omega, fun y hy => ?_⟩
      · rcases a with a | a
        · rcases Int.le_total x z with q | q
          · right
            rw [a, Int.max_eq_right q]
            exact List.mem_cons_self
          · left
            rw [a, Int.max_eq_left q]
        · exact .inr (List.mem_cons_of_mem _ a)
      · rcases List.mem_cons.mp hy with rfl | hy
        · omega
        · exact c y hy
  intro ns m h
  cases ns with
  | nil => cases h
  | cons x r =>
    cases h
    obtain ⟨a, b, c⟩ := go r x
    refine ⟨?_, fun y hy => ?_⟩
    · rcases a with a | a
      · rw [a]; exact List.mem_cons_self
      · exact List.mem_cons_of_mem _ a
    · rcases List.mem_cons.mp hy with rfl | hy
      · exact b
      · exact c y hy
theorem minL_spec : ∀ {ns : List Int} {m : Int}, minL ns = some m → m ∈ ns ∧ ∀ y ∈ ns, m ≤ y := by
  have go : ∀ (l : List Int) (x : Int), (l.foldl min x = x ∨ l.foldl min x ∈ l) ∧ l.foldl min x ≤ x ∧ ∀ y ∈ l, l.foldl min x ≤ y := by
    intro l
    induction l with
    | nil => intro x; exact ⟨.inl rfl, Int.le_refl _, fun y hy => by cases hy⟩
    | cons z l ih =>
      intro x
      obtain ⟨a, b, c⟩ := ih (min x z)
      rw [List.foldl_cons]
      refine ⟨?_, by omega, fun y hy => ?_⟩
      · rcases a with a | a
        · rcases Int.le_total x z with q | q
          · left
            rw [a, Int.min_eq_left q]
          · right
            rw [a, Int.min_eq_right q]
            exact List.mem_cons_self
        · exact .inr (List.mem_cons_of_mem _ a)
      · rcases List.mem_cons.mp hy with rfl | hy
        · omega
        · exact c y hy
  intro ns m h
  cases ns with
  | nil => cases h
  | cons x r =>
    cases h
    obtain ⟨a, b, c⟩ := go r x
    refine ⟨?_, fun y hy => ?_⟩
    · rcases a with a | a
      · rw [a]; exact List.mem_cons_self
      · exact List.mem_cons_of_mem _ a
    · rcases List.mem_cons.mp hy with rfl | hy
      · exact b
      · exact c y hy
end
end Pv
set_option maxRecDepth 100000
set_option maxHeartbeats 4000000
/-! max, min, sum, sorted of tuples; the built-ins by values -/
namespace PySem
open PySem.W PySem.Calls PyProof.Rows
namespace PvM
section
variable {prog : Program} {w : World} {A : Around} {E : Value → Shared → Prop} {s : Shared} {l : Addr}
theorem walkT {xs : Array (Int × Tok)} {Q : Value → Shared → Prop} (ht : s.heap.IsTuple l (intItems xs))
    (q : ∀ s₂ : Shared, s₂ = { s with heap := s.heap.push { cls := .type "tuple_iterator", data := .fields #[.ref l, .int 0 0] } } → (s₂.heap.IsTupleIter s.heap.objs.size l 0 ∧ s₂.heap.IsTuple l (intItems xs)) →
      (∀ b ∈ [s.heap.objs.size, l], b < s₂.heap.objs.size) → l ≠ s.heap.objs.size → Q (.ref s.heap.objs.size) s₂) : wpAny (model prog w) A (pyIter (.ref l)) Q E s := by
  obtain ⟨o, ho, hc, n, hd⟩ := id ht
  have lt := Heap.lt_size ho
  refine wpAny_pyIter_tuple ht (q _ rfl ⟨⟨_, Heap.get?_push_size _ rfl, rfl, rfl⟩, ht.push _⟩ ?_ (Nat.ne_of_lt lt))
  intro b hb
  show b < Array.size (Heap.objs (s.heap.push _))
  rw [Heap.size_push]
  simp only [List.mem_cons, List.not_mem_nil, or_false] at hb
  rcases hb with e | e
  · rw [e]; exact Nat.lt_succ_self _
  · rw [e]; exact Nat.lt_succ_of_lt lt
theorem oldT {h' : Heap} (k : ∀ b o, b ∉ [s.heap.objs.size] → (s.heap.push { cls := .type "tuple_iterator", data := .fields #[.ref l, .int 0 0] }).get? b = some o → h'.get? b = some o) : ∀ b o, s.heap.get? b = some o → h'.get? b = some o := by
  intro b o e
  refine k b o ?_ (Heap.get?_push_of_some _ e)
  intro m
  have e2 : b = s.heap.objs.size := List.mem_singleton.mp m
  exact Nat.lt_irrefl _ (e2 ▸ Heap.lt_size e)
theorem maxT0 {xs : Array (Int × Tok)} {Q : Value → Shared → Prop} (hh : A.handled = none) (ht : s.heap.IsTuple l (intItems xs)) (h0 : 0 < xs.size)
    (q : ∀ v h' tk, (intItems xs)[argBest (fun i j => decide (numAt xs i > numAt xs j)) (xs.size - 1)]? = some v → (∀ b o, s.heap.get? b = some o → h'.get? b = some o) → Q v { s with heap := h', toks := tk }) : wpAny (model prog w) A (call (.builtin "max") [.ref l]) Q E s := by
  refine call_max_walk (walkT ht fun s₂ e st hf hl => ?_)
  subst e
  exact ⟨_, _, _, _, _, _, _, rfl, Walks.tuple (A := A.in1) hh _ l hl (intItems xs), st, hf, by simpa [intItems] using h0, CmpOf.ints_gt (numAt xs) (fun _ _ => intItems_at), fun v h' tk hP hk => q v h' tk (by simpa [intItems] using hP) (oldT hk)⟩
theorem minT0 {xs : Array (Int × Tok)} {Q : Value → Shared → Prop} (hh : A.handled = none) (ht : s.heap.IsTuple l (intItems xs)) (h0 : 0 < xs.size)
    (q : ∀ v h' tk, (intItems xs)[argBest (fun i j => decide (numAt xs i < numAt xs j)) (xs.size - 1)]? = some v → (∀ b o, s.heap.get? b = some o → h'.get? b = some o) → Q v { s with heap := h', toks := tk }) : wpAny (model prog w) A (call (.builtin "min") [.ref l]) Q E s := by
  refine call_min_walk (walkT ht fun s₂ e st hf hl => ?_)
  subst e
  exact ⟨_, _, _, _, _, _, _, rfl, Walks.tuple (A := A.in1) hh _ l hl (intItems xs), st, hf, by simpa [intItems] using h0, CmpOf.ints_lt (numAt xs) (fun _ _ => intItems_at), fun v h' tk hP hk => q v h' tk (by simpa [intItems] using hP) (oldT hk)⟩
theorem collectT {vs : List Value} {Q : List Value → Shared → Prop} (hl : s.heap.IsTuple l vs.toArray) (hsz : vs.length ≤ sizeLine)
    (q : Q vs { s with heap := (s.heap.push (seqObj "list" #[] 0)).update s.heap.objs.size (Obj.mapSeq (· ++ vs.toArray)) }) : wpAny (model prog w) A (collect (.ref l)) Q E s := by
  obtain ⟨o, ho, hc, n, hd⟩ := id hl
  unfold collect
  refine wpAny_bind (wpAny_runValue (codeAny_builtin entry_proto_collect' ?_))
  show wpAny _ _ (newList [] >>= fun r => again (.builtin "list.__iadd__" ⟨[r, .ref l], []⟩)) _ _ s
  refine wpAny_bind (wpAny_newList (wpAny_pure ⟨Code.quiet_builtin _ (by decide +kernel), codeAny_builtin entry_list_iadd' ?_⟩))
  show wpAny _ _ (Builtin.List.listExtendWith (Value.ref s.heap.objs.size) (Value.ref l) (Value.ref s.heap.objs.size)) _ _ ({ s with heap := s.heap.push (seqObj "list" #[] 0) } : Shared)
  unfold Builtin.List.listExtendWith
  have ho2 : (s.heap.push (seqObj "list" #[] 0)).get? l = some o := Heap.get?_push_of_some _ ho
  refine wpAny_bind (wpAny_typeOf (T := "tuple") ⟨o, ho2, hc⟩ ?_)
  have yes : (Value.type "tuple" == Value.type "tuple") = true := by rfl
  rw [if_pos (by rw [yes, Bool.or_true])]
  refine wpAny_bind (listItems_at ho2 hd (wpAny_bind (listItems_at (xs := #[]) (n := 0) (Heap.get?_push_size _ rfl) rfl ?_)))
  rw [if_neg (by simp)]
  refine wpAny_bind (listUpdate_at (xs := #[]) (n := 0) (Heap.get?_push_size _ rfl) rfl ?_ (Nat.zero_le _) ?_)
  · refine wpAny_pure ?_
    show wpAny (model prog w) A (load s.heap.objs.size >>= fun o => match o.data with
        | .seq xs _ => pure xs.toList
        | _ => unsupported "internal:collect") Q E ({ s with heap := (s.heap.push (seqObj "list" #[] 0)).update s.heap.objs.size (Obj.mapSeq (· ++ vs.toArray)) } : Shared)
    refine wpAny_bind (wpAny_load (get?_update_seq (Heap.get?_push_size _ rfl) _) ?_)
    have e : (Array.append (#[] : Array Value) vs.toArray).toList = vs := by simp
    show wpAny _ _ (pure (Array.append (#[] : Array Value) vs.toArray).toList) Q E _
    rw [e]
    exact wpAny_pure q
  · have z : (Array.append (#[] : Array Value) vs.toArray).size = vs.length := by simp
    show (Array.append (#[] : Array Value) vs.toArray).size ≤ _
    omega
theorem sortedT {vs : List Value} {ltv : Value → Value → Bool} {Q : Value → Shared → Prop} (O : SrtO.Swo ltv) (hl : s.heap.IsTuple l vs.toArray) (hz : vs.length ≤ sizeLine)
    (hS : 2 ≤ vs.length → ∀ (h₁ : Heap) (a : Addr), h₁.get? a = some (seqObj "list" vs.toArray 0) → (∀ b o, s.heap.get? b = some o → b ≠ a ∧ h₁.get? b = some o) → SrtO.SortableO prog w A.in1.in1 { s with heap := h₁ } a vs ltv)
    (q : ∀ out : List Value, SrtO.Srtd ltv out → SrtO.Stb ltv out vs → Q (.ref (s.heap.objs.size + 1)) { s with heap := sortedAll s.heap vs out.toArray }) : wpAny (model prog w) A (call (.builtin "sorted") [.ref l]) Q E s := by
  refine Calls.call_function_entry kind_sorted plain_sorted entry_sorted (args_sorted1 _) ?_
  unfold Builtin.«sorted»
  refine wpAny_bind (m := checkCount "sorted" 1 1 _) (wpAny_pure (wpAny_bind (collectT hl hz (wpAny_bind (wpAny_newList ?_ hz)))))
  generalize hB : (s.heap.push (seqObj "list" #[] 0)).update s.heap.objs.size (Obj.mapSeq (· ++ vs.toArray)) = B
  have hB' : B.objs.size = s.heap.objs.size + 1 := by rw [← hB, Heap.size_update, size_push']
  have hoL : (B.push (seqObj "list" vs.toArray 0)).get? (s.heap.objs.size + 1) = some (seqObj "list" vs.toArray 0) := by
    rw [← hB']
    exact Heap.get?_push_size _ rfl
  have keep : ∀ b o, s.heap.get? b = some o → b ≠ s.heap.objs.size + 1 ∧ (B.push (seqObj "list" vs.toArray 0)).get? b = some o := by
    intro b o e
    have lt := Heap.lt_size e
    refine ⟨Nat.ne_of_lt (Nat.lt_succ_of_lt lt), Heap.get?_push_of_some _ ?_⟩
    rw [← hB, Heap.get?_update_ne _ _ _ _ (Nat.ne_of_lt lt)]
    exact Heap.get?_push_of_some _ e
  show wpAny _ _ _ _ _ ({ s with heap := B.push (seqObj "list" vs.toArray 0) } : Shared)
  rw [hB']
  refine wpAny_bind (wpAny_holding (wpAny_call_entry slot_list_sort ⟨_, hoL, rfl⟩ entry_list_sort (SrtO.list_sort_ord O hoL hz (fun h2 => hS h2 _ _ hoL keep) fun out h1 h2 => ⟨_, rfl, ?_⟩) (args_list_sort _)))
  refine wpAny_pure ⟨_, rfl, ?_⟩
  rw [← hB]
  exact q out h1 h2
end
end PvM
end PySem
namespace Pv
open PySem PySem.Spec PyProof.Rows L2
section
variable {X : Cx}
theorem sumT (hc : X.calm = true) : CallR X (.builtin "sum") (fun vs H Q => ∃ (a : Addr) (ns : List Int), vs = [V.ref a] ∧ SqT X.K H a (ns.map V.int) ∧ Q (.int ns.sum) H) := by
  intro pins s σ H vs us Q I r h
  obtain ⟨a, ns, rfl, hs, q⟩ := h
  obtain ⟨its, rv, hl, _⟩ := I.tuple hs
  rw [Vals.ref1 r]
  have hi := rv.ints
  obtain ⟨xs, e⟩ := hi.allInts.items
  have hn : numsOf (intItems xs).toList = ns := by rw [← e]; exact hi.numsOf
  rw [nums_intItems] at hn
  rw [e] at hl
  refine PySem.W.ktm_sumG (I.ok.hd hc) hl fun h' tk t' hk => ?_
  refine ⟨.int _, H, I.kept hk, ⟨_, rfl⟩, ?_⟩
  rw [preSum_eq, List.take_of_length_le (by simp), hn]
  exact q
theorem maxT (hc : X.calm = true) : CallR X (.builtin "max") (fun vs H Q => ∃ (a : Addr) (ns : List Int), vs = [V.ref a] ∧ SqT X.K H a (ns.map V.int) ∧ 0 < ns.length ∧ ∀ m, m ∈ ns → (∀ y, y ∈ ns → y ≤ m) → Q (.int m) H) := by
  intro pins s σ H vs us Q I r h
  obtain ⟨a, ns, rfl, hs, hne, q⟩ := h
  obtain ⟨its, rv, hl, _⟩ := I.tuple hs
  rw [Vals.ref1 r]
  have hi := rv.ints
  obtain ⟨xs, e⟩ := hi.allInts.items
  have hn : numsOf (intItems xs).toList = ns := by rw [← e]; exact hi.numsOf
  rw [nums_intItems] at hn
  subst hn
  rw [e] at hl
  have h0 : 0 < xs.size := by simpa using hne
  refine PySem.PvM.maxT0 (I.ok.hd hc) hl h0 fun v h' tk hv hk => ?_
  obtain ⟨t, rfl⟩ := intItems_at hv
  obtain ⟨h1, h2⟩ := argBest_gt (numAt xs) (xs.size - 1)
  refine ⟨.int _, H, I.kept hk, ⟨_, rfl⟩, q _ ?_ fun y hy => ?_⟩
  · rw [numAt_eq]
    exact PySem.getD_mem (by rw [List.length_map, Array.length_toList]; omega)
  · obtain ⟨j, hj, rfl⟩ := mem_getD hy
    rw [List.length_map, Array.length_toList] at hj
    rw [← numAt_eq]
    exact h2 j (by omega)
theorem minT (hc : X.calm = true) : CallR X (.builtin "min") (fun vs H Q => ∃ (a : Addr) (ns : List Int), vs = [V.ref a] ∧ SqT X.K H a (ns.map V.int) ∧ 0 < ns.length ∧ ∀ m, m ∈ ns → (∀ y, y ∈ ns → m ≤ y) → Q (.int m) H) := by
  intro pins s σ H vs us Q I r h
  obtain ⟨a, ns, rfl, hs, hne, q⟩ := h
  obtain ⟨its, rv, hl, _⟩ := I.tuple hs
  rw [Vals.ref1 r]
  have hi := rv.ints
  obtain ⟨xs, e⟩ := hi.allInts.items
  have hn : numsOf (intItems xs).toList = ns := by rw [← e]; exact hi.numsOf
  rw [nums_intItems] at hn
  subst hn
  rw [e] at hl
  have h0 : 0 < xs.size := by simpa using hne
  refine PySem.PvM.minT0 (I.ok.hd hc) hl h0 fun v h' tk hv hk => ?_
  obtain ⟨t, rfl⟩ := intItems_at hv
  obtain ⟨h1, h2⟩ := argBest_lt (numAt xs) (xs.size - 1)
  refine ⟨.int _, H, I.kept hk, ⟨_, rfl⟩, q _ ?_ fun y hy => ?_⟩
  · rw [numAt_eq]
    exact PySem.getD_mem (by rw [List.length_map, Array.length_toList]; omega)
  · obtain ⟨j, hj, rfl⟩ := mem_getD hy
    rw [List.length_map, Array.length_toList] at hj
    rw [← numAt_eq]
    exact h2 j (by omega)
theorem sortIT : CallR X (.builtin "sorted") (fun vs H Q => ∃ (a : Addr) (ns : List Int), vs = [V.ref a] ∧ SqT X.K H a (ns.map V.int) ∧
    ∀ (ns' : List Int) (p : Addr), ns'.Perm ns → ns'.Pairwise (· ≤ ·) → H p = none → Q (.ref p) (upd H p (.lst (ns'.map V.int)))) := by
  intro pins s σ H vs us Q I r h
  obtain ⟨a, ns, rfl, hs, q⟩ := h
  obtain ⟨its, rv, hl, hz⟩ := I.tuple hs
  rw [Vals.ref1 r]
  have hi := rv.ints
  have hz2 : its.length ≤ sizeLine := by rw [← rv.length]; exact hz
  refine PySem.PvM.sortedT SrtO.swo_int hl hz2 (fun h2 h₁ a' _ _ => SrtO.ints_sortable hi h2) fun out h1 h2 => ?_
  obtain ⟨k1, k2, k3⟩ := SrtO.ints_out hi h1 h2
  obtain ⟨ep, he⟩ := PyProof.Rows.sortedAll_at s.heap its out.toArray
  have hlen : List.length (List.map V.int (out.map SrtO.iv)) ≤ sizeLine := by
    rw [List.length_map, k2.length_eq]
    rw [List.length_map] at hz
    exact hz
  exact ⟨.ref _, upd H (s.heap.objs.size + 1) (.lst ((out.map SrtO.iv).map V.int)), I.laid (t' := s.toks) (fun _ _ => PyProof.Rows.sortedAll_old) (Nat.le_succ _) ⟨hlen, out, ep, vals_of_ints k1, he⟩, rfl, q _ _ k2 k3 (I.hok.fresh (Nat.le_succ _))⟩
theorem sortPT : CallR X (.builtin "sorted") (fun vs H Q => ∃ (a : Addr) (xs : List V) (k : V → Int × Int), vs = [V.ref a] ∧ SqT X.K H a xs ∧ (∀ x ∈ xs, ∃ t, x = V.ref t ∧ H t = some (.tup [.int (k x).1, .int (k x).2])) ∧
    ∀ ys p, SrtO.Srtd (ltP k) ys → SrtO.Stb (ltP k) ys xs → H p = none → Q (.ref p) (upd H p (.lst ys))) := by
  intro pins s σ H vs us Q I r h
  obtain ⟨a, xs, k, rfl, hs, hx, q⟩ := h
  obtain ⟨its, rv, hl, hz⟩ := I.tuple hs
  obtain ⟨u, rfl, ru⟩ := vals1 r
  obtain rfl : u = Value.ref a := ru
  obtain ⟨e1, e2⟩ := refs_back rv fun x m => let ⟨t, e, _⟩ := hx x m; ⟨t, e⟩
  have hz2 : its.length ≤ sizeLine := by rw [← rv.length]; exact hz
  have hp : ∀ v ∈ its, Srt.IsPair s.heap v (k (backV v)).1 (k (backV v)).2 := fun v hv => by
    obtain ⟨t, rfl⟩ := e2 v hv
    have hm : V.ref t ∈ xs := by rw [e1]; exact List.mem_map.mpr ⟨_, hv, rfl⟩
    obtain ⟨t', e, ht⟩ := hx _ hm
    cases e
    obtain ⟨_, its2, r2, o, ho, hc, n, hd⟩ := I.hok _ _ ht
    obtain ⟨u1, u2, rfl, ri, rj⟩ := vals2 r2
    obtain ⟨t1, rfl⟩ := ri
    obtain ⟨t2, rfl⟩ := rj
    exact ⟨t, o, t1, t2, n, rfl, ho, hc, hd⟩
  refine PySem.PvM.sortedT (SrtO.swo_lex fun u => k (backV u)) hl hz2 (fun h2 h₁ a' ha kk => ?_) fun out h1 h2 => ?_
  · refine SrtO.pairs_sortableO (s := { s with heap := h₁ }) (by omega) (fun v hm => (hp v hm).keeps fun b o e _ => (kk b o e).2) fun o e => ?_
    have e' : some o = some (seqObj "list" its.toArray 0) := e.symm.trans ha
    cases e'
    intro c
    exact absurd (Value.type.inj c) (by decide)
  · have h3 : ∀ u ∈ out, ∃ a, u = Value.ref a := fun u hu => e2 u (h2.perm.mem_iff.mp hu)
    obtain ⟨n, hn⟩ := PyProof.Rows.sortedAll_at s.heap its out.toArray
    have hb : SrtO.Stb (ltP k) (out.map backV) xs := by
      rw [e1]
      exact SrtO.Stb.map (ltP_swo k) backV h2
    have hlen : (out.map backV).length ≤ sizeLine := by rw [hb.len]; exact hz
    exact ⟨.ref (s.heap.objs.size + 1), upd H (s.heap.objs.size + 1) (.lst (out.map backV)), I.laid (t' := s.toks) (fun _ _ => PyProof.Rows.sortedAll_old) (Nat.le_succ _) ⟨hlen, out, n, vals_back h3, hn⟩, rfl, q _ _ (SrtO.srtd_map h1) hb (I.hok.fresh (Nat.le_succ _))⟩
end
end Pv
set_option maxRecDepth 100000
set_option maxHeartbeats 4000000
namespace Pv
open PySem PySem.Spec PyProof.Rows L2
/-! ### sorting -/
theorem insI_perm (x : Int) : ∀ l : List Int, (insI x l).Perm (x :: l)
  | [] => .refl _
  | y :: r => by
    unfold insI
    split
    · exact .refl _
    · exact (List.Perm.cons y (insI_perm x r)).trans (List.Perm.swap x y r)
theorem insI_sorted (x : Int) : ∀ {l : List Int}, l.Pairwise (· ≤ ·) → (insI x l).Pairwise (· ≤ ·)
  | [], _ => List.pairwise_singleton _ _
  | y :: r, h => by
    unfold insI
    split
    · rename_i hx
      refine List.pairwise_cons.mpr ⟨fun z hz => ?_, h⟩
      rcases List.mem_cons.mp hz with rfl | hz
      · exact hx
      · exact Int.le_trans hx ((List.pairwise_cons.mp h).1 z hz)
    · rename_i hx
      refine List.pairwise_cons.mpr ⟨fun z hz => ?_, insI_sorted x (List.pairwise_cons.mp h).2⟩
      rcases List.mem_cons.mp ((insI_perm x r).mem_iff.mp hz) with rfl | hz
      · omega
      · exact (List.pairwise_cons.mp h).1 z hz
theorem sortI_perm : ∀ l : List Int, (sortI l).Perm l
  | [] => .refl _
  | x :: r => (insI_perm x (sortI r)).trans (List.Perm.cons x (sortI_perm r))
theorem sortI_sorted : ∀ l : List Int, (sortI l).Pairwise (· ≤ ·)
  | [] => List.Pairwise.nil
  | x :: r => insI_sorted x (sortI_sorted r)
theorem sortI_uniq {a l : List Int} (hp : a.Perm l) (hs : a.Pairwise (· ≤ ·)) : a = sortI l :=
  (hp.trans (sortI_perm l).symm).eq_of_pairwise (fun x y _ _ h1 h2 => Int.le_antisymm h1 h2) hs (sortI_sorted l)
theorem leP_iff {p q : Int × Int} : leP p q = true ↔ p.1 < q.1 ∨ (p.1 = q.1 ∧ p.2 ≤ q.2) := by
  unfold leP
  simp only [Bool.or_eq_true, Bool.and_eq_true, decide_eq_true_eq]
theorem insP_perm (x : Int × Int) : ∀ l, (insP x l).Perm (x :: l)
  | [] => .refl _
  | y :: r => by
    unfold insP
    split
    · exact .refl _
    · exact (List.Perm.cons y (insP_perm x r)).trans (List.Perm.swap x y r)
theorem insP_sorted (x : Int × Int) : ∀ {l : List (Int × Int)}, l.Pairwise (fun p q => leP p q = true) → (insP x l).Pairwise (fun p q => leP p q = true)
  | [], _ => List.pairwise_singleton _ _
  | y :: r, h => by
    unfold insP
    split
    · rename_i hx
      refine List.pairwise_cons.mpr ⟨fun z hz => ?_, h⟩
      rcases List.mem_cons.mp hz with rfl | hz
      · exact hx
      · have h2 := (List.pairwise_cons.mp h).1 z hz
        rw [leP_iff] at hx h2 ⊢
        omega
    · rename_i hx
      refine List.pairwise_cons.mpr ⟨fun z hz => ?_, insP_sorted x (List.pairwise_cons.mp h).2⟩
      rcases List.mem_cons.mp ((insP_perm x r).mem_iff.mp hz) with rfl | hz
      · rw [leP_iff] at hx ⊢
        omega
      · exact (List.pairwise_cons.mp h).1 z hz
theorem sortP_perm : ∀ l, (sortP l).Perm l
  | [] => .refl _
  | x :: r => (insP_perm x (sortP r)).trans (List.Perm.cons x (sortP_perm r))
theorem sortP_sorted : ∀ l, (sortP l).Pairwise (fun p q => leP p q = true)
  | [] => List.Pairwise.nil
  | x :: r => insP_sorted x (sortP_sorted r)
theorem sortP_uniq {a l : List (Int × Int)} (hp : a.Perm l) (hs : a.Pairwise (fun p q => leP p q = true)) : a = sortP l :=
  (hp.trans (sortP_perm l).symm).eq_of_pairwise (fun x y _ _ h1 h2 => by
    rw [leP_iff] at h1 h2
    exact Prod.ext (by omega) (by omega)) hs (sortP_sorted l)
/-- the pair of ints that stands at x -/
def pairAt (H : Hp) : V → Int × Int
  | .ref t => (match H t with
    | some (.tup [.int i, .int j]) => (i, j)
    | _ => (0, 0))
  | _ => (0, 0)
section
variable {X : Cx} {K : PySem.W.Frag} {Z : Addr → Prop} {H : Hp}
theorem pairL_inv {d : D} {ds : List D} {ps : List (Int × Int)} (h : pairL (d :: ds) = some ps) : ∃ i j qs, d = .tup [.int i, .int j] ∧ pairL ds = some qs ∧ ps = (i, j) :: qs := by
  rw [pairL.eq_def] at h
  split at h
  · rename_i e
    cases e
  · rename_i i j r e
    cases e
    rw [Option.map_eq_some_iff] at h
    obtain ⟨qs, h1, h2⟩ := h
    exact ⟨i, j, qs, rfl, h1, h2.symm⟩
  · cases h
theorem pairs_of : ∀ {ds : List D} {xs : List V} {ps : List (Int × Int)}, Rps K Z H ds xs → pairL ds = some ps →
    xs.map (pairAt H) = ps ∧ ∀ x ∈ xs, ∃ t, x = V.ref t ∧ H t = some (.tup [.int (pairAt H x).1, .int (pairAt H x).2]) := by
  intro ds
  induction ds with
  | nil =>
    intro xs ps h e
    rw [rps_nil_inv h]
    cases e
    exact ⟨rfl, fun x hx => by cases hx⟩
  | cons d ds ih =>
    intro xs ps h e
    obtain ⟨x, r, rfl, h1, h2⟩ := rps_inv h
    obtain ⟨i, j, qs, rfl, e1, rfl⟩ := pairL_inv e
    obtain ⟨a, ys, rfl, ha, hr⟩ := rp_tup h1
    obtain ⟨y1, r1, rfl, p1, hr⟩ := rps_inv hr
    obtain ⟨y2, r2, rfl, p2, hr⟩ := rps_inv hr
    rw [rps_nil_inv hr, rp_int p1, rp_int p2] at ha
    obtain ⟨m1, m2⟩ := ih h2 e1
    have ep : pairAt H (.ref a) = (i, j) := by
      simp only [pairAt, ha]
    refine ⟨by rw [List.map_cons, ep, m1], fun x hx => ?_⟩
    rcases List.mem_cons.mp hx with rfl | hx
    · exact ⟨a, rfl, by rw [ep]; exact ha⟩
    · exact m2 x hx
theorem rps_ints {ns : List Int} : Rps K Z H (ns.map D.int) (ns.map V.int) := by
  induction ns with
  | nil => exact rps_nil
  | cons n ns ih => exact rps_cons (mk_int n) ih
theorem rps_pairs : ∀ {xs : List V}, (∀ x ∈ xs, ∃ t, x = V.ref t ∧ H t = some (.tup [.int (pairAt H x).1, .int (pairAt H x).2])) → Rps K Z H ((xs.map (pairAt H)).map pairD) xs
  | [], _ => rps_nil
  | x :: xs, h => by
    obtain ⟨t, e, ht⟩ := h x List.mem_cons_self
    refine rps_cons ?_ (rps_pairs fun y hy => h y (List.mem_cons_of_mem _ hy))
    rw [e] at ht ⊢
    exact mk_tup ht (rps_cons (mk_int _) (rps_cons (mk_int _) rps_nil))
theorem sorted_go {a : Addr} {xs : List V} {ds : List D} {sl : Sl} {Q : VK} (hr : Rps K Z H ds xs) (hg : sortD ds = some sl) (q : ∀ v H', Same H H' → NewR K Z H H' sl v → Q v H') :
    (∃ ns : List Int, xs = ns.map V.int ∧ ∀ (ns' : List Int) (p : Addr), ns'.Perm ns → ns'.Pairwise (· ≤ ·) → H p = none → Q (.ref p) (upd H p (.lst (ns'.map V.int)))) ∨
    ((∀ x ∈ xs, ∃ t, x = V.ref t ∧ H t = some (.tup [.int (pairAt H x).1, .int (pairAt H x).2])) ∧ ∀ ys p, SrtO.Srtd (ltP (pairAt H)) ys → SrtO.Stb (ltP (pairAt H)) ys xs → H p = none → Q (.ref p) (upd H p (.lst ys))) := by
  unfold sortD at hg
  cases e : intL ds with
  | some ns =>
    rw [e] at hg
    cases hg
    refine .inl ⟨ns, ints_of hr e, fun ns' p hp hs hn => ?_⟩
    rw [sortI_uniq hp hs]
    have sm := same_new (o := .lst ((sortI ns).map V.int)) hn
    exact q _ _ sm ⟨p, _, rfl, hn, upd_same, rps_ints⟩
  | none =>
    rw [e] at hg
    cases e2 : pairL ds with
    | none => rw [e2] at hg; cases hg
    | some ps =>
      rw [e2] at hg
      cases hg
      obtain ⟨m1, m2⟩ := pairs_of hr e2
      refine .inr ⟨m2, fun ys p h1 h2 hn => ?_⟩
      have sm := same_new (o := .lst ys) hn
      refine q _ _ sm ⟨p, ys, rfl, hn, upd_same, ?_⟩
      have hy : ∀ y ∈ ys, ∃ t, y = V.ref t ∧ H t = some (.tup [.int (pairAt H y).1, .int (pairAt H y).2]) := fun y hy => m2 y (h2.perm.mem_iff.mp hy)
      have es : ys.map (pairAt H) = sortP ps := by
        refine sortP_uniq (by rw [← m1]; exact h2.perm.map _) ?_
        refine List.pairwise_map.mpr (h1.imp fun {x y} z => ?_)
        have z := SrtO.lexB_no.mp z
        rw [leP_iff]
        omega
      rw [← es]
      exact (rps_pairs hy).mono (Same.keep sm) fun _ z => z
def biV : Bi → Value
  | .len => .builtin "len" | .abs => .builtin "abs" | .int => .type "int" | .list => .type "list" | .tuple => .type "tuple" | .sum => .builtin "sum"
  | .max => .builtin "max" | .min => .builtin "min" | .sorted => .builtin "sorted" | .all => .builtin "all" | .any => .builtin "any"
  | _ => .none
theorem rqs1 {d : D} {vs : List V} (h : Rqs K Z H [d] vs) : ∃ v, vs = [v] ∧ Rq K Z H d v := by
  obtain ⟨x, r, rfl, h1, h2⟩ := h
  have h2 : r = [] := h2
  exact ⟨x, by rw [h2], h1⟩
theorem rqs2 {d d' : D} {vs : List V} (h : Rqs K Z H [d, d'] vs) : ∃ v w, vs = [v, w] ∧ Rq K Z H d v ∧ Rq K Z H d' w := by
  obtain ⟨x, r, rfl, h1, h2⟩ := h
  obtain ⟨w, e, hw⟩ := rqs1 h2
  exact ⟨x, w, by rw [e], h1, hw⟩
theorem b1_inv {f : D → Option Sl} {ds : List D} {sl : Sl} (h : b1 f ds = some sl) : ∃ d, ds = [d] ∧ f d = some sl := by
  cases ds with
  | nil => cases h
  | cons d r =>
    cases r with
    | nil => exact ⟨d, rfl, h⟩
    | cons _ _ => cases h
/-- a row that is read: where it stands -/
theorem seq_of {d : D} {v : V} {ds : List D} (h : Rq K Z H d v) (e : seqD d = some ds) : ∃ a xs, v = .ref a ∧ (SqL K H a xs ∨ H a = some (.tup xs)) ∧ Rps K Z H ds xs := by
  cases d <;> simp only [seqD] at e <;> try (cases e; done)
  · cases e
    obtain ⟨a, ys, e2, h2, h3⟩ := rq_tup h
    exact ⟨a, ys, e2, .inr h2, h3⟩
  · cases e
    obtain ⟨a, ys, e2, h2, h3⟩ := h
    exact ⟨a, ys, e2, .inl h2, h3⟩
theorem bi_len : CallR X (.builtin "len") (rO1 X.K (b1 lenD)) := by
  intro pins s σ H vs us Q I r hh
  obtain ⟨Z, ds, sl, hr, hg, q⟩ := hh
  obtain ⟨d, hd, hf⟩ := b1_inv hg
  clear hg
  subst hd
  obtain ⟨v, rfl, h1⟩ := rqs1 hr
  simp only [lenD, Option.map_eq_some_iff] at hf
  obtain ⟨es, he, rfl⟩ := hf
  obtain ⟨a, xs, rfl, h2, h3⟩ := seq_of h1 he
  refine call_len_seq pins s σ H _ us Q I r ⟨a, xs, rfl, h2.imp id SqT.of, ?_⟩
  rw [h3.len]
  exact q _ H (Same.refl H) (nw_int _)
theorem bi_abs : CallR X (.builtin "abs") (rO1 X.K (b1 absD)) := by
  intro pins s σ H vs us Q I r hh
  obtain ⟨Z, ds, sl, hr, hg, q⟩ := hh
  obtain ⟨d, hd, hf⟩ := b1_inv hg
  clear hg
  subst hd
  obtain ⟨v, rfl, h1⟩ := rqs1 hr
  cases d <;> simp only [absD] at hf <;> try (cases hf; done)
  cases hf
  obtain rfl := rq_int h1
  exact call_abs pins s σ H _ us Q I r ⟨_, rfl, q _ H (Same.refl H) (nw_int _)⟩
theorem bi_int : CallR X (.type "int") (rO1 X.K (b1 intD)) := by
  intro pins s σ H vs us Q I r hh
  obtain ⟨Z, ds, sl, hr, hg, q⟩ := hh
  obtain ⟨d, hd, hf⟩ := b1_inv hg
  clear hg
  subst hd
  obtain ⟨v, rfl, h1⟩ := rqs1 hr
  cases d <;> simp only [intD] at hf <;> try (cases hf; done)
  · cases hf
    obtain rfl := rq_bl h1
    exact call_int1 pins s σ H _ us Q I r (.inr ⟨_, rfl, q _ H (Same.refl H) (nw_int _)⟩)
  · cases hf
    obtain rfl := rq_int h1
    exact call_int1 pins s σ H _ us Q I r (.inl ⟨_, rfl, q _ H (Same.refl H) (nw_int _)⟩)
theorem bi_list : CallR X (.type "list") (rO1 X.K (b1 listD)) := by
  intro pins s σ H vs us Q I r hh
  obtain ⟨Z, ds, sl, hr, hg, q⟩ := hh
  obtain ⟨d, hd, hf⟩ := b1_inv hg
  clear hg
  subst hd
  obtain ⟨v, rfl, h1⟩ := rqs1 hr
  simp only [listD, Option.map_eq_some_iff] at hf
  obtain ⟨es, he, rfl⟩ := hf
  obtain ⟨a, xs, rfl, h2, h3⟩ := seq_of h1 he
  refine call_list_of pins s σ H _ us Q I r ⟨a, xs, rfl, h2.imp id SqT.of, fun l hl => ?_⟩
  have sm := same_new (o := .lst xs) hl
  exact q _ _ sm ⟨l, xs, rfl, hl, upd_same, h3.mono (Same.keep sm) fun _ z => z⟩
theorem bi_tuple : CallR X (.type "tuple") (rO1 X.K (b1 tupleD)) := by
  intro pins s σ H vs us Q I r hh
  obtain ⟨Z, ds, sl, hr, hg, q⟩ := hh
  obtain ⟨d, hd, hf⟩ := b1_inv hg
  clear hg
  subst hd
  obtain ⟨v, rfl, h1⟩ := rqs1 hr
  simp only [tupleD, Option.map_eq_some_iff] at hf
  obtain ⟨es, he, rfl⟩ := hf
  obtain ⟨a, xs, rfl, h2, h3⟩ := seq_of h1 he
  rcases h2 with h2 | h2
  · refine call_tuple_of pins s σ H _ us Q I r ⟨a, xs, rfl, .inl ⟨h2, fun l hl => ?_⟩⟩
    have sm := same_new (o := .tup xs) hl
    exact q _ _ sm (mk_tup upd_same (h3.mono (Same.keep sm) fun _ z => z))
  · exact call_tuple_of pins s σ H _ us Q I r ⟨a, xs, rfl, .inr ⟨SqT.of h2, q _ H (Same.refl H) (mk_tup h2 h3)⟩⟩
theorem bi_sum (hc : X.calm = true) : CallR X (.builtin "sum") (rO1 X.K (b1 sumD)) := by
  intro pins s σ H vs us Q I r hh
  obtain ⟨Z, ds, sl, hr, hg, q⟩ := hh
  obtain ⟨d, hd, hf⟩ := b1_inv hg
  clear hg
  subst hd
  obtain ⟨v, rfl, h1⟩ := rqs1 hr
  simp only [sumD, Option.map_eq_some_iff, Option.bind_eq_some_iff] at hf
  obtain ⟨ns, ⟨es, he, hn⟩, rfl⟩ := hf
  obtain ⟨a, xs, rfl, h2, h3⟩ := seq_of h1 he
  rw [ints_of h3 hn] at h2
  rcases h2 with h2 | h2
  · exact cr_sum hc pins s σ H _ us Q I r ⟨a, ns, rfl, h2, q _ H (Same.refl H) (nw_int _)⟩
  · exact sumT hc pins s σ H _ us Q I r ⟨a, ns, rfl, SqT.of h2, q _ H (Same.refl H) (nw_int _)⟩
theorem bi_max (hc : X.calm = true) : CallR X (.builtin "max") (rO1 X.K maxD) := by
  intro pins s σ H vs us Q I r hh
  obtain ⟨Z, ds, sl, hr, hg, q⟩ := hh
  unfold maxD at hg
  split at hg
  · obtain ⟨v, w, rfl, h1, h2⟩ := rqs2 hr
    obtain rfl := rq_int h1
    obtain rfl := rq_int h2
    cases hg
    exact call_max2 hc pins s σ H _ us Q I r ⟨_, _, rfl, q _ H (Same.refl H) (nw_int _)⟩
  · obtain ⟨d, hd, hf⟩ := b1_inv hg
    clear hg
    subst hd
    obtain ⟨v, rfl, h1⟩ := rqs1 hr
    simp only [maxD1, Option.map_eq_some_iff, Option.bind_eq_some_iff] at hf
    obtain ⟨m, ⟨ns, ⟨es, he, hn⟩, hm⟩, rfl⟩ := hf
    obtain ⟨a, xs, rfl, h2, h3⟩ := seq_of h1 he
    rw [ints_of h3 hn] at h2
    obtain ⟨s1, s2⟩ := maxL_spec hm
    have fin : ∀ m', m' ∈ ns → (∀ y, y ∈ ns → y ≤ m') → Q (.int m') H := fun m' k1 k2 => by
      rw [show m' = m from Int.le_antisymm (s2 m' k1) (k2 m s1)]
      exact q _ H (Same.refl H) (nw_int _)
    rcases h2 with h2 | h2
    · exact cr_max hc pins s σ H _ us Q I r ⟨a, ns, rfl, h2, List.length_pos_of_mem s1, fin⟩
    · exact maxT hc pins s σ H _ us Q I r ⟨a, ns, rfl, SqT.of h2, List.length_pos_of_mem s1, fin⟩
theorem bi_min (hc : X.calm = true) : CallR X (.builtin "min") (rO1 X.K minD) := by
  intro pins s σ H vs us Q I r hh
  obtain ⟨Z, ds, sl, hr, hg, q⟩ := hh
  unfold minD at hg
  split at hg
  · obtain ⟨v, w, rfl, h1, h2⟩ := rqs2 hr
    obtain rfl := rq_int h1
    obtain rfl := rq_int h2
    cases hg
    exact call_min2 hc pins s σ H _ us Q I r ⟨_, _, rfl, q _ H (Same.refl H) (nw_int _)⟩
  · obtain ⟨d, hd, hf⟩ := b1_inv hg
    clear hg
    subst hd
    obtain ⟨v, rfl, h1⟩ := rqs1 hr
    simp only [minD1, Option.map_eq_some_iff, Option.bind_eq_some_iff] at hf
    obtain ⟨m, ⟨ns, ⟨es, he, hn⟩, hm⟩, rfl⟩ := hf
    obtain ⟨a, xs, rfl, h2, h3⟩ := seq_of h1 he
    rw [ints_of h3 hn] at h2
    obtain ⟨s1, s2⟩ := minL_spec hm
    have fin : ∀ m', m' ∈ ns → (∀ y, y ∈ ns → m' ≤ y) → Q (.int m') H := fun m' k1 k2 => by
      rw [show m' = m from Int.le_antisymm (k2 m s1) (s2 m' k1)]
      exact q _ H (Same.refl H) (nw_int _)
    rcases h2 with h2 | h2
    · exact cr_min hc pins s σ H _ us Q I r ⟨a, ns, rfl, h2, List.length_pos_of_mem s1, fin⟩
    · exact minT hc pins s σ H _ us Q I r ⟨a, ns, rfl, SqT.of h2, List.length_pos_of_mem s1, fin⟩
theorem bi_sorted : CallR X (.builtin "sorted") (rO1 X.K (b1 sortedD)) := by
  intro pins s σ H vs us Q I r hh
  obtain ⟨Z, ds, sl, hr, hg, q⟩ := hh
  obtain ⟨d, hd, hf⟩ := b1_inv hg
  clear hg
  subst hd
  obtain ⟨v, rfl, h1⟩ := rqs1 hr
  simp only [sortedD, Option.bind_eq_some_iff] at hf
  obtain ⟨es, he, hf⟩ := hf
  obtain ⟨a, xs, rfl, h2, h3⟩ := seq_of h1 he
  rcases sorted_go (a := a) h3 hf q with ⟨ns, e, k⟩ | ⟨m, k⟩
  · rw [e] at h2
    rcases h2 with h2 | h2
    · exact cr_sortedI pins s σ H _ us Q I r ⟨a, ns, rfl, h2, k⟩
    · exact sortIT pins s σ H _ us Q I r ⟨a, ns, rfl, SqT.of h2, k⟩
  · rcases h2 with h2 | h2
    · exact cr_sortedPO pins s σ H _ us Q I r ⟨a, xs, pairAt H, rfl, h2, m, k⟩
    · exact sortPT pins s σ H _ us Q I r ⟨a, xs, pairAt H, rfl, SqT.of h2, m, k⟩
theorem bi_all (hc : X.calm = true) : CallR X (.builtin "all") (rO1 X.K (b1 allD)) := by
  intro pins s σ H vs us Q I r hh
  obtain ⟨Z, ds, sl, hr, hg, q⟩ := hh
  obtain ⟨d, hd, hf⟩ := b1_inv hg
  clear hg
  subst hd
  obtain ⟨v, rfl, h1⟩ := rqs1 hr
  cases d <;> simp only [allD] at hf <;> try (cases hf; done)
  rw [Option.map_eq_some_iff] at hf
  obtain ⟨ns, hn, rfl⟩ := hf
  obtain ⟨a, ys, rfl, h2, h3⟩ := h1
  rw [bools_of h3 hn] at h2
  exact cr_all hc pins s σ H _ us Q I r ⟨a, ns, rfl, h2, q _ H (Same.refl H) (nw_bl _)⟩
theorem bi_any (hc : X.calm = true) : CallR X (.builtin "any") (rO1 X.K (b1 anyD)) := by
  intro pins s σ H vs us Q I r hh
  obtain ⟨Z, ds, sl, hr, hg, q⟩ := hh
  obtain ⟨d, hd, hf⟩ := b1_inv hg
  clear hg
  subst hd
  obtain ⟨v, rfl, h1⟩ := rqs1 hr
  cases d <;> simp only [anyD] at hf <;> try (cases hf; done)
  rw [Option.map_eq_some_iff] at hf
  obtain ⟨ns, hn, rfl⟩ := hf
  obtain ⟨a, ys, rfl, h2, h3⟩ := h1
  rw [bools_of h3 hn] at h2
  exact cr_any hc pins s σ H _ us Q I r ⟨a, ns, rfl, h2, q _ H (Same.refl H) (nw_bl _)⟩
end
end Pv
set_option maxRecDepth 100000
set_option maxHeartbeats 2000000
namespace Pv
open PySem PySem.Spec PyProof.Rows L2
section
variable {c : Cn} {Z Z' : Addr → Prop} {H H' : Hp} {σ σ' : L2.St} {e e' : Es}
/-- one slot is changed -/
theorem EnvR.set1 (E : EnvR c Z H σ e) (i : Nat) (hl : σ'.length = e'.length)
    (old : ∀ (j : Nat) (s : Sl), j ≠ i → e'[j]? = some (some s) → e[j]? = some (some s) ∧ σ'[j]? = σ[j]?)
    (mono : ∀ (j : Nat) (s : Sl), j ≠ i → e[j]? = some (some s) → SlotR c Z H s (σ[j]?) → SlotR c Z' H' s (σ[j]?))
    (new : ∀ s, e'[i]? = some (some s) → SlotR c Z' H' s (σ'[i]?))
    (newH : ∀ a, HeldAt σ' e' i a → (∀ j, j ≠ i → ¬ HeldAt σ e j a) ∧ (c.np ≤ i → ¬ c.B a))
    (bt : ∀ a, c.B a → H' a ≠ none) (zt : ∀ a, Z' a → H' a ≠ none) : EnvR c Z' H' σ' e' := by
  have back : ∀ {j : Nat} {a : Addr}, j ≠ i → HeldAt σ' e' j a → HeldAt σ e j a := fun {j a} hj ⟨ds, h1, h2⟩ => by
    rcases h1 with h1 | h1
    · obtain ⟨q1, q2⟩ := old j _ hj h1
      exact ⟨ds, .inl q1, by rw [← q2]; exact h2⟩
    · obtain ⟨q1, q2⟩ := old j _ hj h1
      exact ⟨ds, .inr q1, by rw [← q2]; exact h2⟩
  refine ⟨hl, fun j s h => ?_, fun j k a h1 h2 => ?_, fun j a hn h => ?_, bt, zt⟩
  · by_cases hj : j = i
    · subst hj
      exact new s h
    · obtain ⟨q1, q2⟩ := old j s hj h
      rw [q2]
      exact mono j s hj q1 (E.slot j s q1)
  · by_cases hj : j = i
    · by_cases hk : k = i
      · rw [hj, hk]
      · subst hj
        exact absurd (back hk h2) ((newH a h1).1 k hk)
    · by_cases hk : k = i
      · subst hk
        exact absurd (back hj h1) ((newH a h2).1 j hj)
      · exact E.inj j k a (back hj h1) (back hk h2)
  · by_cases hj : j = i
    · subst hj
      exact (newH a h).2 hn
    · exact E.prov j a hn (back hj h)
theorem set_get {e : Es} {i j : Nat} {s : Option Sl} (h : j ≠ i) : (e.set i s)[j]? = e[j]? := List.getElem?_set_ne (Ne.symm h)
theorem set_at {e : Es} {i : Nat} {s : Option Sl} {o : Option Sl} (h : e[i]? = some o) : (e.set i s)[i]? = some s := List.getElem?_set_self (List.getElem?_eq_some_iff.mp h).1
theorem SlotR.mono {s : Sl} {o : Option (Option V)} (h : SlotR c Z H s o) (k : Keep Z H H') (z : ∀ a, Z a → Z' a) (own : ∀ a xs, o = some (some (.ref a)) → (∃ ds, s = .own ds ∨ s = .lck ds) → H a = some (.lst xs) → H' a = some (.lst xs) ∧ ¬ Z' a) : SlotR c Z' H' s o := by
  cases s with
  | val d =>
    obtain ⟨v, h1, h2⟩ := h
    exact ⟨v, h1, h2.mono k z⟩
  | own ds =>
    obtain ⟨a, xs, h1, h2, h3, h4⟩ := h
    obtain ⟨q1, q2⟩ := own a xs h1 ⟨ds, .inl rfl⟩ h2
    exact ⟨a, xs, h1, q1, q2, h4.mono k z⟩
  | lck ds =>
    obtain ⟨a, xs, h1, h2, h3, h4⟩ := h
    obtain ⟨q1, q2⟩ := own a xs h1 ⟨ds, .inr rfl⟩ h2
    exact ⟨a, xs, h1, q1, q2, h4.mono k z⟩
  | exc cl d =>
    obtain ⟨a, dx, h1, h2, dd, v, h3, h4, h5⟩ := h
    exact ⟨a, dx, h1, h2, dd, v, h3, k _ _ h4 (fun _ e => by cases e), h5.mono k z⟩
theorem heldAt_of {j : Nat} {s : Sl} {a : Addr} (h : e[j]? = some (some s)) (x : ∃ ds, s = .own ds ∨ s = .lck ds) (hs : σ[j]? = some (some (.ref a))) : HeldAt σ e j a := by
  obtain ⟨ds, rfl | rfl⟩ := x
  · exact ⟨ds, .inl h, hs⟩
  · exact ⟨ds, .inr h, hs⟩
theorem keep_refl : Keep Z H H := fun _ _ h _ => h
/-- a new list (a temporary's) is let go into Z -/
theorem EnvR.grow (E : EnvR c Z H σ e) {a : Addr} (hn : ¬ Held σ e a) (hh : H a ≠ none) : EnvR c (fun b => Z b ∨ b = a) H σ e where
  len := E.len
  slot := fun i s h => (E.slot i s h).mono keep_refl (fun _ z => .inl z) fun b xs hb hx hl => ⟨hl, fun z => by
    have hd := heldAt_of h hx hb
    rcases z with z | z
    · exact (E.ownz ⟨i, hd⟩).1 z
    · exact hn ⟨i, z ▸ hd⟩⟩
  inj := E.inj
  prov := E.prov
  bt := E.bt
  zt := fun b z => by
    rcases z with z | z
    · exact E.zt b z
    · rw [z]; exact hh
theorem Tr.grow (t : Tr σ e Z H σ' e' Z' H') {a : Addr} (ha : H a = none ∨ OwnA σ e a) : Tr σ e Z H σ' e' (fun b => Z' b ∨ b = a) H' where
  keep := t.keep
  zle := fun b z => .inl (t.zle b z)
  znew := fun b z => by
    rcases z with z | z
    · exact t.znew b z
    · rw [z]; exact .inr ha
  own := t.own
  held := t.held
  here := t.here
  lk := t.lk
theorem own_set_val {i : Nat} {s : Sl} {a : Addr} {d : D} (h : OwnA σ (e.set i (some (.val d))) a) : OwnA σ e a := by
  obtain ⟨j, ds, h1, h2⟩ := h
  by_cases hj : j = i
  · subst hj
    by_cases hl : j < e.length
    · rw [List.getElem?_set_self hl] at h1; cases h1
    · rw [List.getElem?_eq_none (by simpa using hl)] at h1; cases h1
  · rw [set_get hj] at h1
    exact ⟨j, ds, h1, h2⟩
theorem held_set {i : Nat} {o : Option Sl} {a : Addr} (h : Held σ (e.set i o) a) (no : ∀ ds, o ≠ some (.own ds) ∧ o ≠ some (.lck ds)) : Held σ e a := by
  obtain ⟨j, ds, h1, h2⟩ := h
  by_cases hj : j = i
  · subst hj
    by_cases hl : j < e.length
    · rw [List.getElem?_set_self hl] at h1
      rcases h1 with h1 | h1
      · exact absurd (Option.some.inj h1) (no ds).1
      · exact absurd (Option.some.inj h1) (no ds).2
    · rw [List.getElem?_eq_none (by simpa using hl)] at h1
      rcases h1 with h1 | h1 <;> cases h1
  · rw [set_get hj] at h1
    exact ⟨j, ds, h1, h2⟩
theorem own_set {i : Nat} {o : Option Sl} {a : Addr} (h : OwnA σ (e.set i o) a) (no : ∀ ds, o ≠ some (.own ds)) : OwnA σ e a := by
  obtain ⟨j, ds, h1, h2⟩ := h
  by_cases hj : j = i
  · subst hj
    by_cases hl : j < e.length
    · rw [List.getElem?_set_self hl] at h1
      exact absurd (Option.some.inj h1) (no ds)
    · rw [List.getElem?_eq_none (by simpa using hl)] at h1
      cases h1
  · rw [set_get hj] at h1
    exact ⟨j, ds, h1, h2⟩
theorem lck_ne {i j : Nat} {ds es : List D} {o : Option Sl} (h : e[i]? = some (some (.own ds))) (q : e[j]? = some (some (.lck es))) : (e.set i o)[j]? = some (some (.lck es)) := by
  have n : j ≠ i := fun z => by
    rw [z, h] at q
    cases q
  rw [set_get n]
  exact q
/-- a name's list is read as a value: from then on it stays -/
theorem EnvR.capture (E : EnvR c Z H σ e) {i : Nat} {ds : List D} (h : e[i]? = some (some (.own ds))) :
    ∃ a, σ[i]? = some (some (.ref a)) ∧ EnvR c (fun b => Z b ∨ b = a) H σ (e.set i (some (.val (.lst ds)))) ∧ Tr σ e Z H σ (e.set i (some (.val (.lst ds)))) (fun b => Z b ∨ b = a) H ∧ Rp c.K (fun b => Z b ∨ b = a) H (.lst ds) (.ref a) := by
  obtain ⟨a, xs, h1, h2, h3, h4⟩ := E.slot i _ h
  have hd : HeldAt σ e i a := ⟨ds, .inl h, h1⟩
  have rp : Rp c.K (fun b => Z b ∨ b = a) H (.lst ds) (.ref a) := mk_lst (.inl ⟨h2, .inr rfl⟩) (h4.mono keep_refl fun _ z => .inl z)
  refine ⟨a, h1, E.set1 i (by rw [List.length_set]; exact E.len) (fun j s hj q => ⟨by rwa [set_get hj] at q, rfl⟩) (fun j s hj q r => ?_) (fun s q => ?_) (fun b hb => ?_) E.bt (fun b z => ?_), ⟨fun b o q _ => q, fun _ z => .inl z, fun b z => ?_, fun b q => .inl (own_set q (fun _ z => by cases z)), fun b q => .inl (held_set q (fun _ => ⟨(fun z => by cases z), (fun z => by cases z)⟩)), fun _ q => q, fun j es q => ⟨rfl, es, lck_ne h q⟩⟩, rp⟩
  · refine r.mono keep_refl (fun _ z => .inl z) fun b ys hb hx hl => ⟨hl, fun z => ?_⟩
    have hd2 := heldAt_of q hx hb
    rcases z with z | z
    · exact (E.ownz ⟨j, hd2⟩).1 z
    · exact hj (E.inj j i a (z ▸ hd2) hd)
  · rw [set_at h] at q
    cases q
    exact ⟨.ref a, h1, rp⟩
  · obtain ⟨es, q, _⟩ := hb
    rw [set_at h] at q
    rcases q with q | q <;> cases q
  · rcases z with z | z
    · exact E.zt b z
    · rw [z, h2]; exact fun q => by cases q
  · rcases z with z | z
    · exact .inl z
    · rw [z]; exact .inr (.inr ⟨i, ds, h, h1⟩)
/-- a name's list is changed -/
theorem EnvR.change (E : EnvR c Z H σ e) {i : Nat} {ds ds' : List D} {a : Addr} {xs xs' : List V} (h : e[i]? = some (some (.own ds))) (h1 : σ[i]? = some (some (.ref a))) (h2 : H a = some (.lst xs)) (r : Rps c.K Z H ds' xs') :
    EnvR c Z (upd H a (.lst xs')) σ (e.set i (some (.own ds'))) ∧ Tr σ e Z H σ (e.set i (some (.own ds'))) Z (upd H a (.lst xs')) ∧ Keep Z H (upd H a (.lst xs')) := by
  have hd : HeldAt σ e i a := ⟨ds, .inl h, h1⟩
  have nz := (E.ownz ⟨i, hd⟩).1
  have k : Keep Z H (upd H a (.lst xs')) := fun b o q z => by
    by_cases hb : b = a
    · subst hb
      rw [h2] at q
      cases q
      exact absurd (z xs rfl) nz
    · rw [upd_ne hb]; exact q
  have there : ∀ b, H b ≠ none → upd H a (.lst xs') b ≠ none := fun b q => by
    by_cases hb : b = a
    · subst hb; rw [upd_same]; exact fun z => by cases z
    · rw [upd_ne hb]; exact q
  refine ⟨E.set1 i (by rw [List.length_set]; exact E.len) (fun j s hj q => ⟨by rwa [set_get hj] at q, rfl⟩) (fun j s hj q w => ?_) (fun s q => ?_) (fun b hb => ?_) (fun b q => there b (E.bt b q)) (fun b q => there b (E.zt b q)), ⟨fun b o q n => ?_, fun _ z => z, fun _ z => .inl z, fun b q => .inl ?_, fun b q => .inl ?_, there, fun j es q => ⟨rfl, es, lck_ne h q⟩⟩, k⟩
  · refine w.mono k (fun _ z => z) fun b ys hb hx hl => ?_
    have hd2 := heldAt_of q hx hb
    refine ⟨?_, (E.ownz ⟨j, hd2⟩).1⟩
    have nb : b ≠ a := fun z => hj (E.inj j i a (by rw [← z]; exact hd2) hd)
    rw [upd_ne nb]
    exact hl
  · rw [set_at h] at q
    cases q
    exact ⟨a, xs', h1, upd_same, nz, r.mono k fun _ z => z⟩
  · obtain ⟨es, _, q2⟩ := hb
    rw [h1] at q2
    cases q2
    exact ⟨fun j hj w => hj (E.inj j i a w hd), fun hn => E.prov i a hn hd⟩
  · have nb : b ≠ a := fun z => n (by rw [z]; exact ⟨i, ds, h, h1⟩)
    rw [upd_ne nb]
    exact q
  · obtain ⟨j, es, q1, q2⟩ := q
    by_cases hj : j = i
    · subst hj; exact ⟨j, ds, h, q2⟩
    · rw [set_get hj] at q1; exact ⟨j, es, q1, q2⟩
  · obtain ⟨j, es, q1, q2⟩ := q
    by_cases hj : j = i
    · subst hj; exact ⟨j, ds, .inl h, q2⟩
    · rw [set_get hj] at q1; exact ⟨j, es, q1, q2⟩
/-- a name is stored -/
theorem EnvR.put (E : EnvR c Z H σ e) {H₀ : Hp} {i : Nat} {s : Sl} {v : V} {o : Option Sl} (he : e[i]? = some o) (hB : ∀ a, c.B a → H₀ a ≠ none) (t : TmpR c H₀ Z H σ e s v) :
    EnvR c Z H (σ.set i (some v)) (e.set i (some s)) := by
  have hlt : i < e.length := (List.getElem?_eq_some_iff.mp he).1
  have hσ : (σ.set i (some v))[i]? = some (some v) := List.getElem?_set_self (by rw [E.len]; exact hlt)
  refine E.set1 i (by rw [List.length_set, List.length_set]; exact E.len) (fun j s hj q => ⟨by rwa [set_get hj] at q, List.getElem?_set_ne (Ne.symm hj)⟩) (fun _ _ _ _ r => r) (fun s' q => ?_) (fun b hb => ?_) E.bt E.zt
  · rw [set_at he] at q
    cases q
    rw [hσ]
    cases s with
    | val d => exact ⟨v, rfl, t⟩
    | own ds =>
      obtain ⟨a, xs, rfl, _, q1, q2, _, q4⟩ := t
      exact ⟨a, xs, rfl, q1, q2, q4⟩
    | lck ds => exact t.elim
    | exc _ _ => exact t.elim
  · obtain ⟨es, q1, q2⟩ := hb
    rw [set_at he] at q1
    rw [hσ] at q2
    cases q2
    rcases q1 with q1 | q1
    · cases q1
      obtain ⟨a, xs, ea, q0, _, _, q3, _⟩ := t
      cases ea
      exact ⟨fun j _ w => q3 ⟨j, w⟩, fun _ z => hB _ z q0⟩
    · cases q1
      exact t.elim
end
end Pv
set_option maxRecDepth 100000
set_option maxHeartbeats 2000000
namespace Pv
open PySem PySem.Spec PyProof.Rows L2
/-! ## Readings by the evaluator -/
def tE (c : Cn) (W : WX) (f : Es → R Sl) : TE := fun σ H Q => ∃ e Z, EnvR c Z H σ e ∧ Post c W σ e Z H (f e) fun s e' Z' H' => ∀ v, TmpR c H Z' H' σ e' s v → Q v H'
def tV (c : Cn) (W : WX) (f : Es → R D) : TE := fun σ H Q => ∃ e Z, EnvR c Z H σ e ∧ Post c W σ e Z H (f e) fun d e' Z' H' => ∀ v, Rp c.K Z' H' d v → Q v H'
def tBo (c : Cn) (W : WX) (f : Es → R Bv) : TE := fun σ H Q => ∃ e Z, EnvR c Z H σ e ∧ Post c W σ e Z H (f e) fun b e' Z' H' => ∀ v, BvR c H Z' H' σ e' b v → Q v H'
def tTe (c : Cn) (W : WX) (f : Es → R Bool) : TT := fun σ H Q => ∃ e Z, EnvR c Z H σ e ∧ Post c W σ e Z H (f e) fun b e' Z' H' => Q b H'
def tVs (c : Cn) (W : WX) (f : Es → R (List D)) : TA := fun σ H Q => ∃ e Z, EnvR c Z H σ e ∧ Post c W σ e Z H (f e) fun ds e' Z' H' => ∀ vs, Rps c.K Z' H' ds vs → Q vs H'
def BvsR (c : Cn) (H₀ : Hp) (Z : Addr → Prop) (H : Hp) (σ : L2.St) (e : Es) : List Bv → List V → Prop
  | [], vs => vs = []
  | b :: bs, vs => ∃ v r, vs = v :: r ∧ BvR c H₀ Z H σ e b v ∧ BvsR c H₀ Z H σ e bs r ∧ ∀ ds, b = .tmp ds → ∀ (j : Nat) ds', bs[j]? = some (.tmp ds') → r[j]? ≠ some v
def tBs (c : Cn) (W : WX) (f : Es → R (List Bv)) : TA := fun σ H Q => ∃ e Z, EnvR c Z H σ e ∧ Post c W σ e Z H (f e) fun bs e' Z' H' => ∀ vs, BvsR c H Z' H' σ e' bs vs → Q vs H'
def tOi (c : Cn) (W : WX) (f : Es → R (Option Int)) : TO := fun σ H Q => ∃ e Z, EnvR c Z H σ e ∧ Post c W σ e Z H (f e) fun o e' Z' H' => Q o H'
theorem PE.imp {X : Cx} {pe : Expr} {t t' : TE} (h : PE X pe t) (i : ∀ σ H Q, t' σ H Q → t σ H Q) : PE X pe t' := ⟨fun pins s σ H Q I q => h.run pins s σ H Q I (i σ H Q q)⟩
theorem PT.imp {X : Cx} {pe : Expr} {t t' : TT} (h : PT X pe t) (i : ∀ σ H Q, t' σ H Q → t σ H Q) : PT X pe t' := ⟨fun pins s σ H Q I q => h.run pins s σ H Q I (i σ H Q q)⟩
theorem PW.imp {X : Cx} {pe : Expr} {t t' : TT} (h : PW X pe t) (i : ∀ σ H Q, t' σ H Q → t σ H Q) : PW X pe t' := ⟨fun wh pins s σ H Q I q => h.run wh pins s σ H Q I (i σ H Q q)⟩
theorem PA.imp {X : Cx} {es : List Expr} {t t' : TA} (h : PA X es t) (i : ∀ σ H Q, t' σ H Q → t σ H Q) : PA X es t' := ⟨fun pos pins s σ H Q I q => h.run pos pins s σ H Q I (i σ H Q q)⟩
theorem PO.imp {X : Cx} {e : Option Expr} {t t' : TO} (h : PO X e t) (i : ∀ σ H Q, t' σ H Q → t σ H Q) : PO X e t' := ⟨fun pins s σ H Q I q => h.run pins s σ H Q I (i σ H Q q)⟩
section
variable {c : Cn} {W : WX} {X : Cx} {pe : Expr} {σ : L2.St} {e e' : Es} {Z Z' : Addr → Prop} {H H' H₀ : Hp}
theorem TmpR.held (t : TmpR c H₀ Z H σ e (.own ds) v) : ∃ a, v = .ref a ∧ ¬ Held σ e a ∧ H a ≠ none ∧ H₀ a = none := by
  obtain ⟨a, xs, e1, e2, e3, _, e5, _⟩ := t
  refine ⟨a, e1, e5, ?_, e2⟩
  rw [e3]
  exact fun z => by cases z
theorem TmpR.tr (E : EnvR c Z H σ e) (t : Tr σ e Z H σ e' Z' H') {s : Sl} {v : V} (h : TmpR c H₀ Z H σ e s v) : TmpR c H₀ Z' H' σ e' s v := by
  cases s with
  | val d => exact Rp.tr E t h
  | own ds =>
    obtain ⟨a, xs, e1, e2, e3, e4, e5, e6⟩ := h
    refine ⟨a, xs, e1, e2, t.keep _ _ e3 fun w => e5 w.held, fun z => ?_, fun w => ?_, Rps.tr E t e6⟩
    · rcases t.znew a z with z | z | z
      · exact e4 z
      · rw [z] at e3; cases e3
      · exact e5 z.held
    · rcases t.held a w with w | w
      · exact e5 w
      · rw [w] at e3; cases e3
  | lck ds => exact h
  | exc _ _ => exact h
theorem BvR.tr (E : EnvR c Z H σ e) (t : Tr σ e Z H σ e' Z' H') {b : Bv} {v : V} (h : BvR c H₀ Z H σ e b v) : BvR c H₀ Z' H' σ e' b v := by
  cases b with
  | val d => exact Rp.tr E t h
  | slot i => exact h
  | tmp ds => exact TmpR.tr E t (s := .own ds) h
theorem TmpR.older {H₁ : Hp} (k : ∀ a, H₁ a = none → H₀ a = none) {s : Sl} {v : V} (h : TmpR c H₁ Z H σ e s v) : TmpR c H₀ Z H σ e s v := by
  cases s with
  | own ds =>
    obtain ⟨a, xs, e1, e2, r⟩ := h
    exact ⟨a, xs, e1, k a e2, r⟩
  | _ => exact h
theorem BvR.older {H₁ : Hp} (k : ∀ a, H₁ a = none → H₀ a = none) {b : Bv} {v : V} (h : BvR c H₁ Z H σ e b v) : BvR c H₀ Z H σ e b v := by
  cases b with
  | tmp ds => exact TmpR.older k (s := .own ds) h
  | _ => exact h
theorem BvsR.tr (E : EnvR c Z H σ e) (t : Tr σ e Z H σ e' Z' H') : ∀ {bs : List Bv} {vs : List V}, BvsR c H₀ Z H σ e bs vs → BvsR c H₀ Z' H' σ e' bs vs
  | [], _, h => h
  | b :: bs, _, h => by
    obtain ⟨v, r, e1, h1, h2, h3⟩ := h
    exact ⟨v, r, e1, BvR.tr E t h1, BvsR.tr E t h2, h3⟩
theorem BvsR.older {H₁ : Hp} (k : ∀ a, H₁ a = none → H₀ a = none) : ∀ {bs : List Bv} {vs : List V}, BvsR c H₁ Z H σ e bs vs → BvsR c H₀ Z H σ e bs vs
  | [], _, h => h
  | b :: bs, _, h => by
    obtain ⟨v, r, e1, h1, h2, h3⟩ := h
    exact ⟨v, r, e1, BvR.older k h1, BvsR.older k h2, h3⟩
theorem look_rq (E : EnvR c Z H σ e) {b : Bv} {v : V} {d : D} (h : BvR c H₀ Z H σ e b v) (l : look e b = some d) : Rq c.K Z H d v := by
  cases b with
  | val d' =>
    cases l
    exact Rp.q h
  | slot i =>
    have h : σ[i]? = some (some v) := h
    simp only [look] at l
    split at l
    · rename_i ds q
      cases l
      obtain ⟨a, xs, e1, e2, _, e4⟩ := E.slot i _ q
      rw [h] at e1
      cases e1
      exact ⟨a, xs, rfl, .inl (.inl e2), e4⟩
    · rename_i ds q
      cases l
      obtain ⟨a, xs, e1, e2, _, e4⟩ := E.slot i _ q
      rw [h] at e1
      cases e1
      exact ⟨a, xs, rfl, .inl (.inl e2), e4⟩
    · cases l
  | tmp ds =>
    cases l
    obtain ⟨a, xs, e1, _, e3, _, _, e6⟩ := h
    exact ⟨a, xs, e1, .inl (.inl e3), e6⟩
theorem looks_rqs (E : EnvR c Z H σ e) : ∀ {bs : List Bv} {vs : List V} {ds : List D}, BvsR c H₀ Z H σ e bs vs → looks e bs = some ds → Rqs c.K Z H ds vs
  | [], _, ds, h, l => by
    cases l
    exact h
  | b :: bs, _, ds, h, l => by
    obtain ⟨v, r, e1, h1, h2, _⟩ := h
    simp only [looks] at l
    split at l
    · rename_i d q
      split at l
      · rename_i ds' q'
        cases l
        exact ⟨v, r, e1, look_rq E h1 q, looks_rqs E h2 q'⟩
      · cases l
    · cases l
/-- a step's end: what it makes is a temporary of the whole -/
theorem tmp_new (E : EnvR c Z H σ e) (k : ∀ a, H a = none → H₀ a = none) (sm : Same H H') {s : Sl} {v : V} (n : NewR c.K Z H H' s v) : TmpR c H₀ Z H' σ e s v := by
  cases s with
  | val d => exact n
  | own ds =>
    obtain ⟨a, xs, e1, e2, e3, e4⟩ := n
    exact ⟨a, xs, e1, k a e2, e3, fun z => E.zt a z e2, (fun w => by obtain ⟨_, ys, q⟩ := E.ownz w; rw [e2] at q; cases q), e4⟩
  | _ => exact n
theorem back_none (t : Tr σ e Z H σ e' Z' H') : ∀ a, H' a = none → H a = none := fun a => none_back t.here
/-! ### names, constants -/
theorem Post.fz {r : R Sl} {k : D → Es → (Addr → Prop) → Hp → Prop} (p : Post c W σ e Z H r.fz k) :
    Post c W σ e Z H r fun s e' Z' H' => ∀ v, TmpR c H Z' H' σ e' s v → ∃ Z'', Tr σ e Z H σ e' Z'' H' ∧ EnvR c Z'' H' σ e' ∧ ∃ d, s.fz = some d ∧ Rp c.K Z'' H' d v ∧ k d e' Z'' H' := by
  cases r with
  | ok s e' =>
    intro Z' H' t E' v r
    cases s with
    | val d => exact ⟨Z', t, E', d, rfl, r, (show Post c W σ e Z H (.ok d e') k from p) Z' H' t E'⟩
    | own ds =>
      obtain ⟨a, xs, rfl, e2, e3, e4, e5, e6⟩ := r
      have hn : H' a ≠ none := by rw [e3]; exact fun z => by cases z
      have G := E'.grow e5 hn
      have t2 := t.grow (.inl e2)
      exact ⟨_, t2, G, .lst ds, rfl, mk_lst (.inl ⟨e3, .inr rfl⟩) (e6.mono keep_refl fun _ z => .inl z), (show Post c W σ e Z H (.ok (.lst ds) e') k from p) _ H' t2 G⟩
    | lck ds => exact r.elim
    | exc _ _ => exact r.elim
  | exc cl d e' => exact p
  | bad => exact p
theorem r_fz {f : Es → R Sl} (h : PE X pe (tE c W f)) : PE X pe (tV c W fun e => (f e).fz) := Pv.PE.imp h fun σ H Q ⟨e, Z, E, p⟩ => by
  refine ⟨e, Z, E, (Post.fz p).imp fun s e' Z' H' t E' q v r => ?_⟩
  obtain ⟨Z'', _, _, d, _, r2, q2⟩ := q v r
  exact q2 v r2
/-- an expression's value as it is -/
theorem r_val {f : Es → R Sl} {d : D} {v : V} (h : PE X pe (tC v)) (hf : ∀ e, f e = .ok (.val d) e) (r : ∀ Z H, Rp c.K Z H d v) : PE X pe (tE c W f) := Pv.PE.imp h fun σ H Q ⟨e, Z, E, p⟩ => by
  rw [hf] at p
  exact Post.ok_now p E v (r Z H)
theorem r_var {i : Nat} (h : PE X pe (tVar i)) (prot cal sub) : PE X pe (tE c W (evE prot cal sub (.var i))) := Pv.PE.imp h fun σ H Q ⟨e, Z, E, p⟩ => by
  simp only [evE] at p
  split at p
  · rename_i d q
    obtain ⟨v, e1, r⟩ := E.slot i _ q
    exact ⟨v, e1, Post.ok_now p E v r⟩
  · rename_i ds q
    obtain ⟨a, e1, G, t, r⟩ := E.capture q
    exact ⟨.ref a, e1, p _ H t G _ r⟩
  · exact p.elim
theorem bor_k {f : R Sl} {k : Bv → Es → (Addr → Prop) → Hp → Prop} (p : Post c W σ e Z H (f.bind fun s e => match s with
    | .val d => .ok (.val d) e
    | .own ds => .ok (.tmp ds) e
    | _ => .bad) k) : Post c W σ e Z H f fun s e' Z' H' => ∀ v, TmpR c H Z' H' σ e' s v → ∃ b, BvR c H Z' H' σ e' b v ∧ k b e' Z' H' := (Post.bind p).imp fun s e' Z' H' t E' q v r => by
  cases s with
  | val d => exact ⟨.val d, r, Post.ok_now q E'⟩
  | own ds => exact ⟨.tmp ds, r, Post.ok_now q E'⟩
  | lck ds => exact r.elim
  | exc _ _ => exact r.elim
/-- an operand that is no name -/
theorem r_bor {a : Ex} {f : Es → R Sl} (ha : ∀ i, a ≠ .var i) (h : PE X pe (tE c W f)) : PE X pe (tBo c W fun e => bor a e (f e)) := Pv.PE.imp h fun σ H Q ⟨e, Z, E, p⟩ => by
  have eb : bor a e (f e) = (f e).bind fun s e => match s with
    | .val d => .ok (.val d) e
    | .own ds => .ok (.tmp ds) e
    | _ => .bad := by
    cases a <;> first | rfl | exact absurd rfl (ha _)
  have p : Post c W σ e Z H (bor a e (f e)) _ := p
  rw [eb] at p
  refine ⟨e, Z, E, (bor_k p).imp fun s e' Z' H' t E' q v r => ?_⟩
  obtain ⟨b, r2, q2⟩ := q v r
  exact q2 v r2
theorem r_borv {i : Nat} (h : PE X pe (tVar i)) (prot cal sub) : PE X pe (tBo c W fun e => bor (.var i) e (evE prot cal sub (.var i) e)) := Pv.PE.imp h fun σ H Q ⟨e, Z, E, p⟩ => by
  simp only [bor] at p
  split at p
  · rename_i ds q
    obtain ⟨a, xs, e1, _⟩ := E.slot i _ q
    exact ⟨.ref a, e1, Post.ok_now p E _ e1⟩
  · rename_i ds q
    obtain ⟨a, xs, e1, _⟩ := E.slot i _ q
    exact ⟨.ref a, e1, Post.ok_now p E _ e1⟩
  · rename_i n1 n2
    have pk := bor_k p
    simp only [evE] at pk
    split at pk
    · rename_i d q
      obtain ⟨v, e1, r⟩ := E.slot i _ q
      obtain ⟨b, r2, q2⟩ := Post.ok_now pk E v r
      exact ⟨v, e1, q2 v r2⟩
    · rename_i ds q
      exact absurd q (n1 ds)
    · exact pk.elim
/-! ### operators -/
theorem r_op2 {fa fb : Es → R Bv} {g : D → D → Option Sl} {a b : Expr} {r : R2} (ha : PE X a (tBo c W fa)) (hb : PE X b (tBo c W fb)) (hc : ∀ {ta tb : TE}, PE X a ta → PE X b tb → PE X pe (tOp (rO2 c.K g) ta tb)) :
    PE X pe (tE c W fun e => (fa e).bind fun x e1 => (fb e1).bind fun y e2 => match look e2 x, look e2 y with
      | some d, some d' => retD (g d d') id e2
      | _, _ => .bad) := Pv.PE.imp (hc ha hb) fun σ H Q ⟨e, Z, E, p⟩ => by
  refine ⟨e, Z, E, (Post.bind p).imp fun x e1 Z1 H1 t1 E1 p1 v1 r1 => ⟨e1, Z1, E1, (Post.bind p1).imp fun y e2 Z2 H2 t2 E2 p2 v2 r2 => ?_⟩⟩
  have r1' := BvR.tr E1 t2 r1
  split at p2
  · rename_i d d' l1 l2
    unfold retD at p2
    split at p2
    · rename_i s hs
      refine ⟨Z2, d, d', s, look_rq E2 r1' l1, look_rq E2 r2 l2, hs, fun v H' sm n => ?_⟩
      exact Post.ok_ext p2 E2 sm v (tmp_new E2 (fun a h => back_none t1 a (back_none t2 a h)) sm n)
    · exact p2.elim
  · exact p2.elim
theorem r_bin (o : Bop) {fa fb : Es → R Bv} {a b : Expr} {pos : Pos} (hK : c.K = X.K) (ha : PE X a (tBo c W fa)) (hb : PE X b (tBo c W fb)) :
    PE X (.BinOp a (bopOp o) b pos) (tE c W fun e => (fa e).bind fun x e1 => (fb e1).bind fun y e2 => match look e2 x, look e2 y with
      | some d, some d' => retD (binD o d d') id e2
      | _, _ => .bad) := r_op2 (r := rO2 c.K (binD o)) ha hb fun h1 h2 => by rw [hK]; exact pe_op (binR o) h1 h2
end
end Pv
set_option maxRecDepth 100000
set_option maxHeartbeats 2000000
namespace Pv
open PySem PySem.Spec PyProof.Rows L2
section
variable {c : Cn} {W : WX} {X : Cx} {pe : Expr} {σ : L2.St} {e e' : Es} {Z Z' : Addr → Prop} {H H' H₀ : Hp}
theorem tm_bl (b : Bool) : TmpR c H₀ Z H σ e (.val (.bl b)) (.bl b) := mk_bl (K := c.K) (Z := Z) (H := H) b
theorem tm_int (b : Int) : TmpR c H₀ Z H σ e (.val (.int b)) (.int b) := mk_int (K := c.K) (Z := Z) (H := H) b
/-- a test's wish as a value's -/
def toT (f : Es → R Sl) : Es → R Bool := fun e => (f e).bind fun s e1 => match s with
  | .val (.bl b) => .ok b e1
  | _ => .bad
theorem toT_imp {f : Es → R Sl} {Q : Bool → Hp → Prop} (h : tTe c W (toT f) σ H Q) : tE c W f σ H fun x H' => ∃ k, x = .bl k ∧ Q k H' := by
  obtain ⟨e, Z, E, p⟩ := h
  refine ⟨e, Z, E, (Post.bind p).imp fun s e' Z' H' t E' q v r => ?_⟩
  split at q
  · exact ⟨_, rp_bl (K := c.K) (Z := Z') (H := H') r, Post.ok_now q E'⟩
  · exact q.elim
/-- an expression's value tested -/
theorem bor_toT {a : Ex} {f : Es → R Sl} (ha : ∀ i, a ≠ .var i) (hb : ∀ e s e', f e = .ok s e' → ∃ b, s = .val (.bl b)) : (fun e => (bor a e (f e)).bind fun x e1 => retD ((look e1 x).bind truthD) id e1) = toT f := by
  funext e
  have eb : bor a e (f e) = (f e).bind fun s e => match s with
    | .val d => .ok (.val d) e
    | .own ds => .ok (.tmp ds) e
    | _ => .bad := by
    cases a <;> first | rfl | exact absurd rfl (ha _)
  rw [eb]
  unfold toT
  cases h : f e with
  | ok s e' =>
    obtain ⟨b, rfl⟩ := hb e s e' h
    rfl
  | exc cl d e' => rfl
  | bad => rfl
def evCmp (o : Cop) (fa fb : Es → R Bv) : Es → R Sl := fun e => (fa e).bind fun x e1 => (fb e1).bind fun y e2 => match look e2 x, look e2 y with
  | some d, some d' => retD (cmpD o d d') (fun b => .val (.bl b)) e2
  | _, _ => .bad
theorem cmp_imp {fa fb : Es → R Bv} {o : Cop} {Q : VK} (h : tE c W (evCmp o fa fb) σ H Q) : tOp (rC c.K o) (tBo c W fa) (tBo c W fb) σ H Q := by
  obtain ⟨e, Z, E, p⟩ := h
  refine ⟨e, Z, E, (Post.bind p).imp fun x e1 Z1 H1 t1 E1 p1 v1 r1 => ⟨e1, Z1, E1, (Post.bind p1).imp fun y e2 Z2 H2 t2 E2 p2 v2 r2 => ?_⟩⟩
  have r1' := BvR.tr E1 t2 r1
  split at p2
  · rename_i d d' l1 l2
    unfold retD at p2
    split at p2
    · rename_i b hs
      exact ⟨Z2, d, d', b, look_rq E2 r1' l1, look_rq E2 r2 l2, hs, Post.ok_now p2 E2 _ (tm_bl b)⟩
    · exact p2.elim
  · exact p2.elim
theorem cmp_bl {fa fb : Es → R Bv} {o : Cop} : ∀ e s e', evCmp o fa fb e = .ok s e' → ∃ b, s = .val (.bl b) := by
  intro e s e' h
  unfold evCmp at h
  cases h1 : fa e with
  | ok x e1 =>
    rw [h1] at h
    have h : (fb e1).bind _ = _ := h
    cases h2 : fb e1 with
    | ok y e2 =>
      rw [h2] at h
      have h : (match look e2 x, look e2 y with
        | some d, some d' => retD (cmpD o d d') (fun b => Sl.val (.bl b)) e2
        | _, _ => .bad) = R.ok s e' := h
      split at h
      · unfold retD at h
        split at h
        · cases h
          exact ⟨_, rfl⟩
        · cases h
      · cases h
    | exc _ _ _ => rw [h2] at h; cases h
    | bad => rw [h2] at h; cases h
  | exc _ _ _ => rw [h1] at h; cases h
  | bad => rw [h1] at h; cases h
theorem behind_ok {op : CmpOp} {b : Expr} (h : (!behindInMarks op b) = true) : behindInMarks op b = false := by simpa using h
theorem r_cmp (hK : c.K = X.K) (hu : X.A.units + 64 < cLine) (o : Cop) {fa fb : Es → R Bv} {a b : Expr} {pos : Pos} (ha : PE X a (tBo c W fa)) (hb : PE X b (tBo c W fb)) (hm : behindInMarks (copOp o) b = false) :
    PE X (.Compare a [copOp o] [b] pos) (tE c W (evCmp o fa fb)) := Pv.PE.imp (pe_cmpR (cmpR hu o) ha hb hm) fun σ H Q h => by
  have := cmp_imp h
  rw [hK] at this
  exact this
theorem t_cmp (hK : c.K = X.K) (hu : X.A.units + 64 < cLine) (o : Cop) {fa fb : Es → R Bv} {a b : Expr} {pos : Pos} (ha : PE X a (tBo c W fa)) (hb : PE X b (tBo c W fb)) (hm : behindInMarks (copOp o) b = false) :
    PT X (.Compare a [copOp o] [b] pos) (tTe c W (toT (evCmp o fa fb))) := Pv.PT.imp (pt_cmpR (cmpR hu o) ha hb hm) fun σ H Q h => by
  have := cmp_imp (toT_imp h)
  rw [hK] at this
  exact this
/-! chains -/
def evCmp2 (o o' : Cop) (fa fb fc : Es → R Sl) : Es → R Sl := fun e => (fa e).bind fun x e1 => (fb e1).bind fun y e2 => match x, y with
  | .val d, .val d' => (match cmpD o d d' with
    | some true => (fc e2).bind fun z e3 => (match z with
      | .val d'' => retD (cmpD o' d' d'') (fun b => .val (.bl b)) e3
      | _ => .bad)
    | some false => .ok (.val (.bl false)) e2
    | none => .bad)
  | _, _ => .bad
theorem cmp2_imp {fa fb fc : Es → R Sl} {o o' : Cop} {Q : VK} (h : tE c W (evCmp2 o o' fa fb fc) σ H Q) : tChain (rC c.K o) (rC c.K o') (tE c W fa) (tE c W fb) (tE c W fc) σ H Q := by
  obtain ⟨e, Z, E, p⟩ := h
  refine ⟨e, Z, E, (Post.bind p).imp fun x e1 Z1 H1 t1 E1 p1 v1 r1 => ⟨e1, Z1, E1, (Post.bind p1).imp fun y e2 Z2 H2 t2 E2 p2 v2 r2 => ?_⟩⟩
  have r1' := TmpR.tr E1 t2 r1
  split at p2
  · rename_i d d'
    split at p2
    · rename_i hc
      refine ⟨Z2, d, d', true, Rp.q r1', Rp.q r2, hc, true, rfl, ?_⟩
      rw [if_pos rfl]
      refine ⟨e2, Z2, E2, (Post.bind p2).imp fun z e3 Z3 H3 t3 E3 p3 v3 r3 => ?_⟩
      split at p3
      · rename_i d''
        unfold retD at p3
        split at p3
        · rename_i b hb
          exact ⟨Z3, d', d'', b, Rp.q (Rp.tr E2 t3 r2), Rp.q r3, hb, Post.ok_now p3 E3 _ (tm_bl b)⟩
        · exact p3.elim
      · exact p3.elim
    · rename_i hc
      refine ⟨Z2, d, d', false, Rp.q r1', Rp.q r2, hc, false, rfl, ?_⟩
      rw [if_neg Bool.false_ne_true]
      exact Post.ok_now p2 E2 _ (tm_bl false)
    · exact p2.elim
  · exact p2.elim
theorem cmp2_bl {fa fb fc : Es → R Sl} {o o' : Cop} : ∀ e s e', evCmp2 o o' fa fb fc e = .ok s e' → ∃ b, s = .val (.bl b) := by
  intro e s e' h
  unfold evCmp2 at h
  cases h1 : fa e with
  | ok x e1 =>
    rw [h1] at h
    cases h2 : fb e1 with
    | ok y e2 =>
      simp only [R.bind] at h
      rw [h2] at h
      simp only at h
      split at h
      · split at h
        · cases h3 : fc e2 with
          | ok z e3 =>
            rw [h3] at h
            simp only at h
            split at h
            · unfold retD at h
              split at h
              · cases h
                exact ⟨_, rfl⟩
              · cases h
            · cases h
          | exc _ _ _ => rw [h3] at h; cases h
          | bad => rw [h3] at h; cases h
        · cases h
          exact ⟨_, rfl⟩
        · cases h
      · cases h
    | exc _ _ _ => simp only [R.bind] at h; rw [h2] at h; cases h
    | bad => simp only [R.bind] at h; rw [h2] at h; cases h
  | exc _ _ _ => rw [h1] at h; cases h
  | bad => rw [h1] at h; cases h
theorem r_cmp2 (hK : c.K = X.K) (hu : X.A.units + 64 < cLine) (o o' : Cop) {fa fb fc : Es → R Sl} {a b d : Expr} {pos : Pos} (ha : PE X a (tE c W fa)) (hb : PE X b (tE c W fb)) (hd : PE X d (tE c W fc)) (hm : lastMarks [copOp o, copOp o'] [b, d] = false) :
    PE X (.Compare a [copOp o, copOp o'] [b, d] pos) (tE c W (evCmp2 o o' fa fb fc)) := Pv.PE.imp (pe_chain (cmpR hu o) (cmpR hu o') ha hb hd hm) fun σ H Q h => by
  have := cmp2_imp h
  rw [hK] at this
  exact this
theorem t_cmp2 (hK : c.K = X.K) (hu : X.A.units + 64 < cLine) (o o' : Cop) {fa fb fc : Es → R Sl} {a b d : Expr} {pos : Pos} (ha : PE X a (tE c W fa)) (hb : PE X b (tE c W fb)) (hd : PE X d (tE c W fc)) (hm : lastMarks [copOp o, copOp o'] [b, d] = false) :
    PT X (.Compare a [copOp o, copOp o'] [b, d] pos) (tTe c W (toT (evCmp2 o o' fa fb fc))) := Pv.PT.imp (pt_chain (cmpR hu o) (cmpR hu o') ha hb hd hm) fun σ H Q h => by
  have := cmp2_imp (toT_imp h)
  rw [hK] at this
  exact this
/-! is -/
def evIs (n : Bool) (k : Option Bool) (fa : Es → R Bv) : Es → R Sl := fun e => (fa e).bind fun x e1 => retD (look e1 x) (fun d => .val (.bl (isD k d != n))) e1
theorem is_imp {fa : Es → R Bv} {n : Bool} {k : Option Bool} {Q : VK} (h : tE c W (evIs n k fa) σ H Q) : tBo c W fa σ H fun x H1 => rIs c.K n k x H1 Q := by
  obtain ⟨e, Z, E, p⟩ := h
  refine ⟨e, Z, E, (Post.bind p).imp fun x e1 Z1 H1 t1 E1 p1 v1 r1 => ?_⟩
  unfold retD at p1
  split at p1
  · rename_i d l
    exact ⟨Z1, d, look_rq E1 r1 l, Post.ok_now p1 E1 _ (tm_bl _)⟩
  · exact p1.elim
theorem is_bl {fa : Es → R Bv} {n : Bool} {k : Option Bool} : ∀ e s e', evIs n k fa e = .ok s e' → ∃ b, s = .val (.bl b) := by
  intro e s e' h
  unfold evIs at h
  cases h1 : fa e with
  | ok x e1 =>
    rw [h1] at h
    have h : retD (look e1 x) (fun d => Sl.val (.bl (isD k d != n))) e1 = R.ok s e' := h
    unfold retD at h
    split at h
    · cases h
      exact ⟨_, rfl⟩
    · cases h
  | exc _ _ _ => rw [h1] at h; cases h
  | bad => rw [h1] at h; cases h
theorem r_is (hK : c.K = X.K) (n : Bool) (k : Option Bool) {fa : Es → R Bv} {a : Expr} {j : Nat} {pos pos' : Pos} (ha : PE X a (tBo c W fa)) :
    PE X (.Compare a [if n then .IsNot else .Is] [.Constant (cOf k) j pos'] pos) (tE c W (evIs n k fa)) := Pv.PE.imp (pe_isC n ha) fun σ H Q h => by
  have := is_imp h
  rw [hK] at this
  exact this
theorem pt_isC {a : Expr} {k : Option Bool} {ta : TE} {j : Nat} {pos pos' : Pos} (neg : Bool) (ha : PE X a ta) :
    PT X (.Compare a [if neg then .IsNot else .Is] [.Constant (cOf k) j pos'] pos) (tTest fun σ H Q => ta σ H fun x H1 => rIs X.K neg k x H1 Q) := by
  refine ⟨fun pins s σ H Q I h => ?_⟩
  have con : ∀ {Q' : Value → Shared → Prop} {s1 : Shared} {H1 : Hp}, Inv X pins σ H1 s1 → (∀ cv s2, RelV (cV k) cv → Inv X pins σ H1 s2 → Q' cv s2) → wpAny (model X.prog X.w) X.A (eval (.Constant (cOf k) j pos') X.env) Q' X.xe s1 := fun {Q' s1 H1} I1 q => by
    cases k with
    | none => exact Constant_none (q _ _ rfl I1)
    | some b => exact Constant_bool (q _ _ rfl I1)
  refine wpAny_isTrue_Compare1 ?_ (by cases neg <;> rfl)
  refine thn (ha.run pins s σ H _ I h) fun v s1 ⟨x, H1, I1, r1, Z, d, hd, b, eb, q⟩ => ?_
  cases eb
  refine con I1 fun cv s2 hc I2 => ?_
  obtain ⟨hp, he⟩ := is_con (X := X) hc r1 hd
  cases neg with
  | false =>
    refine wpAny_is_plain hp ?_
    rw [he]
    exact wpAny_truthy_bool ⟨H1, I2, by simpa using q⟩
  | true =>
    refine wpAny_isNot_plain hp ?_
    rw [he]
    exact wpAny_truthy_bool ⟨H1, I2, by simpa using q⟩
theorem t_is (hK : c.K = X.K) (n : Bool) (k : Option Bool) {fa : Es → R Bv} {a : Expr} {j : Nat} {pos pos' : Pos} (ha : PE X a (tBo c W fa)) :
    PT X (.Compare a [if n then .IsNot else .Is] [.Constant (cOf k) j pos'] pos) (tTe c W (toT (evIs n k fa))) := Pv.PT.imp (pt_isC n ha) fun σ H Q h => by
  have := is_imp (toT_imp h)
  rw [hK] at this
  exact this
/-! ### truth -/
def plainT : Expr → Bool
  | .BoolOp .. => false
  | .UnaryOp .Not _ _ => false
  | .IfExp .. => false
  | .Compare .. => false
  | _ => true
theorem isTrue_of {a : Expr} {env : PySem.Env} (h : plainT a = true) : ∀ whole, isTrue a env whole = (do let v ← whole; standAt a.pos; holding [v] (truthy v)) := by
  intro wh
  cases a <;> first | rfl | (cases h; done) | skip
  rename_i op _ _
  cases op <;> first | rfl | cases h
theorem t_tst (hK : c.K = X.K) {fa : Es → R Bv} {a : Expr} (hp : plainT a = true) (ha : PE X a (tBo c W fa)) : PT X a (tTe c W fun e => (fa e).bind fun x e1 => retD ((look e1 x).bind truthD) id e1) :=
  Pv.PT.imp (pt_truth ha (isTrue_of hp)) fun σ H Q ⟨e, Z, E, p⟩ => by
    refine ⟨e, Z, E, (Post.bind p).imp fun x e1 Z1 H1 t1 E1 p1 v1 r1 => ?_⟩
    unfold retD at p1
    split at p1
    · rename_i b l
      rw [Option.bind_eq_some_iff] at l
      obtain ⟨d, l1, l2⟩ := l
      refine ⟨b, ?_, Post.ok_now p1 E1⟩
      rw [← hK]
      exact tru_of (look_rq E1 r1 l1) l2
    · exact p1.elim
theorem t_not {f : Es → R Bool} {a : Expr} {pos : Pos} (ha : PT X a (tTe c W f)) : PT X (.UnaryOp .Not a pos) (tTe c W fun e => (f e).bind fun b e1 => .ok (!b) e1) := Pv.PT.imp (pt_not ha) fun σ H Q ⟨e, Z, E, p⟩ => by
  exact ⟨e, Z, E, (Post.bind p).imp fun b e1 Z1 H1 t1 E1 p1 => Post.ok_now p1 E1⟩
theorem r_not {f : Es → R Bool} {a : Expr} {pos : Pos} (ha : PT X a (tTe c W f)) (hn : PE X (.UnaryOp .Not a pos) (fun σ H Q => tTe c W f σ H fun b H1 => Q (.bl (!b)) H1)) : PE X (.UnaryOp .Not a pos) (tE c W fun e => (f e).bind fun b e1 => .ok (.val (.bl (!b))) e1) := Pv.PE.imp hn fun σ H Q ⟨e, Z, E, p⟩ => by
  exact ⟨e, Z, E, (Post.bind p).imp fun b e1 Z1 H1 t1 E1 p1 => Post.ok_now p1 E1 _ (tm_bl _)⟩
/-- and, or as tests -/
theorem t_and {f g : Es → R Bool} {a b : Expr} {rest : List Expr} {pos : Pos} (ha : PT X a (tTe c W f)) (hb : PW X (.BoolOp .And (b :: rest) pos) (tTe c W g)) :
    PW X (.BoolOp .And (a :: b :: rest) pos) (tTe c W fun e => (f e).bind fun t e1 => if t then g e1 else .ok false e1) := Pv.PW.imp (pw_and ha hb) fun σ H Q ⟨e, Z, E, p⟩ => by
  refine ⟨e, Z, E, (Post.bind p).imp fun b e1 Z1 H1 t1 E1 p1 => ?_⟩
  cases b with
  | true => exact ⟨e1, Z1, E1, p1⟩
  | false => exact Post.ok_now p1 E1
theorem t_or {f g : Es → R Bool} {a b : Expr} {rest : List Expr} {pos : Pos} (ha : PT X a (tTe c W f)) (hb : PW X (.BoolOp .Or (b :: rest) pos) (tTe c W g)) :
    PW X (.BoolOp .Or (a :: b :: rest) pos) (tTe c W fun e => (f e).bind fun t e1 => if t then .ok true e1 else g e1) := Pv.PW.imp (pw_or ha hb) fun σ H Q ⟨e, Z, E, p⟩ => by
  refine ⟨e, Z, E, (Post.bind p).imp fun b e1 Z1 H1 t1 E1 p1 => ?_⟩
  cases b with
  | true => exact Post.ok_now p1 E1
  | false => exact ⟨e1, Z1, E1, p1⟩
/-- .. as values -/
def evAnd (f g : Es → R Sl) : Es → R Sl := fun e => (f e).bind fun s e1 => match s with
  | .val (.bl true) => g e1
  | .val (.bl false) => .ok (.val (.bl false)) e1
  | _ => .bad
def evOr (f g : Es → R Sl) : Es → R Sl := fun e => (f e).bind fun s e1 => match s with
  | .val (.bl true) => .ok (.val (.bl true)) e1
  | .val (.bl false) => g e1
  | _ => .bad
theorem bl_of {b : Bool} {v : V} (r : TmpR c H₀ Z H σ e (.val (.bl b)) v) : v = .bl b := rp_bl (K := c.K) (Z := Z) (H := H) r
theorem int_of {i : Int} {v : V} (r : TmpR c H₀ Z H σ e (.val (.int i)) v) : v = .int i := rp_int (K := c.K) (Z := Z) (H := H) r
theorem r_and {f g : Es → R Sl} {a b : Expr} {rest : List Expr} {pos : Pos} (ha : PE X a (tE c W f)) (hb : PE X (.BoolOp .And (b :: rest) pos) (tE c W g)) :
    PE X (.BoolOp .And (a :: b :: rest) pos) (tE c W (evAnd f g)) := Pv.PE.imp (pe_and ha hb) fun σ H Q ⟨e, Z, E, p⟩ => by
  refine ⟨e, Z, E, (Post.bind p).imp fun s e1 Z1 H1 t1 E1 p1 v r => ?_⟩
  split at p1
  · refine ⟨true, bl_of r, ?_⟩
    rw [if_pos rfl]
    refine ⟨e1, Z1, E1, p1.imp fun s2 e2 Z2 H2 t2 E2 q w r2 => q w (TmpR.older (back_none t1) r2)⟩
  · refine ⟨false, bl_of r, ?_⟩
    rw [if_neg Bool.false_ne_true]
    exact Post.ok_now p1 E1 _ (tm_bl false)
  · exact p1.elim
theorem r_or {f g : Es → R Sl} {a b : Expr} {rest : List Expr} {pos : Pos} (ha : PE X a (tE c W f)) (hb : PE X (.BoolOp .Or (b :: rest) pos) (tE c W g)) :
    PE X (.BoolOp .Or (a :: b :: rest) pos) (tE c W (evOr f g)) := Pv.PE.imp (pe_or ha hb) fun σ H Q ⟨e, Z, E, p⟩ => by
  refine ⟨e, Z, E, (Post.bind p).imp fun s e1 Z1 H1 t1 E1 p1 v r => ?_⟩
  split at p1
  · refine ⟨true, bl_of r, ?_⟩
    rw [if_pos rfl]
    exact Post.ok_now p1 E1 _ (tm_bl true)
  · refine ⟨false, bl_of r, ?_⟩
    rw [if_neg Bool.false_ne_true]
    refine ⟨e1, Z1, E1, p1.imp fun s2 e2 Z2 H2 t2 E2 q w r2 => q w (TmpR.older (back_none t1) r2)⟩
  · exact p1.elim
theorem r_neg {f : Es → R Sl} {a : Expr} {pos : Pos} (ha : PE X a (tE c W f)) : PE X (.UnaryOp .USub a pos) (tE c W fun e => (f e).bind fun s e1 => match s with
    | .val (.int i) => .ok (.val (.int (-i))) e1
    | _ => .bad) := Pv.PE.imp (pe_un un_neg ha) fun σ H Q ⟨e, Z, E, p⟩ => by
  refine ⟨e, Z, E, (Post.bind p).imp fun s e1 Z1 H1 t1 E1 p1 v r => ?_⟩
  split at p1
  · exact ⟨_, int_of r, Post.ok_now p1 E1 _ (tm_int _)⟩
  · exact p1.elim
theorem r_ite {f : Es → R Bool} {g h : Es → R Sl} {t a b : Expr} {pos : Pos} (ht : PT X t (tTe c W f)) (ha : PE X a (tE c W g)) (hb : PE X b (tE c W h)) :
    PE X (.IfExp t a b pos) (tE c W fun e => (f e).bind fun t e1 => if t then g e1 else h e1) := Pv.PE.imp (pe_ifExp ht ha hb) fun σ H Q ⟨e, Z, E, p⟩ => by
  refine ⟨e, Z, E, (Post.bind p).imp fun b e1 Z1 H1 t1 E1 p1 => ?_⟩
  cases b with
  | true =>
    rw [if_pos rfl]
    exact ⟨e1, Z1, E1, p1.imp fun s2 e2 Z2 H2 t2 E2 q w r2 => q w (TmpR.older (back_none t1) r2)⟩
  | false =>
    rw [if_neg Bool.false_ne_true]
    exact ⟨e1, Z1, E1, p1.imp fun s2 e2 Z2 H2 t2 E2 q w r2 => q w (TmpR.older (back_none t1) r2)⟩
/-! ### rows of expressions -/
theorem v_nil : PA X [] (tVs c W fun e => .ok [] e) := Pv.PA.imp pa_nil fun σ H Q ⟨e, Z, E, p⟩ => Post.ok_now p E [] rps_nil
theorem v_cons {f : Es → R D} {g : Es → R (List D)} {a : Expr} {r : List Expr} (ha : PE X a (tV c W f)) (hr : PA X r (tVs c W g)) (hs : starEach (a :: r) X.env = (false, eval a X.env) :: starEach r X.env) :
    PA X (a :: r) (tVs c W fun e => (f e).bind fun d e1 => (g e1).bind fun ds e2 => .ok (d :: ds) e2) := Pv.PA.imp (pa_cons ha hr hs) fun σ H Q ⟨e, Z, E, p⟩ => by
  refine ⟨e, Z, E, (Post.bind p).imp fun d e1 Z1 H1 t1 E1 p1 v r1 => ⟨e1, Z1, E1, (Post.bind p1).imp fun ds e2 Z2 H2 t2 E2 p2 vs r2 => ?_⟩⟩
  exact Post.ok_now p2 E2 _ (rps_cons (Rp.tr E1 t2 r1) r2)
theorem b_nil : PA X [] (tBs c W fun e => .ok [] e) := Pv.PA.imp pa_nil fun σ H Q ⟨e, Z, E, p⟩ => Post.ok_now p E [] rfl
theorem tmp_here {bs : List Bv} : ∀ {vs : List V}, BvsR c H₀ Z H σ e bs vs → ∀ (j : Nat) ds, bs[j]? = some (.tmp ds) → ∃ a, vs[j]? = some (.ref a) ∧ H₀ a = none := by
  induction bs with
  | nil => intro vs h j ds e1; simp at e1
  | cons b bs ih =>
    intro vs h j ds e1
    obtain ⟨v, r, rfl, h1, h2, _⟩ := h
    cases j with
    | zero =>
      have e2 : b = .tmp ds := by simpa using e1
      subst e2
      obtain ⟨a, xs, e3, e4, _⟩ := h1
      exact ⟨a, by rw [e3]; rfl, e4⟩
    | succ j => exact ih h2 j ds (by simpa using e1)
theorem b_cons {f : Es → R Bv} {g : Es → R (List Bv)} {a : Expr} {r : List Expr} (ha : PE X a (tBo c W f)) (hr : PA X r (tBs c W g)) (hs : starEach (a :: r) X.env = (false, eval a X.env) :: starEach r X.env) :
    PA X (a :: r) (tBs c W fun e => (f e).bind fun d e1 => (g e1).bind fun ds e2 => .ok (d :: ds) e2) := Pv.PA.imp (pa_cons ha hr hs) fun σ H Q ⟨e, Z, E, p⟩ => by
  refine ⟨e, Z, E, (Post.bind p).imp fun d e1 Z1 H1 t1 E1 p1 v r1 => ⟨e1, Z1, E1, (Post.bind p1).imp fun ds e2 Z2 H2 t2 E2 p2 vs r2 => ?_⟩⟩
  refine Post.ok_now p2 E2 _ ⟨v, vs, rfl, BvR.tr E1 t2 r1, BvsR.older (back_none t1) r2, fun ds e3 j ds' e4 e5 => ?_⟩
  subst e3
  obtain ⟨a, e6, e7⟩ := tmp_here r2 j ds' e4
  obtain ⟨b, xs, e8, _, e9, _⟩ := r1
  rw [e6, e8] at e5
  cases e5
  rw [e7] at e9
  cases e9
/-! displays -/
theorem r_tup {f : Es → R (List D)} {es : List Expr} {k : Nat} {pos : Pos} (h : PA X es (tVs c W f)) : PE X (.Tuple es k pos) (tE c W fun e => (f e).bind fun ds e1 => if ds.length ≤ sizeMax then .ok (.val (.tup ds)) e1 else .bad) := Pv.PE.imp (pe_tup h) fun σ H Q ⟨e, Z, E, p⟩ => by
  refine ⟨e, Z, E, (Post.bind p).imp fun ds e1 Z1 H1 t1 E1 p1 vs r1 => ?_⟩
  split at p1
  · rename_i hl
    refine ⟨by rw [r1.len, ← sizeMax_eq]; exact hl, fun a ha => ?_⟩
    have sm := same_new (o := .tup vs) ha
    exact Post.ok_ext p1 E1 sm _ (mk_tup upd_same (r1.mono (Same.keep sm) fun _ z => z))
  · exact p1.elim
theorem r_lst {f : Es → R (List D)} {es : List Expr} {pos : Pos} (h : PA X es (tVs c W f)) : PE X (.List es pos) (tE c W fun e => (f e).bind fun ds e1 => if ds.length ≤ sizeMax then .ok (.own ds) e1 else .bad) := Pv.PE.imp (pe_lst h) fun σ H Q ⟨e, Z, E, p⟩ => by
  refine ⟨e, Z, E, (Post.bind p).imp fun ds e1 Z1 H1 t1 E1 p1 vs r1 => ?_⟩
  split at p1
  · rename_i hl
    refine ⟨by rw [r1.len, ← sizeMax_eq]; exact hl, fun a ha => ?_⟩
    have sm := same_new (o := .lst vs) ha
    exact Post.ok_ext p1 E1 sm _ (tmp_new E1 (back_none t1) sm ⟨a, vs, rfl, ha, upd_same, r1.mono (Same.keep sm) fun _ z => z⟩)
  · exact p1.elim
/-! subscripts -/
theorem r_ix (hK : c.K = X.K) {fa : Es → R Bv} {fb : Es → R Sl} {a b : Expr} {pos : Pos} (ha : PE X a (tBo c W fa)) (hb : PE X b (tE c W fb)) (hp : PlainIx b) :
    PE X (.Subscript a b pos) (tE c W fun e => (fa e).bind fun x e1 => (fb e1).bind fun y e2 => match look e2 x, y with
      | some d, .val i => retD (ixD d i) .val e2
      | _, _ => .bad) := Pv.PE.imp (pe_ix ixR ha hb hp) fun σ H Q ⟨e, Z, E, p⟩ => by
  refine ⟨e, Z, E, (Post.bind p).imp fun x e1 Z1 H1 t1 E1 p1 v1 r1 => ⟨e1, Z1, E1, (Post.bind p1).imp fun y e2 Z2 H2 t2 E2 p2 v2 r2 => ?_⟩⟩
  have r1' := BvR.tr E1 t2 r1
  split at p2
  · rename_i d i l1
    unfold retD at p2
    split at p2
    · rename_i s hs
      rw [← hK]
      exact ⟨Z2, d, i, s, look_rq E2 r1' l1, Rp.q r2, hs, fun v n => Post.ok_now p2 E2 v n⟩
    · exact p2.elim
  · exact p2.elim
theorem o_none : PO X none (tOi c W fun e => .ok none e) := Pv.PO.imp po_none fun σ H Q ⟨e, Z, E, p⟩ => Post.ok_now p E
theorem o_some {f : Es → R Sl} {a : Expr} (ha : PE X a (tE c W f)) : PO X (some a) (tOi c W fun e => (f e).bind fun s e1 => match s with
    | .val (.int i) => .ok (some i) e1
    | _ => .bad) := Pv.PO.imp (po_some ha) fun σ H Q ⟨e, Z, E, p⟩ => by
  refine ⟨e, Z, E, (Post.bind p).imp fun s e1 Z1 H1 t1 E1 p1 v r => ?_⟩
  split at p1
  · exact ⟨_, int_of r, Post.ok_now p1 E1⟩
  · exact p1.elim
theorem r_sl (hK : c.K = X.K) {fa : Es → R Bv} {fl fh : Es → R (Option Int)} {a : Expr} {lo hi : Option Expr} {p2 pos : Pos} (ha : PE X a (tBo c W fa)) (hl : PO X lo (tOi c W fl)) (hh : PO X hi (tOi c W fh)) :
    PE X (.Subscript a (.Slice lo hi none p2) pos) (tE c W fun e => (fa e).bind fun x e1 => (fl e1).bind fun l e2 => (fh e2).bind fun h e3 => match look e3 x with
      | some d => retD (slD d l h) id e3
      | none => .bad) := Pv.PE.imp (pe_slice slR ha hl hh) fun σ H Q ⟨e, Z, E, p⟩ => by
  refine ⟨e, Z, E, (Post.bind p).imp fun x e1 Z1 H1 t1 E1 p1 v1 r1 => ⟨e1, Z1, E1, (Post.bind p1).imp fun l e2 Z2 H2 t2 E2 p2 => ⟨e2, Z2, E2, (Post.bind p2).imp fun h e3 Z3 H3 t3 E3 p3 => ?_⟩⟩⟩
  have r1' := BvR.tr E2 t3 (BvR.tr E1 t2 r1)
  split at p3
  · rename_i d l1
    unfold retD at p3
    split at p3
    · rename_i s hs
      rw [← hK]
      exact ⟨Z3, d, s, look_rq E3 r1' l1, hs, fun v H' sm n => Post.ok_ext p3 E3 sm v (tmp_new E3 (fun a h => back_none t1 a (back_none t2 a (back_none t3 a h))) sm n)⟩
    · exact p3.elim
  · exact p3.elim
/-! built-ins -/
theorem bs_imp {f : Es → R (List Bv)} {g : List D → Option Sl} {Q : VK} (h : tE c W (fun e => (f e).bind fun bs e1 => match looks e1 bs with
      | some ds => retD (g ds) id e1
      | none => .bad) σ H Q) : tCB (rO1 c.K g) (tBs c W f) σ H Q := by
  obtain ⟨e, Z, E, p⟩ := h
  refine ⟨e, Z, E, (Post.bind p).imp fun bs e1 Z1 H1 t1 E1 p1 vs r1 => ?_⟩
  split at p1
  · rename_i ds l
    unfold retD at p1
    split at p1
    · rename_i s hs
      exact ⟨Z1, ds, s, looks_rqs E1 r1 l, hs, fun v H' sm n => Post.ok_ext p1 E1 sm v (tmp_new E1 (back_none t1) sm n)⟩
    · exact p1.elim
  · exact p1.elim
end
end Pv
set_option maxRecDepth 100000
set_option maxHeartbeats 2000000
namespace Pv
open PySem PySem.Spec PyProof.Rows L2
/-! ## Calls of the program's own defs -/
def Cn.arg (c : Cn) : Cn := { c with B := fun _ => False, np := 0, xa := none, pr := fun _ => false }
def Arg (c : Cn) (Z : Addr → Prop) (H : Hp) (vs : List V) (ss : List Sl) : Prop := EnvR c.arg Z H (vs.map some) (ss.map some)
def OwA (vs : List V) (ss : List Sl) (a : Addr) : Prop := OwnA (vs.map some) (ss.map some) a
structure FT (Z : Addr → Prop) (H : Hp) (Ow : Addr → Prop) (Z' : Addr → Prop) (H' : Hp) : Prop where
  keep : ∀ a o, H a = some o → ¬ Ow a → H' a = some o
  zle : ∀ a, Z a → Z' a
  znew : ∀ a, Z' a → Z a ∨ H a = none ∨ Ow a
  here : ∀ a, H a ≠ none → H' a ≠ none
def isList (s : Sl) : Prop := ∃ ds, s = .own ds ∨ s = .lck ds
def Outs (c : Cn) (pr : Nat → Bool) (Z' : Addr → Prop) (H' : Hp) (vs : List V) (ss : List Sl) (ce : Es) : Prop :=
  ∀ (i : Nat) (s s' : Sl), pr i = true → ss[i]? = some s → isList s → getS ce i = some s' → ∃ v, vs[i]? = some v ∧ SlotR c.arg Z' H' s' (some (some v)) ∧ ((∃ ds, s = .lck ds) → ∃ ds', s' = .lck ds')
def RetR (c : Cn) (H : Hp) (Z' : Addr → Prop) (H' : Hp) : Sl → V → Prop
  | .val d, v => Rp c.K Z' H' d v
  | .own ds, v => ∃ a xs, v = .ref a ∧ H a = none ∧ H' a = some (.lst xs) ∧ ¬ Z' a ∧ Rps c.K Z' H' ds xs
  | _, _ => False
def PostF (c : Cn) (pr : Nat → Bool) (Z : Addr → Prop) (H : Hp) (vs : List V) (ss : List Sl) (r : R Sl) (Q : VK) (E : XK) : Prop := match r with
  | .ok s ce => ∀ v Z' H', FT Z H (OwA vs ss) Z' H' → (∀ a, Z' a → H' a ≠ none) → Outs c pr Z' H' vs ss ce → RetR c H Z' H' s v → Q v H'
  | .exc cl d ce => ∀ dx Z' H', FT Z H (OwA vs ss) Z' H' → (∀ a, Z' a → H' a ≠ none) → Outs c pr Z' H' vs ss ce → ExcD c.arg Z' H' cl d dx → E (.ref (c.clA cl)) dx H'
  | .bad => False
/-- the promise of a def whose calls are worth g -/
def spF (c : Cn) (pr : Nat → Bool) (n : Nat) (g : List Sl → R Sl) : Sp := fun vs H Q E => vs.length = n ∧ ∃ Z ss, Arg c Z H vs ss ∧ PostF c pr Z H vs ss (g ss) Q E
section
variable {c : Cn} {W : WX} {X : Cx} {σ : L2.St} {e e' : Es} {Z Z' : Addr → Prop} {H H' H₀ : Hp}
theorem bvs_len : ∀ {bs : List Bv} {vs : List V}, BvsR c H₀ Z H σ e bs vs → vs.length = bs.length
  | [], vs, h => by rw [show vs = [] from h]; rfl
  | b :: bs, _, h => by
    obtain ⟨v, r, rfl, _, h2, _⟩ := h
    rw [List.length_cons, List.length_cons, bvs_len h2]
theorem bvs_get : ∀ {bs : List Bv} {vs : List V} {p : Nat} {b : Bv}, BvsR c H₀ Z H σ e bs vs → bs[p]? = some b → ∃ v, vs[p]? = some v ∧ BvR c H₀ Z H σ e b v
  | [], _, _, _, _, h2 => by simp at h2
  | b :: bs, _, 0, b', h, h2 => by
    obtain ⟨v, r, rfl, h1, _, _⟩ := h
    have e2 : b = b' := by simpa using h2
    exact ⟨v, rfl, e2 ▸ h1⟩
  | b :: bs, _, p + 1, b', h, h2 => by
    obtain ⟨v, r, rfl, _, h3, _⟩ := h
    obtain ⟨w, h4, h5⟩ := bvs_get (p := p) h3 (by simpa using h2)
    exact ⟨w, by simpa using h4, h5⟩
theorem bvs_tmp : ∀ {bs : List Bv} {vs : List V} {p q : Nat} {ds ds' : List D} {v : V}, BvsR c H₀ Z H σ e bs vs → p < q → bs[p]? = some (.tmp ds) → bs[q]? = some (.tmp ds') → vs[p]? = some v → vs[q]? ≠ some v
  | [], _, _, _, _, _, _, _, _, h2, _, _ => by simp at h2
  | b :: bs, _, 0, q + 1, ds, ds', v, h, _, h2, h3, h4 => by
    obtain ⟨w, r, rfl, _, _, h5⟩ := h
    have e2 : b = .tmp ds := by simpa using h2
    have e3 : w = v := by simpa using h4
    subst e3
    simpa using h5 ds e2 q ds' (by simpa using h3)
  | b :: bs, _, p + 1, q + 1, ds, ds', v, h, hl, h2, h3, h4 => by
    obtain ⟨w, r, rfl, _, h5, _⟩ := h
    simpa using bvs_tmp (p := p) (q := q) h5 (by omega) (by simpa using h2) (by simpa using h3) (by simpa using h4)
  | _ :: _, _, _ + 1, 0, _, _, _, _, hl, _, _, _ => by omega
theorem lent_in : ∀ {bs : List Bv} {p i : Nat}, bs[p]? = some (.slot i) → i ∈ lent bs
  | [], _, _, h => by simp at h
  | b :: bs, 0, i, h => by
    have e : b = .slot i := by simpa using h
    subst e
    exact List.mem_cons_self
  | b :: bs, p + 1, i, h => by
    have := lent_in (p := p) (show bs[p]? = some (.slot i) by simpa using h)
    cases b with
    | slot j => exact List.mem_cons_of_mem _ this
    | val d => exact this
    | tmp d => exact this
theorem lent_uniq : ∀ {bs : List Bv} {p q i : Nat}, (lent bs).Nodup → bs[p]? = some (.slot i) → bs[q]? = some (.slot i) → p = q
  | [], _, _, _, _, h, _ => by simp at h
  | b :: bs, 0, 0, _, _, _, _ => rfl
  | b :: bs, 0, q + 1, i, n, h, h' => by
    have e : b = .slot i := by simpa using h
    subst e
    exact absurd (lent_in (show bs[q]? = some (.slot i) by simpa using h')) (List.nodup_cons.mp n).1
  | b :: bs, p + 1, 0, i, n, h, h' => by
    have e : b = .slot i := by simpa using h'
    subst e
    exact absurd (lent_in (show bs[p]? = some (.slot i) by simpa using h)) (List.nodup_cons.mp n).1
  | b :: bs, p + 1, q + 1, i, n, h, h' => by
    have n' : (lent bs).Nodup := by
      cases b with
      | slot j => exact (List.nodup_cons.mp n).2
      | val d => exact n
      | tmp d => exact n
    rw [lent_uniq (p := p) (q := q) n' (by simpa using h) (by simpa using h')]
theorem argSs_get : ∀ {bs : List Bv} {ss : List Sl}, argSs e bs = some ss → ss.length = bs.length ∧ ∀ (p : Nat) (b : Bv), bs[p]? = some b → ∃ s, ss[p]? = some s ∧ argS e b = some s
  | [], ss, h => by
    cases h
    exact ⟨rfl, fun p b h => by simp at h⟩
  | b :: bs, ss, h => by
    simp only [argSs] at h
    split at h
    · rename_i s hs
      split at h
      · rename_i ss' hss
        cases h
        obtain ⟨l, g⟩ := argSs_get hss
        refine ⟨by rw [List.length_cons, List.length_cons, l], fun p b' hp => ?_⟩
        cases p with
        | zero =>
          have e2 : b = b' := by simpa using hp
          exact ⟨s, rfl, e2 ▸ hs⟩
        | succ p =>
          obtain ⟨s', h1, h2⟩ := g p b' (by simpa using hp)
          exact ⟨s', by simpa using h1, h2⟩
      · cases h
    · cases h
theorem prep_ok (pr : Nat → Bool) : ∀ {bs : List Bv} {p : Nat} {e : Es} {Z : Addr → Prop} {vs : List V} {bs' : List Bv} {e1 : Es}, prep pr p bs e = some (bs', e1) → BvsR c H₀ Z H σ e bs vs → EnvR c Z H σ e →
    ∃ Z1, Tr σ e Z H σ e1 Z1 H ∧ EnvR c Z1 H σ e1 ∧ BvsR c H₀ Z1 H σ e1 bs' vs ∧ (∀ j i, bs'[j]? = some (.slot i) → pr (p + j) = true) ∧ ∀ (j : Nat) ds, bs'[j]? = some (.tmp ds) → bs[j]? = some (.tmp ds) := by
  intro bs
  induction bs with
  | nil =>
    intro p e Z vs bs' e1 h hb E
    cases h
    exact ⟨Z, Tr.refl, E, hb, fun j i h => by simp at h, fun j ds h => by simp at h⟩
  | cons b bs ih =>
    intro p e Z vs bs' e1 h hb E
    obtain ⟨v, r, rfl, h1, h2, h3⟩ := hb
    -- the rest done, the head kept
    have fin : ∀ {e2 : Es} {Z2 : Addr → Prop} {b' : Bv} {r' : List Bv}, Tr σ e Z H σ e2 Z2 H → EnvR c Z2 H σ e2 → BvsR c H₀ Z2 H σ e2 bs r → BvR c H₀ Z2 H σ e2 b' v → (∀ ds, b' = .tmp ds → b = .tmp ds) → (∀ i, b' = .slot i → pr p = true) →
        prep pr (p + 1) bs e2 = some (r', e1) → ∃ Z1, Tr σ e Z H σ e1 Z1 H ∧ EnvR c Z1 H σ e1 ∧ BvsR c H₀ Z1 H σ e1 (b' :: r') (v :: r) ∧ (∀ j i, (b' :: r')[j]? = some (.slot i) → pr (p + j) = true) ∧ ∀ (j : Nat) ds, (b' :: r')[j]? = some (.tmp ds) → (b :: bs)[j]? = some (.tmp ds) := by
      intro e2 Z2 b' r' t E2 hb2 hv ht hs hp
      obtain ⟨Z1, t1, E1, q1, q2, q3⟩ := ih hp hb2 E2
      refine ⟨Z1, t.trans t1, E1, ⟨v, r, rfl, BvR.tr E2 t1 hv, q1, fun ds e3 j ds' e4 => h3 ds (ht ds e3) j ds' (q3 j ds' e4)⟩, fun j i e3 => ?_, fun j ds e3 => ?_⟩
      · cases j with
        | zero => exact hs i (by simpa using e3)
        | succ j =>
          have := q2 j i (by simpa using e3)
          rwa [show p + 1 + j = p + (j + 1) by omega] at this
      · cases j with
        | zero => rw [ht ds (by simpa using e3)]; rfl
        | succ j => simpa using q3 j ds (by simpa using e3)
    cases b with
    | val d =>
      simp only [prep] at h
      split at h
      · rename_i r' e' hp
        cases h
        exact fin Tr.refl E h2 h1 (fun ds z => z) (fun i z => by cases z) hp
      · cases h
    | tmp ds =>
      simp only [prep] at h
      split at h
      · rename_i r' e' hp
        cases h
        exact fin Tr.refl E h2 h1 (fun ds z => z) (fun i z => by cases z) hp
      · cases h
    | slot i =>
      simp only [prep] at h
      split at h
      · rename_i hpr
        split at h
        · rename_i r' e' hp
          cases h
          exact fin Tr.refl E h2 h1 (fun ds z => by cases z) (fun i z => hpr) hp
        · cases h
      · split at h
        · rename_i ds hds
          split at h
          · rename_i r' e' hp
            cases h
            obtain ⟨a, ea, G, t, rp⟩ := E.capture hds
            have h1 : σ[i]? = some (some v) := h1
            rw [h1] at ea
            cases ea
            exact fin t G (BvsR.tr E t h2) rp (fun ds z => by cases z) (fun i z => by cases z) hp
          · cases h
        · cases h
theorem map_get {α : Type} {l : List α} {i : Nat} {x : Option α} (h : (l.map some)[i]? = some x) : ∃ y, l[i]? = some y ∧ x = some y := by
  rw [List.getElem?_map, Option.map_eq_some_iff] at h
  obtain ⟨y, h1, h2⟩ := h
  exact ⟨y, h1, h2.symm⟩
/-- where an argument's list lies -/
theorem arg_held {bs : List Bv} {vs : List V} {ss : List Sl} (hb : BvsR c H₀ Z H σ e bs vs) (ha : argSs e bs = some ss) {p : Nat} {a : Addr} (h : HeldAt (vs.map some) (ss.map some) p a) :
    vs[p]? = some (.ref a) ∧ ((∃ i, bs[p]? = some (.slot i) ∧ HeldAt σ e i a) ∨ ∃ ds, bs[p]? = some (.tmp ds) ∧ ¬ Held σ e a ∧ H₀ a = none) := by
  obtain ⟨ds, h1, h2⟩ := h
  obtain ⟨v, h3, h4⟩ := map_get h2
  cases h4
  refine ⟨h3, ?_⟩
  obtain ⟨l, g⟩ := argSs_get ha
  have hp : p < bs.length := by
    rw [← bvs_len hb]
    exact (List.getElem?_eq_some_iff.mp h3).1
  obtain ⟨b, hbp⟩ : ∃ b, bs[p]? = some b := ⟨bs[p], by simp [hp]⟩
  obtain ⟨s, h5, h6⟩ := g p b hbp
  obtain ⟨w, h7, h8⟩ := bvs_get hb hbp
  rw [h3] at h7
  cases h7
  have hs : s = .own ds ∨ s = .lck ds := by
    rcases h1 with h1 | h1
    · obtain ⟨y, h9, h10⟩ := map_get h1
      rw [h5] at h9
      cases h9
      cases h10
      exact .inl rfl
    · obtain ⟨y, h9, h10⟩ := map_get h1
      rw [h5] at h9
      cases h9
      cases h10
      exact .inr rfl
  cases b with
  | val d =>
    cases h6
    rcases hs with hs | hs <;> cases hs
  | tmp es =>
    obtain ⟨a', xs, e1, e2, _, _, e5, _⟩ := h8
    cases e1
    exact .inr ⟨es, hbp, e5, e2⟩
  | slot i =>
    refine .inl ⟨i, hbp, ds, ?_, h8⟩
    simp only [argS] at h6
    split at h6
    · rename_i es q
      cases h6
      rcases hs with hs | hs <;> cases hs
      exact .inl q
    · rename_i es q
      cases h6
      rcases hs with hs | hs <;> cases hs
      exact .inr q
    · cases h6
theorem args_ok {bs : List Bv} {vs : List V} {ss : List Sl} (E : EnvR c Z H σ e) (hb : BvsR c H₀ Z H σ e bs vs) (ha : argSs e bs = some ss) (hn : (lent bs).Nodup) : Arg c Z H vs ss := by
  obtain ⟨l, g⟩ := argSs_get ha
  refine ⟨by rw [List.length_map, List.length_map, l, bvs_len hb], fun p s h => ?_, fun p q a h1 h2 => ?_, fun _ _ _ _ z => z, fun _ z => z.elim, E.zt⟩
  · obtain ⟨s', h1, h2⟩ := map_get h
    cases h2
    have hp : p < bs.length := by
      rw [← l]
      exact (List.getElem?_eq_some_iff.mp h1).1
    obtain ⟨b, hbp⟩ : ∃ b, bs[p]? = some b := ⟨bs[p], by simp [hp]⟩
    obtain ⟨s2, h5, h6⟩ := g p b hbp
    rw [h1] at h5
    cases h5
    obtain ⟨v, h7, h8⟩ := bvs_get hb hbp
    have hv : (vs.map some)[p]? = some (some v) := by rw [List.getElem?_map, h7]; rfl
    rw [hv]
    cases b with
    | val d =>
      cases h6
      exact ⟨v, rfl, h8⟩
    | tmp ds =>
      cases h6
      obtain ⟨a, xs, rfl, _, e3, e4, _, e6⟩ := h8
      exact ⟨a, xs, rfl, e3, e4, e6⟩
    | slot i =>
      have h8 : σ[i]? = some (some v) := h8
      simp only [argS] at h6
      split at h6
      · rename_i es q
        cases h6
        obtain ⟨a, xs, e1, e2, e3, e4⟩ := E.slot i _ q
        rw [h8] at e1
        exact ⟨a, xs, e1, e2, e3, e4⟩
      · rename_i es q
        cases h6
        obtain ⟨a, xs, e1, e2, e3, e4⟩ := E.slot i _ q
        rw [h8] at e1
        exact ⟨a, xs, e1, e2, e3, e4⟩
      · cases h6
  · obtain ⟨v1, k1⟩ := arg_held hb ha h1
    obtain ⟨v2, k2⟩ := arg_held hb ha h2
    rcases k1 with ⟨i, b1, d1⟩ | ⟨ds, b1, d1, _⟩
    · rcases k2 with ⟨j, b2, d2⟩ | ⟨ds, b2, d2, _⟩
      · have e1 := E.inj i j a d1 d2
        subst e1
        exact lent_uniq hn b1 b2
      · exact absurd ⟨i, d1⟩ d2
    · rcases k2 with ⟨j, b2, d2⟩ | ⟨ds2, b2, d2, _⟩
      · exact absurd ⟨j, d2⟩ d1
      · rcases Nat.lt_trichotomy p q with lt | eq | lt
        · exact absurd v2 (bvs_tmp hb lt b1 b2 v1)
        · exact eq
        · exact absurd v1 (bvs_tmp hb lt b2 b1 v2)
/-- what comes back from a call -/
theorem give_ok : ∀ {bs : List Bv} {ce : Es} {p₀ : Nat} {e e' : Es}, giveBack ce p₀ bs e = some e' → (lent bs).Nodup →
    e'.length = e.length ∧ (∀ j : Nat, j ∉ lent bs → e'[j]? = e[j]?) ∧ ∀ (p i : Nat), bs[p]? = some (.slot i) → i < e.length → ∃ s, getS ce (p₀ + p) = some s ∧ e'[i]? = some (some s) := by
  intro bs
  induction bs with
  | nil =>
    intro ce p₀ e e' h _
    cases h
    exact ⟨rfl, fun _ _ => rfl, fun p i h => by simp at h⟩
  | cons b bs ih =>
    intro ce p₀ e e' h hn
    have other : (∀ i, b ≠ .slot i) → giveBack ce (p₀ + 1) bs e = some e' → (lent bs).Nodup → lent (b :: bs) = lent bs → e'.length = e.length ∧ (∀ j : Nat, j ∉ lent (b :: bs) → e'[j]? = e[j]?) ∧ ∀ (p i : Nat), (b :: bs)[p]? = some (.slot i) → i < e.length → ∃ s, getS ce (p₀ + p) = some s ∧ e'[i]? = some (some s) := fun nb h hn el => by
      obtain ⟨q1, q2, q3⟩ := ih h hn
      refine ⟨q1, fun j hj => q2 j (by rwa [el] at hj), fun p i hp hi => ?_⟩
      cases p with
      | zero => exact absurd (by simpa using hp) (nb i)
      | succ p =>
        obtain ⟨s, h1, h2⟩ := q3 p i (by simpa using hp) hi
        exact ⟨s, by rw [← h1]; congr 1; omega, h2⟩
    cases b with
    | val d => exact other (fun i z => by cases z) h hn rfl
    | tmp d => exact other (fun i z => by cases z) h hn rfl
    | slot k =>
      simp only [giveBack] at h
      split at h
      · rename_i s hs
        have nk := (List.nodup_cons.mp (show (k :: lent bs).Nodup from hn))
        obtain ⟨q1, q2, q3⟩ := ih h nk.2
        refine ⟨by rw [q1, List.length_set], fun j hj => ?_, fun p i hp hi => ?_⟩
        · have hj' : j ≠ k ∧ j ∉ lent bs := by
            have : j ∉ k :: lent bs := hj
            exact ⟨fun z => this (z ▸ List.mem_cons_self), fun z => this (List.mem_cons_of_mem _ z)⟩
          rw [q2 j hj'.2, set_get hj'.1]
        · cases p with
          | zero =>
            have ek : k = i := by simpa using hp
            subst ek
            refine ⟨s, hs, ?_⟩
            rw [q2 k nk.1, List.getElem?_set_self hi]
          | succ p =>
            obtain ⟨s', h1, h2⟩ := q3 p i (by simpa using hp) (by rw [List.length_set]; exact hi)
            exact ⟨s', by rw [← h1]; congr 1; omega, h2⟩
      · cases h
/-- the caller's state behind a call -/
theorem call_back {bs : List Bv} {vs : List V} {ss : List Sl} {ce e' : Es} {pr : Nat → Bool} (E : EnvR c Z H σ e) (hb : BvsR c H₀ Z H σ e bs vs) (ha : argSs e bs = some ss) (hn : (lent bs).Nodup) (hp : ∀ j i, bs[j]? = some (.slot i) → pr j = true)
    (ft : FT Z H (OwA vs ss) Z' H') (zt : ∀ a, Z' a → H' a ≠ none) (ou : Outs c pr Z' H' vs ss ce) (gb : giveBack ce 0 bs e = some e') {e0 : Es} {Z0 : Addr → Prop} (t0 : Tr σ e0 Z0 H₀ σ e Z H) :
    EnvR c Z' H' σ e' ∧ Tr σ e0 Z0 H₀ σ e' Z' H' ∧ ∀ a, Held σ e' a → Held σ e a := by
  obtain ⟨gl, g1, g2⟩ := give_ok gb hn
  obtain ⟨l, g⟩ := argSs_get ha
  -- an argument's own list is a lent slot's or a new one
  have ow : ∀ a, OwA vs ss a → (∃ (p i : Nat), bs[p]? = some (Bv.slot i) ∧ (∃ ds, e[i]? = some (some (Sl.own ds))) ∧ HeldAt σ e i a) ∨ (¬ Held σ e a ∧ H₀ a = none) := fun a ⟨p, ds, h1, h2⟩ => by
    obtain ⟨_, k⟩ := arg_held hb ha (p := p) (a := a) ⟨ds, .inl h1, h2⟩
    rcases k with ⟨i, b1, d1⟩ | ⟨_, _, d1, d2⟩
    · refine .inl ⟨p, i, b1, ?_, d1⟩
      obtain ⟨s, h3, h4⟩ := g p _ b1
      obtain ⟨y, h5, h6⟩ := map_get h1
      rw [h3] at h5
      cases h5
      cases h6
      simp only [argS] at h4
      split at h4
      · rename_i es q
        exact ⟨es, q⟩
      · cases h4
      · cases h4
    · exact .inr ⟨d1, d2⟩
  have owE : ∀ a, OwA vs ss a → OwnA σ e0 a ∨ H₀ a = none := fun a h => by
    rcases ow a h with ⟨p, i, _, ⟨ds, q⟩, hd⟩ | h
    · obtain ⟨_, _, hd⟩ := hd
      exact t0.own a ⟨i, ds, q, hd⟩
    · exact .inr h.2
  have owL : ∀ a, OwA vs ss a → ¬ Z a ∧ ∃ xs : List V, H a = some (.lst xs) := fun a h => EnvR.ownz (args_ok E hb ha hn) h.held
  have kp : Keep Z H H' := fun a o h1 h2 => ft.keep a o h1 fun w => by
    obtain ⟨nz, xs, q⟩ := owL a w
    rw [h1] at q
    cases q
    exact nz (h2 xs rfl)
  -- a slot that is not lent
  have notlent : ∀ (j : Nat) (a : Addr), j ∉ lent bs → HeldAt σ e j a → ¬ OwA vs ss a := fun j a hj hd w => by
    rcases ow a w with ⟨p, i, b1, _, d1⟩ | w
    · exact hj (E.inj i j a d1 hd ▸ lent_in b1)
    · exact w.1 ⟨j, hd⟩
  have lentslot : ∀ (j : Nat), j ∈ lent bs → ∃ p : Nat, bs[p]? = some (Bv.slot j) := by
    have key : ∀ (bs : List Bv) (j : Nat), j ∈ lent bs → ∃ p : Nat, bs[p]? = some (Bv.slot j) := by
      intro bs
      induction bs with
      | nil => intro j hj; cases hj
      | cons b bs ih =>
        intro j hj
        cases b with
        | slot k =>
          rcases List.mem_cons.mp hj with rfl | hj
          · exact ⟨0, rfl⟩
          · obtain ⟨p, hp⟩ := ih j hj
            exact ⟨p + 1, by simpa using hp⟩
        | val d =>
          obtain ⟨p, hp⟩ := ih j hj
          exact ⟨p + 1, by simpa using hp⟩
        | tmp d =>
          obtain ⟨p, hp⟩ := ih j hj
          exact ⟨p + 1, by simpa using hp⟩
    exact key bs
  -- a lent slot
  have lentR : ∀ (j p : Nat), bs[p]? = some (Bv.slot j) → ∃ (v : V) (s₀ s' : Sl), σ[j]? = some (some v) ∧ e[j]? = some (some s₀) ∧ isList s₀ ∧ e'[j]? = some (some s') ∧ SlotR c.arg Z' H' s' (some (some v)) ∧ ((∃ ds, s₀ = Sl.lck ds) → ∃ ds', s' = Sl.lck ds') := fun j p b1 => by
    obtain ⟨s, h3, h4⟩ := g p _ b1
    obtain ⟨v, h5, h6⟩ := bvs_get hb b1
    have h6 : σ[j]? = some (some v) := h6
    simp only [argS] at h4
    split at h4
    · rename_i es q
      cases h4
      obtain ⟨s', g3, g4⟩ := g2 p j b1 (List.getElem?_eq_some_iff.mp q).1
      rw [Nat.zero_add] at g3
      obtain ⟨v', o1, o3, o4⟩ := ou p _ s' (hp p j b1) h3 ⟨es, .inl rfl⟩ g3
      rw [h5] at o1
      cases o1
      exact ⟨v, _, s', h6, q, ⟨es, .inl rfl⟩, g4, o3, o4⟩
    · rename_i es q
      cases h4
      obtain ⟨s', g3, g4⟩ := g2 p j b1 (List.getElem?_eq_some_iff.mp q).1
      rw [Nat.zero_add] at g3
      obtain ⟨v', o1, o3, o4⟩ := ou p _ s' (hp p j b1) h3 ⟨es, .inr rfl⟩ g3
      rw [h5] at o1
      cases o1
      exact ⟨v, _, s', h6, q, ⟨es, .inr rfl⟩, g4, o3, o4⟩
    · cases h4
  have heldB : ∀ (j : Nat) (a : Addr), HeldAt σ e' j a → HeldAt σ e j a := fun j a ⟨ds, h1, h2⟩ => by
    by_cases hj : j ∈ lent bs
    · obtain ⟨p, b1⟩ := lentslot j hj
      obtain ⟨v, s₀, s', k1, k2, ⟨es, k3⟩, _⟩ := lentR j p b1
      refine ⟨es, ?_, h2⟩
      rcases k3 with k3 | k3
      · exact .inl (by rw [k2, k3])
      · exact .inr (by rw [k2, k3])
    · rw [g1 j hj] at h1
      exact ⟨ds, h1, h2⟩
  refine ⟨⟨by rw [E.len, gl], fun j s h => ?_, fun i j a h1 h2 => E.inj i j a (heldB i a h1) (heldB j a h2), fun i a hi h => E.prov i a hi (heldB i a h), fun a h => ft.here a (E.bt a h), zt⟩, ⟨fun a o h1 h2 => ft.keep a o (t0.keep a o h1 h2) fun w => ?_, fun a z => ft.zle a (t0.zle a z), fun a h => ?_, fun a h => ?_, fun a ⟨j, h⟩ => t0.held a ⟨j, heldB j a h⟩, fun a h => ft.here a (t0.here a h), fun j es h => ?_⟩, fun a ⟨j, h⟩ => ⟨j, heldB j a h⟩⟩
  · by_cases hj : j ∈ lent bs
    · obtain ⟨p, b1⟩ := lentslot j hj
      obtain ⟨v, s₀, s', k1, k2, _, k4, k5, _⟩ := lentR j p b1
      rw [h] at k4
      cases k4
      rw [k1]
      cases s with
      | val d => exact k5
      | own ds => exact k5
      | lck ds => exact k5
      | exc cl d =>
        obtain ⟨_, _, _, z, _⟩ := k5
        cases z
    · rw [g1 j hj] at h
      refine (E.slot j s h).mono kp ft.zle fun a xs hb2 hx hl => ?_
      have hd := heldAt_of h hx hb2
      refine ⟨ft.keep a _ hl (notlent j a hj hd), fun z => ?_⟩
      rcases ft.znew a z with z | z | z
      · exact (E.ownz ⟨j, hd⟩).1 z
      · rw [z] at hl; cases hl
      · exact notlent j a hj hd z
  · rcases owE a w with w | w
    · exact h2 w
    · rw [w] at h1; cases h1
  · rcases ft.znew a h with z | z | z
    · exact t0.znew a z
    · exact .inr (.inl (none_back t0.here z))
    · rcases owE a z with w | w
      · exact .inr (.inr w)
      · exact .inr (.inl w)
  · refine t0.own a ?_
    obtain ⟨j, ds, h1, h2⟩ := h
    by_cases hj : j ∈ lent bs
    · obtain ⟨p, b1⟩ := lentslot j hj
      obtain ⟨v, s₀, s', k1, k2, k3, k4, _, k6⟩ := lentR j p b1
      rw [h1] at k4
      cases k4
      rcases k3 with ⟨es, k3 | k3⟩
      · exact ⟨j, es, by rw [k2, k3], h2⟩
      · obtain ⟨_, w⟩ := k6 ⟨es, k3⟩
        cases w
    · rw [g1 j hj] at h1
      exact ⟨j, ds, h1, h2⟩
  · obtain ⟨q1, ds1, q2⟩ := t0.lk j es h
    refine ⟨q1, ?_⟩
    by_cases hj : j ∈ lent bs
    · obtain ⟨p, b1⟩ := lentslot j hj
      obtain ⟨v, s₀, s', k1, k2, k3, k4, _, k6⟩ := lentR j p b1
      rw [q2] at k2
      cases k2
      obtain ⟨ds', rfl⟩ := k6 ⟨ds1, rfl⟩
      exact ⟨ds', k4⟩
    · exact ⟨ds1, by rw [g1 j hj, q2]⟩
/-- a call of a def -/
theorem r_call {f : Addr} {fd : FuncData} {ps : List Str} {n k : Nat} {pr : Nat → Bool} {g : List Sl → R Sl} {fa : Es → R (List Bv)} {x : Str} {a : Expr} {as : List Expr} {p pos : Pos}
    (F : FnOk X.prog X.w X.K X.mg X.base (L2.CX X.prog X.w) k f fd ps (spF c pr n g)) (hr : Room k X.A) (hg : Gl X x) (hm : X.mg x = some (.ref f)) (hk : PySem.W.keepIn X.K (.ref f) = true) (hb : Binds X.K fd ps []) (tk : Takes X W) (hgn : ∀ ss, ss.length ≠ n → g ss = .bad) (ha : PA X (a :: as) (tBs c W fa))
    (hdb : (x == ("__debug__" : Str)) = false) (he : starEach (a :: as) X.env = (false, eval a X.env) :: starEach as X.env) (hpl : (backTo pos (starEach as X.env)).any (·.1) = false) :
    PE X (.Call (.Name x p) (a :: as) [] pos) (tE c W fun e => (fa e).bind fun bs e1 => callR pr g bs e1) := Pv.PE.imp (pe_callS F hr hg hm hk hb (E := fun σ => WE W σ) (fun σ => passAt tk σ) ha hdb he hpl) fun σ H Q ⟨e, Z, E, p⟩ => by
  refine ⟨e, Z, E, ?_⟩
  have p : Post c W σ e Z H ((fa e).bind fun bs e1 => callR pr g bs e1) fun s e' Z' H' => ∀ v, TmpR c H Z' H' σ e' s v → Q v H' := p
  cases hf : fa e with
  | bad => rw [hf] at p; exact p.elim
  | exc cl d e' => rw [hf] at p; exact p
  | ok bs e1 =>
    rw [hf] at p
    intro Z1 H1 t1 E1 vs hb
    have p : Post c W σ e Z H (callR pr g bs e1) _ := p
    simp only [callR] at p
    split at p
    · rename_i bs' e2 hp
      obtain ⟨Z2, t2, E2, hb2, hpr, _⟩ := prep_ok pr hp hb E1
      have hpr : ∀ (j i : Nat), bs'[j]? = some (Bv.slot i) → pr j = true := fun j i h => by simpa using hpr j i h
      have t0 := t1.trans t2
      split at p
      · rename_i hn
        simp only [callN] at p
        split at p
        · rename_i ss hs
          have hln : g ss ≠ .bad → vs.length = n := fun q => by
            rw [bvs_len hb2, ← (argSs_get hs).1]
            exact Decidable.byContradiction fun w => q (hgn ss w)
          refine ⟨hln ?_, Z2, ss, args_ok E2 hb2 hs hn, ?_⟩
          · intro q
            rw [q] at p
            exact p
          split at p
          · rename_i s ce hg
            rw [hg]
            split at p
            · rename_i e' gb
              intro v Z' H' ft zt ou rr
              obtain ⟨E', t', hh⟩ := call_back E2 hb2 hs hn hpr ft zt ou gb t0
              refine p Z' H' t' E' v ?_
              cases s with
              | val d => exact rr
              | own ds =>
                obtain ⟨b, xs, e1', q1, q2, q3, q4⟩ := rr
                refine ⟨b, xs, e1', none_back t0.here q1, q2, q3, fun w => ?_, q4⟩
                obtain ⟨_, ys, q⟩ := E2.ownz (hh b w)
                rw [q1] at q
                cases q
              | lck ds => exact rr.elim
              | exc _ _ => exact rr.elim
            · exact p.elim
          · rename_i cl d ce hg
            rw [hg]
            split at p
            · rename_i e' gb
              intro dx Z' H' ft zt ou rr
              obtain ⟨E', t', hh⟩ := call_back E2 hb2 hs hn hpr ft zt ou gb t0
              exact p Z' H' dx t' E' rr
            · exact p.elim
          · exact p.elim
        · exact p.elim
      · exact p.elim
    · exact p.elim
end
end Pv
set_option maxRecDepth 100000
set_option maxHeartbeats 2000000
namespace Pv
open PySem PySem.Spec PyProof.Rows L2
/-! ## Statements -/
structure TrS (c : Cn) (σ : L2.St) (e : Es) (Z : Addr → Prop) (H : Hp) (σ' : L2.St) (e' : Es) (Z' : Addr → Prop) (H' : Hp) : Prop where
  tr : Tr σ e Z H σ' e' Z' H'
  fix : ∀ i, c.pr i = true → σ'[i]? = σ[i]?
def RetS (c : Cn) (Z' : Addr → Prop) (H' : Hp) : Sl → V → Prop
  | .val d, v => Rp c.K Z' H' d v
  | .own ds, v => ∃ a xs, v = .ref a ∧ ¬ c.B a ∧ H' a = some (.lst xs) ∧ ¬ Z' a ∧ Rps c.K Z' H' ds xs
  | _, _ => False
def End (c : Cn) (D : Ends) (fl : Flow) (σ' : L2.St) (Z' : Addr → Prop) (H' : Hp) : Prop := match fl with
  | .next => D.nx σ' H'
  | .brk => D.bk σ' H'
  | .cont => D.ct σ' H'
  | .ret s => ∀ v, RetS c Z' H' s v → D.rt v H'
def PostS (c : Cn) (W : WX) (D : Ends) (σ : L2.St) (e : Es) (Z : Addr → Prop) (H : Hp) (r : R Flow) : Prop := match r with
  | .ok fl e' => ∀ σ' Z' H', TrS c σ e Z H σ' e' Z' H' → EnvR c Z' H' σ' e' → End c D fl σ' Z' H'
  | .exc cl d e' => ∀ σ' Z' H' dx, TrS c σ e Z H σ' e' Z' H' → EnvR c Z' H' σ' e' → ExcD c Z' H' cl d dx → W (.ref (c.clA cl)) dx σ' H'
  | .bad => False
def tS (c : Cn) (W : WX) (f : Es → R Flow) : TS := fun D σ H => ∃ e Z, EnvR c Z H σ e ∧ PostS c W D σ e Z H (f e)
theorem PS.imp {X : Cx} {st : Stmt} {t t' : TS} (h : PS X st t) (i : ∀ D σ H, t' D σ H → t D σ H) : PS X st t' := ⟨fun pins s σ H D I q => h.run pins s σ H D I (i D σ H q)⟩
theorem PSs.imp {X : Cx} {st : List Stmt} {t t' : TS} (h : PSs X st t) (i : ∀ D σ H, t' D σ H → t D σ H) : PSs X st t' := ⟨fun pins s σ H D I q => h.run pins s σ H D I (i D σ H q)⟩
section
variable {c : Cn} {W : WX} {X : Cx} {D D' : Ends} {σ σ1 σ2 σ' : L2.St} {e e1 e2 e' : Es} {Z Z1 Z2 Z' : Addr → Prop} {H H1 H2 H' H₀ : Hp} {α : Type}
theorem TrS.refl : TrS c σ e Z H σ e Z H := ⟨Tr.refl, fun _ _ => rfl⟩
theorem TrS.trans (a : TrS c σ e Z H σ1 e1 Z1 H1) (b : TrS c σ1 e1 Z1 H1 σ2 e2 Z2 H2) : TrS c σ e Z H σ2 e2 Z2 H2 := ⟨a.tr.trans b.tr, fun i h => (b.fix i h).trans (a.fix i h)⟩
theorem Tr.s (t : Tr σ e Z H σ e' Z' H') : TrS c σ e Z H σ e' Z' H' := ⟨t, fun _ _ => rfl⟩
theorem PostS.after {r : R Flow} (h : PostS c W D σ e Z H r) (t : TrS c σ e Z H σ1 e1 Z1 H1) : PostS c W D σ1 e1 Z1 H1 r := by
  cases r with
  | ok f e2 => exact fun σ' Z' H' t' E => h σ' Z' H' (t.trans t') E
  | exc cl d e2 => exact fun σ' Z' H' dx t' E x => h σ' Z' H' dx (t.trans t') E x
  | bad => exact h
/-- ahead an expression; the start stays -/
theorem PostS.bind0 {r : R α} {g : α → Es → R Flow} (h : PostS c W D σ e Z H (r.bind g)) : Post c W σ e Z H r fun a e1 _ _ => PostS c W D σ e Z H (g a e1) := by
  cases r with
  | ok a e' => exact fun Z' H' t E => h
  | exc cl d e' => exact fun Z' H' dx t E x => h σ Z' H' dx t.s E x
  | bad => exact h
theorem PostS.bind {r : R α} {g : α → Es → R Flow} (h : PostS c W D σ e Z H (r.bind g)) : Post c W σ e Z H r fun a e1 Z1 H1 => PostS c W D σ e1 Z1 H1 (g a e1) :=
  (PostS.bind0 h).imp fun a e1 Z1 H1 t E p => p.after t.s
theorem PostS.ends {r : R Flow} (h : PostS c W D σ e Z H r) (f : ∀ fl e' σ' Z' H', r = .ok fl e' → TrS c σ e Z H σ' e' Z' H' → EnvR c Z' H' σ' e' → End c D fl σ' Z' H' → End c D' fl σ' Z' H') : PostS c W D' σ e Z H r := by
  cases r with
  | ok fl e' => exact fun σ' Z' H' t E => f fl e' σ' Z' H' rfl t E (h σ' Z' H' t E)
  | exc cl d e' => exact h
  | bad => exact h
/-- one after the other -/
theorem PostS.seq {r : R Flow} {g : Es → R Flow} (h : PostS c W D σ e Z H (r.bind fun f e1 => match f with
    | .next => g e1
    | f => .ok f e1)) : PostS c W { D with nx := tS c W g D } σ e Z H r := by
  cases r with
  | ok fl e' =>
    intro σ' Z' H' t E
    cases fl with
    | next => exact ⟨e', Z', E, PostS.after (show PostS c W D σ e Z H (g e') from h) t⟩
    | brk => exact h σ' Z' H' t E
    | cont => exact h σ' Z' H' t E
    | ret s => exact h σ' Z' H' t E
  | exc cl d e' => exact h
  | bad => exact h
theorem s_nop : PSs X [] (tS c W fun e => .ok .next e) := Pv.PSs.imp pss_nil fun D σ H ⟨e, Z, E, p⟩ => p σ Z H .refl E
theorem s_pass {pos : Pos} : PS X (.Pass pos) (tS c W fun e => .ok .next e) := Pv.PS.imp ps_pass fun D σ H ⟨e, Z, E, p⟩ => p σ Z H .refl E
theorem s_seq {st : Stmt} {rest : List Stmt} {f g : Es → R Flow} (h1 : PS X st (tS c W f)) (h2 : PSs X rest (tS c W g)) : PSs X (st :: rest) (tS c W fun e => (f e).bind fun fl e1 => match fl with
    | .next => g e1
    | fl => .ok fl e1) := Pv.PSs.imp (pss_cons h1 h2) fun D σ H ⟨e, Z, E, p⟩ => ⟨e, Z, E, p.seq⟩
theorem s_one {st : Stmt} {f : Es → R Flow} (h1 : PS X st (tS c W f)) : PSs X [st] (tS c W f) := pss_one h1
theorem s_brk {pos : Pos} : PS X (.Break pos) (tS c W fun e => .ok .brk e) := Pv.PS.imp ps_break fun D σ H ⟨e, Z, E, p⟩ => p σ Z H .refl E
theorem s_cont {pos : Pos} : PS X (.Continue pos) (tS c W fun e => .ok .cont e) := Pv.PS.imp ps_continue fun D σ H ⟨e, Z, E, p⟩ => p σ Z H .refl E
theorem s_expr {pe : Expr} {pos : Pos} {f : Es → R Sl} (h : PE X pe (tE c W f)) (hs : swapsWith pe none pos.line X.env = pure false) : PS X (.Expr pe pos) (tS c W fun e => (f e).bind fun _ e1 => .ok .next e1) :=
  Pv.PS.imp (ps_expr h hs) fun D σ H ⟨e, Z, E, p⟩ => ⟨e, Z, E, (PostS.bind p).imp fun s e1 Z1 H1 t E1 p v r => p σ Z1 H1 .refl E1⟩
theorem s_if {pc : Expr} {a b : List Stmt} {pos : Pos} {fc : Es → R Bool} {fa fb : Es → R Flow} (hc : PT X pc (tTe c W fc)) (ha : PSs X a (tS c W fa)) (hb : PSs X b (tS c W fb)) :
    PS X (.If pc a b pos) (tS c W fun e => (fc e).bind fun t e1 => if t then fa e1 else fb e1) :=
  Pv.PS.imp (ps_if hc ha hb) fun D σ H ⟨e, Z, E, p⟩ => ⟨e, Z, E, (PostS.bind p).imp fun t e1 Z1 H1 tr E1 p => by
    cases t with
    | true => exact ⟨e1, Z1, E1, p⟩
    | false => exact ⟨e1, Z1, E1, p⟩⟩
/-! ### stores -/
theorem own_put {i : Nat} {s : Sl} {v : V} {a : Addr} (h : OwnA (σ.set i (some v)) (e.set i (some s)) a) : OwnA σ e a ∨ (v = .ref a ∧ ∃ ds, s = .own ds) := by
  obtain ⟨j, ds, h1, h2⟩ := h
  by_cases hj : j = i
  · subst hj
    have l1 : j < e.length := by
      refine Decidable.byContradiction fun hl => ?_
      rw [List.getElem?_eq_none (by simpa using hl)] at h1; cases h1
    have l2 : j < σ.length := by
      refine Decidable.byContradiction fun hl => ?_
      rw [List.getElem?_eq_none (by simpa using hl)] at h2; cases h2
    rw [List.getElem?_set_self l1] at h1
    rw [List.getElem?_set_self l2] at h2
    cases h1
    cases h2
    exact .inr ⟨rfl, ds, rfl⟩
  · rw [set_get hj] at h1
    rw [List.getElem?_set_ne (Ne.symm hj)] at h2
    exact .inl ⟨j, ds, h1, h2⟩
theorem held_put {i : Nat} {s : Sl} {v : V} {a : Addr} (h : Held (σ.set i (some v)) (e.set i (some s)) a) : Held σ e a ∨ (v = .ref a ∧ ∃ ds, s = .own ds ∨ s = .lck ds) := by
  obtain ⟨j, ds, h1, h2⟩ := h
  by_cases hj : j = i
  · subst hj
    have l1 : j < e.length := by
      refine Decidable.byContradiction fun hl => ?_
      rw [List.getElem?_eq_none (by simpa using hl)] at h1
      rcases h1 with h1 | h1 <;> cases h1
    have l2 : j < σ.length := by
      refine Decidable.byContradiction fun hl => ?_
      rw [List.getElem?_eq_none (by simpa using hl)] at h2; cases h2
    rw [List.getElem?_set_self l1] at h1
    rw [List.getElem?_set_self l2] at h2
    cases h2
    rcases h1 with h1 | h1
    · cases h1
      exact .inr ⟨rfl, ds, .inl rfl⟩
    · cases h1
      exact .inr ⟨rfl, ds, .inr rfl⟩
  · rw [set_get hj] at h1
    rw [List.getElem?_set_ne (Ne.symm hj)] at h2
    exact .inl ⟨j, ds, h1, h2⟩
/-- a new value goes into a slot -/
theorem Tr.put (t : Tr σ e Z H σ1 e1 Z1 H1) {i : Nat} {s : Sl} {v : V} (nl : ∀ ds, e1[i]? ≠ some (some (.lck ds))) (r : TmpR c H Z1 H1 σ1 e1 s v) : Tr σ e Z H (σ1.set i (some v)) (e1.set i (some s)) Z1 H1 where
  keep := t.keep
  zle := t.zle
  znew := t.znew
  own := fun a h => by
    rcases own_put h with h | ⟨hv, ds, rfl⟩
    · exact t.own a h
    · obtain ⟨b, xs, q1, q2, _⟩ := r
      rw [hv] at q1
      cases q1
      exact .inr q2
  held := fun a h => by
    rcases held_put h with h | ⟨hv, ds, rfl | rfl⟩
    · exact t.held a h
    · obtain ⟨b, xs, q1, q2, _⟩ := r
      rw [hv] at q1
      cases q1
      exact .inr q2
    · exact r.elim
  here := t.here
  lk := fun j ds h => by
    obtain ⟨q1, ds1, q2⟩ := t.lk j ds h
    have n : j ≠ i := fun z => nl ds1 (z ▸ q2)
    exact ⟨by rw [List.getElem?_set_ne (Ne.symm n)]; exact q1, ds1, by rw [set_get n]; exact q2⟩
theorem putS_some {i : Nat} {s : Sl} (h : putS e i s = some e') : e' = e.set i (some s) ∧ (∃ o, e[i]? = some o) ∧ ∀ ds, e[i]? ≠ some (some (.lck ds)) := by
  unfold putS at h
  split at h
  · cases h
  · rename_i o n q
    cases h
    refine ⟨rfl, ⟨_, q⟩, fun ds z => ?_⟩
    rw [q] at z
    cases z
    exact n ds rfl
  · cases h
theorem bt_none (E : EnvR c Z H σ e) : ∀ a, c.B a → H a ≠ none := E.bt
/-- the slots outside ns are as they were -/
def Out (ns : List Nat) (σ σ' : L2.St) : Prop := σ'.length = σ.length ∧ ∀ j, j ∉ ns → σ'[j]? = σ[j]?
theorem Out.refl {ns : List Nat} {σ : L2.St} : Out ns σ σ := ⟨rfl, fun _ _ => rfl⟩
theorem Out.trans {ns : List Nat} {σ σ1 σ2 : L2.St} (a : Out ns σ σ1) (b : Out ns σ1 σ2) : Out ns σ σ2 := ⟨b.1.trans a.1, fun j h => (b.2 j h).trans (a.2 j h)⟩
/-- what a target's store wants -/
def GP (c : Cn) (ns : List Nat) (g : TG) (put : Sl → Es → Option Es) : Prop := ∀ (σ : L2.St) (e : Es) (Z : Addr → Prop) (H : Hp) (σ1 : L2.St) (e1 e2 : Es) (Z1 : Addr → Prop) (H1 : Hp) (s : Sl) (v : V) (Q : L2.St → Hp → Prop),
  EnvR c Z H σ e → TrS c σ e Z H σ1 e1 Z1 H1 → EnvR c Z1 H1 σ1 e1 → TmpR c H Z1 H1 σ1 e1 s v → put s e1 = some e2 →
  (∀ σ2, TrS c σ e Z H σ2 e2 Z1 H1 → EnvR c Z1 H1 σ2 e2 → Out ns σ1 σ2 → Q σ2 H1) → g v σ1 H1 Q
theorem gp_one {i : Nat} (hp : c.pr i = false) : GP c [i] (gName i) (putT (.one i)) := by
  intro σ e Z H σ1 e1 e2 Z1 H1 s v Q E t E1 r h q
  have h : putS e1 i s = some e2 := by
    cases s with
    | val d => exact h
    | own ds => exact h
    | lck ds => exact r.elim
    | exc _ _ => exact r.elim
  obtain ⟨rfl, ⟨o, ho⟩, nl⟩ := putS_some h
  refine q _ ⟨t.tr.put nl r, fun j hj => ?_⟩ (E1.put ho E.bt r) ⟨List.length_set, fun j hj => List.getElem?_set_ne (fun z => hj (by simp [z]))⟩
  have nj : j ≠ i := fun z => by rw [z, hp] at hj; cases hj
  rw [List.getElem?_set_ne (Ne.symm nj)]
  exact t.fix j hj
/-- the names of a tuple target, one after the other -/
def gNames : List Nat → TGs
  | [] => gNil
  | i :: is => gCons (gName i) (gNames is)
theorem gp_names {ns : List Nat} : ∀ {is : List Nat} {ds : List Pv.D} {xs : List V} {σ : L2.St} {e : Es} {Z : Addr → Prop} {H : Hp} {σ1 : L2.St} {e1 e2 : Es} {Z1 : Addr → Prop} {H1 : Hp} {Q : L2.St → Hp → Prop}, (∀ i ∈ is, c.pr i = false ∧ i ∈ ns) →
    EnvR c Z H σ e → TrS c σ e Z H σ1 e1 Z1 H1 → EnvR c Z1 H1 σ1 e1 → Rps c.K Z1 H1 ds xs → putAll is ds e1 = some e2 → (∀ σ2, TrS c σ e Z H σ2 e2 Z1 H1 → EnvR c Z1 H1 σ2 e2 → Out ns σ1 σ2 → Q σ2 H1) → gNames is xs σ1 H1 Q
  | [], ds, xs, σ, e, Z, H, σ1, e1, e2, Z1, H1, Q, hp, E, t, E1, r, h, q => by
    cases ds with
    | nil =>
      cases h
      exact ⟨rps_nil_inv r, q σ1 t E1 .refl⟩
    | cons d ds => cases h
  | i :: is, ds, xs, σ, e, Z, H, σ1, e1, e2, Z1, H1, Q, hp, E, t, E1, r, h, q => by
    cases ds with
    | nil => cases h
    | cons d ds =>
      obtain ⟨x, xr, rfl, r1, r2⟩ := rps_inv r
      simp only [putAll] at h
      split at h
      · rename_i e3 h3
        obtain ⟨hp1, hp2⟩ := hp i List.mem_cons_self
        refine ⟨x, xr, rfl, gp_one hp1 σ e Z H σ1 e1 e3 Z1 H1 (.val d) x _ E t E1 r1 h3 fun σ2 t2 E2 o2 => ?_⟩
        have o3 : Out ns σ1 σ2 := ⟨o2.1, fun j hj => o2.2 j fun w => hj (by rw [List.mem_singleton.mp w]; exact hp2)⟩
        exact gp_names (fun j hj => hp j (List.mem_cons_of_mem _ hj)) E t2 E2 r2 h fun σ3 t3 E3 o4 => q σ3 t3 E3 (o3.trans o4)
      · cases h
theorem held_put2 {i : Nat} {s : Sl} {v : V} {a : Addr} (h : Held (σ.set i (some v)) (e.set i (some s)) a) : Held σ e a ∨ ((∃ ds, s = .own ds ∨ s = .lck ds) ∧ v = .ref a) := by
  obtain ⟨j, ds, h1, h2⟩ := h
  by_cases hj : j = i
  · subst hj
    right
    have e1 : ∀ {α : Type} {l : List α} {x y : α}, (l.set j x)[j]? = some y → x = y := fun {α l x y} q => by
      have hl : j < l.length := by
        have := (List.getElem?_eq_some_iff.mp q).1
        rwa [List.length_set] at this
      rw [List.getElem?_set_self hl] at q
      exact Option.some.inj q
    refine ⟨⟨ds, ?_⟩, ?_⟩
    · rcases h1 with h1 | h1
      · exact .inl (Option.some.inj (e1 h1))
      · exact .inr (Option.some.inj (e1 h1))
    · exact Option.some.inj (e1 h2)
  · left
    rw [List.getElem?_set_ne (Ne.symm hj)] at h1 h2
    exact ⟨j, ds, h1, h2⟩
theorem gp_bvs {ns : List Nat} : ∀ {is : List Nat} {bs : List Bv} {vs : List V} {σ : L2.St} {e : Es} {Z : Addr → Prop} {H : Hp} {σ1 : L2.St} {e1 e2 : Es} {Z1 : Addr → Prop} {H1 : Hp} {Q : L2.St → Hp → Prop}, (∀ i ∈ is, c.pr i = false ∧ i ∈ ns) →
    EnvR c Z H σ e → TrS c σ e Z H σ1 e1 Z1 H1 → EnvR c Z1 H1 σ1 e1 → BvsR c H Z1 H1 σ1 e1 bs vs → parS is bs e1 = some e2 → (∀ σ2, TrS c σ e Z H σ2 e2 Z1 H1 → EnvR c Z1 H1 σ2 e2 → Q σ2 H1) → gNames is vs σ1 H1 Q
  | [], bs, vs, σ, e, Z, H, σ1, e1, e2, Z1, H1, Q, hp, E, t, E1, r, h, q => by
    cases bs with
    | nil =>
      cases h
      have r : vs = [] := r
      exact ⟨r, q σ1 t E1⟩
    | cons b bs => cases h
  | i :: is, bs, vs, σ, e, Z, H, σ1, e1, e2, Z1, H1, Q, hp, E, t, E1, r, h, q => by
    cases bs with
    | nil => cases h
    | cons b bs =>
      obtain ⟨v, vr, rfl, r1, r2, r3⟩ := r
      obtain ⟨hp1, hp2⟩ := hp i List.mem_cons_self
      have main : ∀ s : Sl, TmpR c H Z1 H1 σ1 e1 s v → (∀ ds, s = .own ds → b = .tmp ds) → (∀ ds, s ≠ .lck ds) → (match putS e1 i s with | some e3 => parS is bs e3 | none => none) = some e2 → gNames (i :: is) (v :: vr) σ1 H1 Q := fun s rt hs hl h => by
        split at h
        · rename_i e3 h3
          obtain ⟨rfl, ⟨o, ho⟩, nl⟩ := putS_some h3
          refine ⟨v, vr, rfl, ?_⟩
          show gNames is vr (σ1.set i (some v)) H1 Q
          have t2 : TrS c σ e Z H (σ1.set i (some v)) (e1.set i (some s)) Z1 H1 := ⟨t.tr.put nl rt, fun j hj => by
            have nj : j ≠ i := fun z => by rw [z, hp1] at hj; cases hj
            rw [List.getElem?_set_ne (Ne.symm nj)]
            exact t.fix j hj⟩
          have E2 := E1.put ho E.bt rt
          have rr : ∀ {bs : List Bv} {vr : List V}, BvsR c H Z1 H1 σ1 e1 bs vr → (∀ ds, b = .tmp ds → ∀ (j : Nat) ds', bs[j]? = some (.tmp ds') → vr[j]? ≠ some v) → (∀ (j : Nat) k', bs[j]? ≠ some (.slot k')) → BvsR c H Z1 H1 (σ1.set i (some v)) (e1.set i (some s)) bs vr := by
            intro bs
            induction bs with
            | nil => intro vr r _ _; exact r
            | cons b' bs ih =>
              intro vr r ne ns
              obtain ⟨v', vr', rfl, w1, w2, w3⟩ := r
              refine ⟨v', vr', rfl, ?_, ih w2 (fun ds hb j ds' hj => ne ds hb (j + 1) ds' (by simpa using hj)) (fun j k' hj => ns (j + 1) k' (by simpa using hj)), w3⟩
              cases b' with
              | val d => exact w1
              | slot k' => exact absurd rfl (ns 0 k')
              | tmp ds' =>
                obtain ⟨a', xs', rfl, u1, u2, u3, u4, u5⟩ := w1
                refine ⟨a', xs', rfl, u1, u2, u3, fun hh => ?_, u5⟩
                rcases held_put2 hh with hh | ⟨⟨ds, hh | hh⟩, hv⟩
                · exact u4 hh
                · exact ne ds (hs ds hh) 0 ds' rfl (by rw [hv]; rfl)
                · exact hl ds hh
          have nslot : ∀ {is : List Nat} {bs : List Bv} {e e2 : Es}, parS is bs e = some e2 → ∀ (j : Nat) k', bs[j]? ≠ some (.slot k') := by
            intro is
            induction is with
            | nil =>
              intro bs e e2 h j k' hj
              cases bs with
              | nil => simp at hj
              | cons b bs => cases h
            | cons i is ih =>
              intro bs e e2 h j k' hj
              cases bs with
              | nil => simp at hj
              | cons b bs =>
                cases b with
                | slot _ => cases h
                | val d =>
                  simp only [parS] at h
                  split at h
                  · cases j with
                    | zero => simp at hj
                    | succ j => exact ih h j k' (by simpa using hj)
                  · cases h
                | tmp ds =>
                  simp only [parS] at h
                  split at h
                  · cases j with
                    | zero => simp at hj
                    | succ j => exact ih h j k' (by simpa using hj)
                  · cases h
          exact gp_bvs (fun j hj => hp j (List.mem_cons_of_mem _ hj)) E t2 E2 (rr r2 r3 (nslot h)) h q
        · cases h
      cases b with
      | slot k' => cases h
      | val d => exact main (.val d) r1 (fun ds z => by cases z) (fun ds z => by cases z) h
      | tmp ds => exact main (.own ds) r1 (fun ds' z => by cases z; rfl) (fun ds z => by cases z) h
theorem gp_tup {is : List Nat} (hp : ∀ i ∈ is, c.pr i = false) : GP c is (gTup c.K is.length (gNames is)) (putT (.tup is)) := by
  intro σ e Z H σ1 e1 e2 Z1 H1 s v Q E t E1 r h q
  cases s with
  | val d =>
    cases d with
    | tup ds =>
      obtain ⟨a, xs, rfl, h2, h3⟩ := rp_tup r
      have hl : ∀ {is : List Nat} {ds : List Pv.D} {e1 e2 : Es}, putAll is ds e1 = some e2 → ds.length = is.length := by
        intro is
        induction is with
        | nil =>
          intro ds e1 e2 h
          cases ds with
          | nil => rfl
          | cons d ds => cases h
        | cons i is ih =>
          intro ds e1 e2 h
          cases ds with
          | nil => cases h
          | cons d ds =>
            simp only [putAll] at h
            split at h
            · rw [List.length_cons, List.length_cons, ih h]
            · cases h
      have h : putAll is ds e1 = some e2 := h
      exact ⟨a, xs, rfl, .inl (.inl h2), by rw [h3.len, hl h], gp_names (fun i hi => ⟨hp i hi, hi⟩) E t E1 h3 h q⟩
    | _ => cases h
  | own ds => cases h
  | lck ds => exact r.elim
  | exc _ _ => exact r.elim
/-- target = value -/
theorem s_asgI {ns : List Nat} {te : TE} {g : TG} {put : Sl → Es → Option Es} {st : Stmt} {f : Es → R Sl} (h : PS X st (tAsg (tE c W f) g)) (hg : GP c ns g put) : PS X st (tS c W fun e => (f e).bind fun s e1 => match put s e1 with
    | some e2 => .ok .next e2
    | none => .bad) := Pv.PS.imp h fun D σ H ⟨e, Z, E, p⟩ => by
  refine ⟨e, Z, E, (PostS.bind0 p).imp fun s e1 Z1 H1 t E1 p v r => ?_⟩
  split at p
  · rename_i e2 hp
    exact hg σ e Z H σ e1 e2 Z1 H1 s v D.nx E t.s E1 r hp fun σ2 t2 E2 _ => p σ2 Z1 H1 t2 E2
  · exact p.elim
end
end Pv
set_option maxRecDepth 100000
set_option maxHeartbeats 2000000
namespace Pv
open PySem PySem.Spec PyProof.Rows L2
section
variable {c : Cn} {W : WX} {X : Cx} {D D' : Ends} {σ σ1 σ2 σ' : L2.St} {e e1 e2 e' : Es} {Z Z1 Z2 Z' : Addr → Prop} {H H1 H2 H' H₀ : Hp} {α : Type} {pe : Expr} {pos : Pos}
/-! ### return -/
theorem ret_of (E : EnvR c Z H σ e) {s : Sl} {v : V} (r : TmpR c H Z1 H1 σ1 e1 s v) : RetS c Z1 H1 s v := by
  cases s with
  | val d => exact r
  | own ds =>
    obtain ⟨a, xs, q1, q2, q3, q4, _, q6⟩ := r
    exact ⟨a, xs, q1, fun w => E.bt a w q2, q3, q4, q6⟩
  | lck ds => exact r.elim
  | exc _ _ => exact r.elim
theorem s_ret {f : Es → R Sl} (h : PE X pe (tE c W f)) : PS X (.Return (some pe) pos) (tS c W fun e => (f e).bind fun s e => .ok (.ret s) e) :=
  Pv.PS.imp (ps_ret h) fun D σ H ⟨e, Z, E, p⟩ => ⟨e, Z, E, (PostS.bind0 p).imp fun s e1 Z1 H1 t E1 p v r => p σ Z1 H1 t.s E1 v (ret_of E r)⟩
theorem s_ret0 : PS X (.Return none pos) (tS c W fun e => .ok (.ret (.val .non)) e) :=
  Pv.PS.imp ps_retN fun D σ H ⟨e, Z, E, p⟩ => p σ Z H .refl E .non (mk_non (K := c.K) (Z := Z) (H := H))
theorem EnvR.drop (E : EnvR c Z H σ e) (i : Nat) : EnvR c Z H σ (e.set i none) := by
  have nn : ∀ {s : Sl}, (e.set i none)[i]? ≠ some (some s) := fun {s} h => by
    by_cases hl : i < e.length
    · rw [List.getElem?_set_self hl] at h; cases h
    · rw [List.getElem?_eq_none (by simpa using hl)] at h; cases h
  refine E.set1 i (by rw [List.length_set]; exact E.len) (fun j s hj q => ⟨by rwa [set_get hj] at q, rfl⟩) (fun _ _ _ _ r => r) (fun s q => absurd q nn) (fun b hb => ?_) E.bt E.zt
  obtain ⟨ds, q | q, _⟩ := hb
  · exact absurd q nn
  · exact absurd q nn
theorem Tr.drop (t : Tr σ e Z H σ1 e1 Z1 H1) {i : Nat} {ds : List Pv.D} (hi : e1[i]? = some (some (.own ds))) : Tr σ e Z H σ1 (e1.set i none) Z1 H1 := ⟨t.keep, t.zle, t.znew, fun a q => t.own a (own_set q fun _ z => by cases z), fun a q => t.held a (held_set q fun _ => ⟨(fun z => by cases z), (fun z => by cases z)⟩), t.here, fun j es h => by
  obtain ⟨q1, ds1, q2⟩ := t.lk j es h
  exact ⟨q1, ds1, lck_ne hi q2⟩⟩
/-- what is left of a name's list that goes with the return -/
theorem s_retv {i : Nat} (h : PE X pe (tVar i)) (prot cal sub) : PS X (.Return (some pe) pos) (tS c W fun e => retS c.np (.var i) e (evE prot cal sub (.var i) e)) :=
  Pv.PS.imp (ps_ret h) fun D σ H ⟨e, Z, E, p⟩ => by
    simp only [retS] at p
    have other : PostS c W D σ e Z H ((evE prot cal sub (.var i) e).bind fun s e => .ok (.ret s) e) → tRet (tVar i) D σ H := fun p => by
      have p := PostS.bind0 p
      simp only [evE] at p
      split at p
      · rename_i d q
        obtain ⟨v, e1, r⟩ := E.slot i _ q
        exact ⟨v, e1, Post.ok_now p E σ Z H .refl E v r⟩
      · rename_i ds q
        obtain ⟨a, e1, G, t, r⟩ := E.capture q
        exact ⟨.ref a, e1, p _ H t G σ _ H t.s G _ r⟩
      · exact p.elim
    split at p
    · rename_i hn
      split at p
      · rename_i ds q
        obtain ⟨a, xs, e1, e2, e3, e4⟩ := E.slot i _ q
        exact ⟨.ref a, e1, p σ Z H (Tr.refl.drop q).s (E.drop i) _ ⟨a, xs, rfl, E.prov i a hn ⟨ds, .inl q, e1⟩, e2, e3, e4⟩⟩
      · exact other p
    · exact other p
theorem retS_no {a : Ex} (ha : ∀ i, a ≠ .var i) {np : Nat} {e : Es} {r : R Sl} : retS np a e r = r.bind fun s e => .ok (.ret s) e := by
  cases a <;> first | rfl | exact absurd rfl (ha _)
/-! ### while -/
theorem s_while {pc : Expr} {body : List Stmt} {fc : Es → R Bool} {fb : Es → R Flow} (n : Nat) (hp : PassesOwn (model X.prog X.w) X.A X.env X.xe) (hc : PT X pc (tTe c W fc)) (hb : PSs X body (tS c W fb)) :
    PS X (.While pc body [] pos) (tS c W fun e => whileGo fc fb n e) := Pv.PS.imp (ps_while hp hc hb) fun D σ H h => by
  refine ⟨fun m σ H => tS c W (fun e => whileGo fc fb m e) D σ H, ⟨n, h⟩, fun m σ H ⟨e, Z, E, p⟩ => ⟨e, Z, E, ?_⟩⟩
  cases m with
  | zero => exact p.elim
  | succ m =>
    have p : PostS c W D σ e Z H (whileGo fc fb (m + 1) e) := p
    simp only [whileGo] at p
    cases hf : fc e with
    | bad => rw [hf] at p; exact p
    | exc cl d e' =>
      rw [hf] at p
      exact fun Z' H' dx t E x => p σ Z' H' dx t.s E x
    | ok b e1 =>
      rw [hf] at p
      intro Z1 H1 t E1
      cases b with
      | false => exact p σ Z1 H1 t.s E1
      | true =>
        simp only [if_true]
        refine ⟨tS c W (fun e => whileGo fc fb m e) D, fun σ' H' q => ⟨m, Nat.lt_succ_self m, q⟩, e1, Z1, E1, ?_⟩
        have p := PostS.after p t.s
        simp only at p
        cases hg : fb e1 with
        | bad => rw [hg] at p; exact p
        | exc cl d e' => rw [hg] at p; exact p
        | ok fl e2 =>
          rw [hg] at p
          cases fl with
          | next => exact fun σ' Z' H' t E => ⟨e2, Z', E, PostS.after p t⟩
          | cont => exact fun σ' Z' H' t E => ⟨e2, Z', E, PostS.after p t⟩
          | brk => exact fun σ' Z' H' t E => p σ' Z' H' t E
          | ret s => exact fun σ' Z' H' t E => p σ' Z' H' t E
/-! ### op= -/
def ipB (o : Bop) : TIp := fun x y H Q => ∃ i j k, x = .int i ∧ y = .int j ∧ binD o (.int i) (.int j) = some (.val (.int k)) ∧ Q (.int k) H
theorem ipB_add : PIp X .Add (ipB .add) := fun pins s σ H x y v u Q I r1 r2 ⟨i, j, k, q1, q2, q3, q⟩ => ip_add pins s σ H x y v u Q I r1 r2 ⟨i, j, q1, q2, by
  cases q3
  exact q⟩
theorem ipB_sub : PIp X .Sub (ipB .sub) := fun pins s σ H x y v u Q I r1 r2 ⟨i, j, k, q1, q2, q3, q⟩ => ip_sub pins s σ H x y v u Q I r1 r2 ⟨i, j, q1, q2, by
  cases q3
  exact q⟩
theorem s_aug {i : Nat} {o : Bop} {st : Stmt} {f : Es → R Sl} (h : PS X st (tAug i (tE c W f) (ipB o))) (hp : c.pr i = false) : PS X st (tS c W fun e => match e[i]? with
    | some (some (.val (.int x))) => (f e).bind fun s e1 => (match s with
      | .val (.int y) => (match binD o (.int x) (.int y) with
        | some z => (match putT (.one i) z e1 with
          | some e2 => .ok .next e2
          | none => .bad)
        | none => .bad)
      | _ => .bad)
    | _ => .bad) := Pv.PS.imp h fun D σ H ⟨e, Z, E, p⟩ => by
  simp only at p
  split at p
  · rename_i x q
    obtain ⟨v, h1, r⟩ := E.slot i _ q
    have r := rp_int r
    subst r
    refine ⟨_, h1, e, Z, E, (PostS.bind0 p).imp fun s e1 Z1 H1 t E1 p v r => ?_⟩
    split at p
    · rename_i y
      have r : Rp c.K Z1 H1 (.int y) v := r
      have r := rp_int r
      subst r
      split at p
      · rename_i z hz
        split at p
        · rename_i e2 h2
          obtain ⟨k, rfl⟩ : ∃ k, z = .val (.int k) := by
            cases o <;> simp only [binD] at hz <;> first
              | (cases hz; exact ⟨_, rfl⟩)
              | (split at hz <;> first | (cases hz; exact ⟨_, rfl⟩) | cases hz)
          refine ⟨x, y, k, rfl, rfl, hz, ?_⟩
          exact gp_one hp σ e Z H σ e1 e2 Z1 H1 (.val (.int k)) (.int k) D.nx E t.s E1 (mk_int (K := c.K) (Z := Z1) (H := H1) k) h2 fun σ2 t2 E2 _ => p σ2 Z1 H1 t2 E2
        · exact p.elim
      · exact p.elim
    · exact p.elim
  · exact p.elim
/-! ### a name's list changed in place -/
theorem ix_nat {n : Nat} {k : Int} (h0 : 0 ≤ k) (h : k.toNat < n) : ixN n k = some k.toNat := by
  unfold ixN
  rw [if_pos h0, if_pos (by omega)]
theorem ix_neg {n : Nat} {k : Int} (h0 : ¬ 0 ≤ k) (h : -(n : Int) ≤ k) : ixN n k = some (k + n).toNat := by
  unfold ixN
  rw [if_neg h0, if_pos h]
theorem s_setIx {i : Nat} {st : Stmt} {f g : Es → R Sl} (h : PS X st (tAsg (tV c W fun e => (f e).fz) (gSub (tVar i) (tE c W g) rSetL))) : PS X st (tS c W fun e => (f e).fz.bind fun d e1 => (match e1[i]? with
    | some (some (.own _)) => (g e1).bind fun s e2 => (match e2[i]?, s with
      | some (some (.own ds)), .val (.int k) => (if 0 ≤ k then (if k.toNat < ds.length then .ok .next (e2.set i (some (.own (ds.set k.toNat d)))) else .bad)
        else if -(ds.length : Int) ≤ k then .ok .next (e2.set i (some (.own (ds.set (k + ds.length).toNat d)))) else .bad)
      | _, _ => .bad)
    | _ => .bad)) := Pv.PS.imp h fun D σ H ⟨e, Z, E, p⟩ => by
  refine ⟨e, Z, E, (PostS.bind p).imp fun d e1 Z1 H1 t1 E1 p v r => ?_⟩
  split at p
  case h_2 => exact p.elim
  rename_i ds₀ q₀
  have p := PostS.bind p
  obtain ⟨a₀, xs₀, hw, _⟩ := E1.slot i _ q₀
  refine ⟨.ref a₀, hw, e1, Z1, E1, p.imp fun s e2 Z2 H2 t2 E2 p u ru => ?_⟩
  split at p
  · rename_i ds k q
    have ru : Rp c.K Z2 H2 (.int k) u := ru
    have ru := rp_int ru
    subst ru
    obtain ⟨a, xs, h1, h2, h3, h4⟩ := E2.slot i _ q
    rw [hw] at h1
    cases h1
    have r2 := Rp.tr E1 t2 r
    have fin : ∀ j, ixN xs.length k = some j → PostS c W D σ e2 Z2 H2 (.ok .next (e2.set i (some (.own (ds.set j d))))) → rSetL (.ref a₀) (.int k) v H2 fun H3 => D.nx σ H3 := fun j hj p => by
      obtain ⟨G, t3, _⟩ := E2.change q hw h2 (Rps.set r2 j h4)
      exact ⟨a₀, xs, k, j, rfl, rfl, h2, hj, p σ Z2 _ t3.s G⟩
    split at p
    · rename_i h0
      split at p
      · rename_i hl
        exact fin _ (ix_nat h0 (by rw [h4.len]; exact hl)) p
      · exact p.elim
    · rename_i h0
      split at p
      · rename_i hl
        have := ix_neg (n := xs.length) h0 (by rw [h4.len]; exact hl)
        rw [h4.len] at this
        exact fin _ (by rw [h4.len]; exact this) p
      · exact p.elim
  · exact p.elim
theorem ty_list {a : Addr} {xs : List V} (h : H a = some (.lst xs)) : tyV X.K "list" (.ref a) H := .inl ⟨rfl, xs, .inl (.inl h)⟩
theorem s_append {i : Nat} {st : Stmt} {f : Es → R Sl} (h : PS X st (tDrop (tBM X.K "list" rAppend (tVar i) (tCons (tV c W fun e => (f e).fz) tNil)))) : PS X st (tS c W fun e => (match e[i]? with
    | some (some (.own _)) => (f e).fz.bind fun d e1 => (match e1[i]? with
      | some (some (.own ds)) => if ds.length < sizeMax then .ok .next (e1.set i (some (.own (ds ++ [d])))) else .bad
      | _ => .bad)
    | _ => .bad)) := Pv.PS.imp h fun D σ H ⟨e, Z, E, p⟩ => by
  simp only at p
  split at p
  case h_2 => exact p.elim
  rename_i ds₀ q₀
  obtain ⟨a, xs₀, hw, h2, _⟩ := E.slot i _ q₀
  refine ⟨.ref a, hw, ty_list h2, e, Z, E, (PostS.bind p).imp fun d e1 Z1 H1 t1 E1 p v r => ?_⟩
  split at p
  case h_2 => exact p.elim
  rename_i ds q
  split at p
  case isFalse => exact p.elim
  rename_i hl
  obtain ⟨a', xs, h1, h2, h3, h4⟩ := E1.slot i _ q
  rw [hw] at h1
  cases h1
  obtain ⟨G, t3, _⟩ := E1.change q hw h2 (h4.append (rps_cons r rps_nil))
  refine ⟨a, xs, v, rfl, rfl, h2, ?_, p σ Z1 _ t3.s G⟩
  rw [h4.len]
  exact hl
theorem s_reverse {i : Nat} {st : Stmt} (h : PS X st (tDrop (tBM0 X.K "list" rReverse (tVar i)))) : PS X st (tS c W fun e => (match e[i]? with
    | some (some (.own ds)) => .ok .next (e.set i (some (.own ds.reverse)))
    | _ => .bad)) := Pv.PS.imp h fun D σ H ⟨e, Z, E, p⟩ => by
  simp only at p
  split at p
  case h_2 => exact p.elim
  rename_i ds q
  obtain ⟨a, xs, hw, h2, h3, h4⟩ := E.slot i _ q
  obtain ⟨G, t3, _⟩ := E.change q hw h2 h4.reverse
  exact ⟨.ref a, hw, ty_list h2, a, xs, rfl, rfl, h2, p σ Z _ t3.s G⟩
theorem r_pop {i : Nat} (h : PE X pe (tBM0 X.K "list" rPop (tVar i))) (prot cal sub) : PE X pe (tE c W (evE prot cal sub (.pop i))) := Pv.PE.imp h fun σ H Q ⟨e, Z, E, p⟩ => by
  simp only [evE] at p
  split at p
  case h_2 => exact p.elim
  rename_i ds q
  split at p
  case h_2 => exact p.elim
  rename_i d hd
  obtain ⟨a, xs, hw, h2, h3, h4⟩ := E.slot i _ q
  obtain ⟨G, t3, k⟩ := E.change q hw h2 h4.dropLast
  rw [List.getLast?_eq_getElem?] at hd
  obtain ⟨x, hx, rx⟩ := h4.get hd
  refine ⟨.ref a, hw, ty_list h2, a, xs, x, rfl, rfl, h2, by rw [h4.len]; exact hx, p Z _ t3 G x ?_⟩
  exact Rp.mono k (fun _ z => z) rx
theorem r_pop0 {i : Nat} {f : Es → R Sl} (h : PE X pe (tBM X.K "list" rPopAt (tVar i) (tCons (tE c W f) tNil))) : PE X pe (tE c W fun e => (match e[i]? with
    | some (some (.own _)) => (f e).bind fun y e1 => (match e1[i]?, y with
      | some (some (.own (d :: ds))), .val (.int 0) => .ok (.val d) (e1.set i (some (.own ds)))
      | _, _ => .bad)
    | _ => .bad)) := Pv.PE.imp h fun σ H Q ⟨e, Z, E, p⟩ => by
  simp only at p
  split at p
  case h_2 => exact p.elim
  rename_i ds₀ q₀
  obtain ⟨a, xs₀, hw, h2, _⟩ := E.slot i _ q₀
  refine ⟨.ref a, hw, ty_list h2, e, Z, E, (Post.bind p).imp fun y e1 Z1 H1 t1 E1 p v r => ?_⟩
  split at p
  case h_2 => exact p.elim
  rename_i d ds q
  obtain ⟨a', xs, h1, h2, h3, h4⟩ := E1.slot i _ q
  rw [hw] at h1
  cases h1
  obtain ⟨x, xr, rfl, rx, rr⟩ := rps_inv h4
  have r : Rp c.K Z1 H1 (.int 0) v := r
  have r := rp_int r
  subst r
  obtain ⟨G, t3, k⟩ := E1.change q hw h2 rr
  exact ⟨a, x :: xr, 0, 0, x, rfl, rfl, h2, by decide, by decide, (ixN_seq (ix_nat (k := 0) (by decide) (by simp))).1, rfl, p Z1 _ t3 G x (Rp.mono k (fun _ z => z) rx)⟩
end
end Pv
set_option maxRecDepth 100000
set_option maxHeartbeats 2000000
namespace Pv
open PySem PySem.Spec PyProof.Rows L2
/-! ## What is walked -/
structure Wk (c : Cn) (J : It) (ds : List D) (A : Addr → Prop) (P : (Addr → Prop) → Hp → Prop) : Prop where
  go : ∀ Z H i, P Z H → i < ds.length → J.go i H
  stop : ∀ Z H i, P Z H → ds.length ≤ i → J.stop i H
  yld : ∀ Z H i x H' d, P Z H → ds[i]? = some d → J.yld i H x H' → Same H H' ∧ Rp c.K Z H' d x
  ext : ∀ Z H H', P Z H → Same H H' → P Z H'
  stay : ∀ σ e Z H σ' e' Z' H', EnvR c Z H σ e → Tr σ e Z H σ' e' Z' H' → (∀ a, A a → ¬ OwnA σ e a) → P Z H → P Z' H'
def tI (c : Cn) (W : WX) (it : Ex) (f : Es → R (List D)) : TI := fun σ H R => ∃ e Z, EnvR c Z H σ e ∧ Post c W σ e Z H (f e) fun ds e' Z' H' =>
  ∀ J A P, Wk c J ds A P → P Z' H' → (∀ a, A a → H' a ≠ none ∧ ¬ OwnA σ (lockE it e') a) → R J H'
theorem PI.imp {X : Cx} {tg e : Expr} {t t' : TI} (h : PI X tg e t) (i : ∀ σ H R, t' σ H R → t σ H R) : PI X tg e t' := ⟨fun pins s σ H R I q => h.run pins s σ H R I (i σ H R q)⟩
theorem PI.or {X : Cx} {tg e : Expr} {t t' : TI} (h : PI X tg e t) (h' : PI X tg e t') : PI X tg e fun σ H R => t σ H R ∨ t' σ H R :=
  ⟨fun pins s σ H R I q => q.elim (h.run pins s σ H R I) (h'.run pins s σ H R I)⟩
section
variable {c : Cn} {W : WX} {X : Cx} {σ σ' : L2.St} {e e1 e' : Es} {Z Z1 Z' : Addr → Prop} {H H1 H' H₀ : Hp} {pe tg : Expr}
theorem wk_lst {a : Addr} {xs : List V} {ds : List D} {o} (ho : o = .lst xs ∨ ∃ ob, o = .frz ob (.lst xs)) : Wk c (Itl c.K a) ds (fun b => b = a) (fun Z H => H a = some o ∧ Rps c.K Z H ds xs) := by
  have sq : ∀ {H : Hp}, H a = some o → SqL c.K H a xs := fun {H} q => by
    rcases ho with rfl | ⟨ob, rfl⟩
    · exact .inl (.inl q)
    · exact .inl (.inr ⟨ob, q⟩)
  refine ⟨fun Z H i ⟨p1, p2⟩ hi => ?_, fun Z H i ⟨p1, p2⟩ hi => ⟨xs, sq p1, by rw [p2.len]; exact hi⟩, fun Z H i x H' d ⟨p1, p2⟩ hd y => ?_, fun Z H H' ⟨p1, p2⟩ s => ⟨s _ _ p1, p2.mono (Same.keep s) fun _ z => z⟩, fun σ e Z H σ' e' Z' H' E t n ⟨p1, p2⟩ => ⟨t.keep _ _ p1 (n a rfl), Rps.mono (t.keepZ E) t.zle p2⟩⟩
  · have hl : i < xs.length := by rw [p2.len]; exact hi
    exact ⟨xs, xs[i], sq p1, by simp [hl]⟩
  · obtain ⟨e1, q⟩ := y
    subst e1
    obtain ⟨x', hx, rx⟩ := p2.get hd
    rw [q xs (sq p1)] at hx
    cases hx
    exact ⟨fun _ _ h => h, rx⟩
/-- a list of the written part -/
theorem wk_K {a : Addr} {xs : List V} {ds : List D} (hk : SqK c.K a xs) : Wk c (Itl c.K a) ds (fun _ => False) (fun Z H => Rps c.K Z H ds xs) := by
  have sq : ∀ {H : Hp}, SqL c.K H a xs := fun {H} => .inr hk
  refine ⟨fun Z H i p2 hi => ?_, fun Z H i p2 hi => ⟨xs, sq, by rw [p2.len]; exact hi⟩, fun Z H i x H' d p2 hd y => ?_, fun Z H H' p2 s => p2.mono (Same.keep s) fun _ z => z, fun σ e Z H σ' e' Z' H' E t n p2 => Rps.mono (t.keepZ E) t.zle p2⟩
  · have hl : i < xs.length := by rw [p2.len]; exact hi
    exact ⟨xs, xs[i], sq, by simp [hl]⟩
  · obtain ⟨e1, q⟩ := y
    subst e1
    obtain ⟨x', hx, rx⟩ := p2.get hd
    rw [q xs sq] at hx
    cases hx
    exact ⟨fun _ _ h => h, rx⟩
theorem wk_tup {a : Addr} {xs : List V} {ds : List D} : Wk c (Itt c.K a) ds (fun b => b = a) (fun Z H => H a = some (.tup xs) ∧ Rps c.K Z H ds xs) := by
  have sq : ∀ {H : Hp}, H a = some (.tup xs) → SqT c.K H a xs := fun {H} q => .inl (.inl q)
  refine ⟨fun Z H i ⟨p1, p2⟩ hi => ?_, fun Z H i ⟨p1, p2⟩ hi => ⟨xs, sq p1, by rw [p2.len]; exact hi⟩, fun Z H i x H' d ⟨p1, p2⟩ hd y => ?_, fun Z H H' ⟨p1, p2⟩ s => ⟨s _ _ p1, p2.mono (Same.keep s) fun _ z => z⟩, fun σ e Z H σ' e' Z' H' E t n ⟨p1, p2⟩ => ⟨t.keep _ _ p1 (n a rfl), Rps.mono (t.keepZ E) t.zle p2⟩⟩
  · have hl : i < xs.length := by rw [p2.len]; exact hi
    exact ⟨xs, xs[i], sq p1, by simp [hl]⟩
  · obtain ⟨e1, q⟩ := y
    subst e1
    obtain ⟨x', hx, rx⟩ := p2.get hd
    rw [q xs (sq p1)] at hx
    cases hx
    exact ⟨fun _ _ h => h, rx⟩
theorem rangeL_len (lo hi : Int) : (rangeL lo hi).length = (hi - lo).toNat := by simp [rangeL]
theorem rangeL_get {lo hi : Int} {i : Nat} {d : D} (h : (rangeL lo hi)[i]? = some d) : d = .int (lo + i) := by
  simp only [rangeL, List.getElem?_map, Option.map_eq_some_iff] at h
  obtain ⟨k, hk, rfl⟩ := h
  rw [List.getElem?_range (by
    have := (List.getElem?_eq_some_iff.mp hk).1
    simpa using this)] at hk
  cases hk
  rfl
theorem wk_rng {lo hi : Int} : Wk c (Itr lo (hi - lo).toNat) (rangeL lo hi) (fun _ => False) (fun _ _ => True) := by
  refine ⟨fun Z H i _ h => by rw [rangeL_len] at h; exact h, fun Z H i _ h => by rw [rangeL_len] at h; exact h, fun Z H i x H' d _ hd y => ?_, fun _ _ _ _ _ => trivial, fun _ _ _ _ _ _ _ _ _ _ _ _ => trivial⟩
  obtain ⟨e1, rfl⟩ := y
  subst e1
  rw [rangeL_get hd]
  exact ⟨fun _ _ h => h, mk_int _⟩
/-- a sequence that is only read -/
theorem rq_not (E : EnvR c Z H σ e) {a : Addr} {xs : List V} (h : (H a = some (.lst xs) ∧ Z a) ∨ ∃ o, H a = some (.frz o (.lst xs))) : ¬ OwnA σ e a := fun w => by
  obtain ⟨nz, ys, q⟩ := E.ownz w.held
  rcases h with ⟨_, z⟩ | ⟨o, z⟩
  · exact nz z
  · rw [q] at z; cases z
theorem lock_no {a : Ex} (ha : ∀ i, a ≠ .itv (.var i)) (e : Es) : lockE a e = e := by
  unfold lockE
  split
  · rename_i i
    exact absurd rfl (ha i)
  · rfl
theorem own_lock {a : Ex} {b : Addr} (h : OwnA σ (lockE a e) b) : OwnA σ e b := by
  unfold lockE at h
  split at h
  · split at h
    · exact own_set h fun _ z => by cases z
    · exact h
  · exact h
/-- what is walked is no name -/
theorem i_itv {a : Ex} {f : Es → R Sl} (ha : ∀ i, a ≠ .var i) (hK : c.K = X.K) (h : PE X pe (tE c W f)) : PI X tg pe (tI c W (.itv a) fun e => (bor a e (f e)).bind fun x e1 => match look e1 x with
    | some d => retD (seqD d) id e1
    | none => .bad) := by
  refine Pv.PI.imp (PI.or (pi_list h) (pi_tup h)) fun σ H R ⟨e, Z, E, p⟩ => ?_
  have eb : bor a e (f e) = (f e).bind fun s e => match s with
    | .val d => .ok (.val d) e
    | .own ds => .ok (.tmp ds) e
    | _ => .bad := by
    cases a <;> first | rfl | exact absurd rfl (ha _)
  simp only [eb] at p
  cases hf : f e with
  | bad => rw [hf] at p; exact p.elim
  | exc cl d e' =>
    rw [hf] at p
    exact .inl ⟨e, Z, E, by rw [hf]; exact p⟩
  | ok s e1 =>
    rw [hf] at p
    have nl : lockE (.itv a) e1 = e1 := lock_no (fun i z => ha i (by cases z; rfl)) e1
    cases s with
    | lck ds => exact p.elim
    | exc _ _ => exact p.elim
    | own ds =>
      have p : Post c W σ e Z H (.ok ds e1) _ := p
      refine .inl ⟨e, Z, E, ?_⟩
      rw [hf, ← hK]
      intro Z1 H1 t E1 v r
      obtain ⟨b, xs, rfl, q1, q2, q3, q4, q5⟩ := r
      refine ⟨b, rfl, ⟨xs, .inl (.inl q2)⟩, p Z1 H1 t E1 _ _ _ (wk_lst (.inl rfl)) ⟨q2, q5⟩ fun b' hb' => ?_⟩
      subst hb'
      exact ⟨by rw [q2]; exact (fun z => by cases z), fun w => q4 (own_lock w).held⟩
    | val d =>
      cases d with
      | lst ds =>
        have p : Post c W σ e Z H (.ok ds e1) _ := p
        refine .inl ⟨e, Z, E, ?_⟩
        rw [hf, ← hK]
        intro Z1 H1 t E1 v r
        obtain ⟨b, xs, rfl, q1, q2⟩ := rp_lst (show Rp c.K Z1 H1 (.lst ds) v from r)
        have l1 := q1.l
        have fin : ((H1 b = some (.lst xs) ∧ Z1 b) ∨ ∃ o, H1 b = some (.frz o (.lst xs))) → ∀ o, (o = .lst xs ∨ ∃ ob, o = .frz ob (.lst xs)) → H1 b = some o → R (Itl c.K b) H1 := fun q1 o ho q => by
          refine p Z1 H1 t E1 _ _ _ (wk_lst ho) ⟨q, q2⟩ fun b' hb' => ?_
          subst hb'
          exact ⟨by rw [q]; exact (fun z => by cases z), fun w => rq_not E1 q1 (own_lock w)⟩
        refine ⟨b, rfl, ⟨xs, l1⟩, ?_⟩
        rcases q1 with ⟨q1, z⟩ | ⟨o, q1⟩ | q1
        · exact fin (.inl ⟨q1, z⟩) _ (.inl rfl) q1
        · exact fin (.inr ⟨o, q1⟩) _ (.inr ⟨o, rfl⟩) q1
        · exact p Z1 H1 t E1 _ _ _ (wk_K q1) q2 fun _ h => h.elim
      | tup ds =>
        have p : Post c W σ e Z H (.ok ds e1) _ := p
        refine .inr ⟨e, Z, E, ?_⟩
        rw [hf, ← hK]
        intro Z1 H1 t E1 v r
        obtain ⟨b, xs, rfl, q1, q2⟩ := rp_tup (show Rp c.K Z1 H1 (.tup ds) v from r)
        refine ⟨b, rfl, ⟨xs, .inl (.inl q1)⟩, p Z1 H1 t E1 _ _ _ wk_tup ⟨q1, q2⟩ fun b' hb' => ?_⟩
        subst hb'
        refine ⟨by rw [q1]; exact (fun z => by cases z), fun w => ?_⟩
        obtain ⟨_, ys, q⟩ := E1.ownz (own_lock w).held
        rw [q1] at q
        cases q
      | _ => exact p.elim
/-- .. a name -/
theorem i_itvv {i : Nat} (hK : c.K = X.K) (h : PE X pe (tVar i)) (prot cal sub) : PI X tg pe (tI c W (.itv (.var i)) fun e => (bor (.var i) e (evE prot cal sub (.var i) e)).bind fun x e1 => match look e1 x with
    | some d => retD (seqD d) id e1
    | none => .bad) := by
  refine Pv.PI.imp (PI.or (pi_list h) (pi_tup h)) fun σ H R ⟨e, Z, E, p⟩ => ?_
  simp only [bor, evE] at p
  cases hs : e[i]? with
  | none => rw [hs] at p; exact p.elim
  | some o =>
    cases o with
    | none => rw [hs] at p; exact p.elim
    | some s =>
      rw [hs] at p
      cases s with
      | exc _ _ => exact p.elim
      | own ds =>
        obtain ⟨b, xs, q1, q2, q3, q4⟩ := E.slot i _ hs
        simp only [Pv.R.bind, look, hs] at p
        have p : Post c W σ e Z H (.ok ds e) _ := p
        refine .inl ⟨.ref b, q1, b, rfl, ⟨xs, .inl (.inl q2)⟩, ?_⟩
        rw [← hK]
        refine p Z H .refl E _ _ _ (wk_lst (.inl rfl)) ⟨q2, q4⟩ fun b' hb' => ?_
        subst hb'
        refine ⟨by rw [q2]; exact (fun z => by cases z), fun w => ?_⟩
        simp only [lockE, hs] at w
        obtain ⟨j, es, w1, w2⟩ := w
        by_cases hj : j = i
        · subst hj
          rw [set_at hs] at w1
          cases w1
        · rw [set_get hj] at w1
          exact hj (E.inj j i _ ⟨es, .inl w1, w2⟩ ⟨ds, .inl hs, q1⟩)
      | lck ds =>
        obtain ⟨b, xs, q1, q2, q3, q4⟩ := E.slot i _ hs
        simp only [Pv.R.bind, look, hs] at p
        have p : Post c W σ e Z H (.ok ds e) _ := p
        refine .inl ⟨.ref b, q1, b, rfl, ⟨xs, .inl (.inl q2)⟩, ?_⟩
        rw [← hK]
        refine p Z H .refl E _ _ _ (wk_lst (.inl rfl)) ⟨q2, q4⟩ fun b' hb' => ?_
        subst hb'
        refine ⟨by rw [q2]; exact (fun z => by cases z), fun w => ?_⟩
        obtain ⟨j, es, w1, w2⟩ := own_lock w
        have ej := E.inj j i _ ⟨es, .inl w1, w2⟩ ⟨ds, .inr hs, q1⟩
        rw [ej, hs] at w1
        cases w1
      | val d =>
        obtain ⟨v, q1, r⟩ := E.slot i _ hs
        simp only [Pv.R.bind, look] at p
        cases d with
        | lst ds =>
          have p : Post c W σ e Z H (.ok ds e) _ := p
          obtain ⟨b, xs, rfl, q2, q3⟩ := rp_lst r
          have l1 := q2.l
          have fin : ((H b = some (.lst xs) ∧ Z b) ∨ ∃ o, H b = some (.frz o (.lst xs))) → ∀ o, (o = .lst xs ∨ ∃ ob, o = .frz ob (.lst xs)) → H b = some o → R (Itl c.K b) H := fun q2 o ho q => by
            refine p Z H .refl E _ _ _ (wk_lst ho) ⟨q, q3⟩ fun b' hb' => ?_
            subst hb'
            exact ⟨by rw [q]; exact (fun z => by cases z), fun w => rq_not E q2 (own_lock w)⟩
          refine .inl ⟨.ref b, q1, b, rfl, ⟨xs, hK ▸ l1⟩, ?_⟩
          rw [← hK]
          rcases q2 with ⟨q2, z⟩ | ⟨o, q2⟩ | q2
          · exact fin (.inl ⟨q2, z⟩) _ (.inl rfl) q2
          · exact fin (.inr ⟨o, q2⟩) _ (.inr ⟨o, rfl⟩) q2
          · exact p Z H .refl E _ _ _ (wk_K q2) q3 fun _ h => h.elim
        | tup ds =>
          have p : Post c W σ e Z H (.ok ds e) _ := p
          obtain ⟨b, xs, rfl, q2, q3⟩ := rp_tup r
          refine .inr ⟨.ref b, q1, b, rfl, ⟨xs, .inl (.inl q2)⟩, ?_⟩
          rw [← hK]
          refine p Z H .refl E _ _ _ wk_tup ⟨q2, q3⟩ fun b' hb' => ?_
          subst hb'
          refine ⟨by rw [q2]; exact (fun z => by cases z), fun w => ?_⟩
          obtain ⟨_, ys, q⟩ := E.ownz (own_lock w).held
          rw [q2] at q
          cases q
        | _ => exact p.elim
theorem i_range1 {a : Expr} {p pos : Pos} {it : Ex} {f : Es → R Sl} (hit : ∀ i, it ≠ .itv (.var i)) (hg : Gl X "range") (hm : X.mg "range" = none) (ha : PE X a (tE c W f)) (hs0 : starEach [a] X.env = (false, eval a X.env) :: starEach [] X.env) (hs : starEach [a] X.env = [(false, eval a X.env)]) :
    PI X tg (.Call (.Name "range" p) [a] [] pos) (tI c W it fun e => (f e).bind fun s e1 => match s with
    | .val (.int n) => if -(2 ^ 62) ≤ n ∧ n < 2 ^ 62 then .ok (rangeL 0 n) e1 else .bad
    | _ => .bad) := Pv.PI.imp (pi_range1 hg hm (pa_cons ha pa_nil hs0) hs) fun σ H R ⟨e, Z, E, p⟩ => by
  refine ⟨e, Z, E, (Post.bind p).imp fun s e1 Z1 H1 t E1 p v r => ?_⟩
  split at p
  case h_2 => exact p.elim
  rename_i n
  split at p
  case isFalse => exact p.elim
  rename_i hn
  have r : Rp c.K Z1 H1 (.int n) v := r
  have r := rp_int r
  subst r
  have w := wk_rng (c := c) (lo := 0) (hi := n)
  rw [Int.sub_zero] at w
  exact ⟨n, rfl, hn.1, hn.2, Post.ok_now p E1 _ _ _ w trivial fun a h => h.elim⟩
theorem i_range2 {a b : Expr} {p pos : Pos} {it : Ex} {f g : Es → R Sl} (hg : Gl X "range") (hm : X.mg "range" = none) (ha : PE X a (tE c W f)) (hb : PE X b (tE c W g)) (hs0 : starEach [a, b] X.env = (false, eval a X.env) :: starEach [b] X.env) (hs1 : starEach [b] X.env = (false, eval b X.env) :: starEach [] X.env)
    (hs : starEach [a, b] X.env = [(false, eval a X.env), (false, eval b X.env)]) (hs2 : starEach [b] X.env = [(false, eval b X.env)]) :
    PI X tg (.Call (.Name "range" p) [a, b] [] pos) (tI c W it fun e => (f e).bind fun s e1 => (g e1).bind fun t e2 => match s, t with
    | .val (.int i), .val (.int j) => if (-(2 ^ 62) ≤ i ∧ i < 2 ^ 62) ∧ -(2 ^ 62) ≤ j ∧ j < 2 ^ 62 then .ok (rangeL i j) e2 else .bad
    | _, _ => .bad) := Pv.PI.imp (pi_range2 hg hm (pa_cons ha (pa_cons hb pa_nil hs1) hs0) hs hs2) fun σ H R ⟨e, Z, E, p⟩ => by
  refine ⟨e, Z, E, (Post.bind p).imp fun s e1 Z1 H1 t E1 p1 v r => ⟨e1, Z1, E1, (Post.bind p1).imp fun s2 e2 Z2 H2 t2 E2 p v2 r2 => ?_⟩⟩
  clear p1
  split at p
  case h_2 => exact p.elim
  rename_i i j
  split at p
  case isFalse => exact p.elim
  rename_i hn
  have r : Rp c.K Z1 H1 (.int i) v := r
  have r := rp_int r
  subst r
  have r2 : Rp c.K Z2 H2 (.int j) v2 := r2
  have r2 := rp_int r2
  subst r2
  exact ⟨i, j, rfl, ⟨hn.1.1, hn.1.2, hn.2.1, hn.2.2⟩, Post.ok_now p E2 _ _ _ wk_rng trivial fun a h => h.elim⟩
end
end Pv
set_option maxRecDepth 100000
set_option maxHeartbeats 4000000
namespace Pv
open PySem PySem.Spec PyProof.Rows L2
/-! ## enumerate -/
/-- the cell of an enumerate just made, whose source's cell is i -/
abbrev enC (i : Addr) : Obj := { cls := .type "enumerate", data := .fields #[.none, .bool false, .ref i, rawInt 0, .none, .none] }
theorem en_new {v : Value} {ob : Obj} {Hv : Heap → Prop} (bg : Begins v ob Hv) :
    Meets (Builtin.«enumerate.__new__» ⟨[.type "enumerate", v], []⟩) fun _ K' s0 => Hv s0.heap ∧ K' (.ok (.ret (.ref (s0.heap.push ob).objs.size))) { s0 with heap := (s0.heap.push ob).push (enC s0.heap.objs.size) } :=
  .of_wp fun prog w A' K' s0 hyp => by
    obtain ⟨h0, gl, dl, t0, os0⟩ := s0
    obtain ⟨hv, hyp⟩ := hyp
    have hsub := sub_enumerate
    have step : ∀ {A2 : Around} {E2 : Value → Shared → Prop} {Q2 : Value → Shared → Prop}, Q2 (.ref h0.objs.size) ⟨h0.push ob, gl, dl, t0, os0⟩ → wpAny (model prog w) A2 (pyIter v) Q2 E2 ⟨h0, gl, dl, t0, os0⟩ := fun z => bg.iter prog w _ _ ⟨h0, gl, dl, t0, os0⟩ _ hv z
    wp_walk using step
    refine wpAny_stack_any fun sk => wpAny_pure ?_
    split
    · rename_i cc _ _ _ _ _
      cases (cc == Value.type "enumerate")
      all_goals
        wp_walk using step
        exact ⟨_, rfl, hyp⟩
    · wp_walk using step
      exact ⟨_, rfl, hyp⟩
section
variable {P : Program} {w : World} {K : PySem.W.Frag}
theorem en_call {A : Around} {E : Value → Shared → Prop} {s : Shared} {v : Value} {ob : Obj} {Hv : Heap → Prop} {Q : Value → Shared → Prop} (bg : Begins v ob Hv) (hv : Hv s.heap)
    (q : ∀ h', IsEnum h' (s.heap.objs.size + 1) s.heap.objs.size 0 .none → h'.get? s.heap.objs.size = some ob → (∀ b o, s.heap.get? b = some o → h'.get? b = some o) → Q (.ref (s.heap.objs.size + 1)) { s with heap := h' }) :
    wpAny (model P w) A (call (.type "enumerate") [v]) Q E s := by
  refine callType_new F.called_enumerate (by decide) (F.typeCall_enumerate_1 _) (F.newCall_enumerate_1 _) (fun ob' => F.args_object_init_2 ob' _) F.entry_enumerate_new (en_new bg) ⟨hv, ?_⟩
  have sz1 : (s.heap.push ob).objs.size = s.heap.objs.size + 1 := Heap.size_push ..
  have ie : IsEnum ((s.heap.push ob).push (enC s.heap.objs.size)) (s.heap.objs.size + 1) s.heap.objs.size 0 .none := by
    have z := Heap.get?_push_size (s.heap.push ob) (o := enC s.heap.objs.size) rfl
    rw [sz1] at z
    exact z
  show _ ∧ _
  rw [sz1]
  exact ⟨⟨_, ie, rfl⟩, q _ ie (Heap.get?_push_of_some _ (Heap.get?_push_size _ bg.free)) fun b o z => Heap.get?_push_of_some _ (Heap.get?_push_of_some _ z)⟩
/-- the tuple at a, each item in a new pair -/
def ItE (K : PySem.W.Frag) (a : Addr) : It where
  go := fun i H => ∃ (xs : List V) (x : V), SqT K H a xs ∧ xs[i]? = some x
  yld := fun i H v H' => ∃ T x, v = .ref T ∧ H T = none ∧ H' = upd H T (.tup [.int (i : Nat), x]) ∧ ∀ xs, SqT K H a xs → xs[i]? = some x
  stop := fun i H => ∃ xs : List V, SqT K H a xs ∧ xs.length ≤ i
theorem turn_enT {elts : List Expr} {kk : Nat} {tpos : Pos} (a e it : Addr) (ha : a ≠ it) :
    Turn P w K (.Tuple elts kk tpos) (ItE K a) [e, it] e (fun i h => ((∃ old, IsEnum h e it ((i : Nat) : Int) old) ∧ h.IsTupleIter it a i) ∧ e ≠ it ∧ e ≠ a) where
  mem := List.mem_cons_self
  obj := by
    rintro i h ⟨⟨⟨old, ie⟩, ⟨o, ho, hc, hd⟩⟩, _⟩ b hb
    rcases List.mem_cons.mp hb with z | z
    · subst z
      exact ⟨_, ie, fun v q => nomatch q⟩
    · rw [List.mem_singleton.mp z]
      exact ⟨o, ho, fun v q => by rw [hd] at q; cases q⟩
  keep := by
    rintro i h h' ⟨⟨⟨old, ie⟩, ti⟩, ne⟩ kp
    exact ⟨⟨⟨old, kp e List.mem_cons_self _ ie⟩, ti.at fun o q => kp it (List.mem_cons_of_mem _ List.mem_cons_self) o q⟩, ne⟩
  item := by
    intro X hP hw hK hc i pins s σ H E I hf st hg
    subst hP hw hK
    obtain ⟨⟨⟨old, ie⟩, ti⟩, ne, nea⟩ := st
    obtain ⟨xs, x, hq, hx⟩ := hg
    obtain ⟨its, rv, pt, hz⟩ := I.tuple hq
    obtain ⟨u, hu, ru⟩ := rv.get hx
    have lte : e < s.heap.objs.size := Heap.lt_size ie
    have lti : it < s.heap.objs.size := by obtain ⟨_, z, _⟩ := ti; exact Heap.lt_size z
    have pt' : s.heap.IsTuple a its.toArray := pt
    have dr := Draws.tuple (prog := X.prog) (w := X.w) (A := X.A.in1) (I.ok.hd hc) it a ha its.toArray
    have hlt : i < its.toArray.size := by
      rw [List.size_toArray]
      exact (List.getElem?_eq_some_iff.mp hu).1
    refine wpAny_pyNext_enum_itemD dr ie ⟨ti, pt'⟩ hlt ne (by simp [ne, nea]) fun x' h' tk hx' eo st' gT sz kp => ?_
    have ex : x' = u := by
      have z : its[i]? = some x' := by simpa using hx'
      rw [hu] at z
      exact (Option.some.inj z).symm
    subst ex
    refine ⟨_, rfl, wpAny_letOwnedTupleGo_enum (s := { s with heap := h', toks := tk + 1 }) eo fun h2 ie2 sb => ?_⟩
    have gT2 : h2.get? s.heap.objs.size = some { cls := .type "tuple", data := .seq #[.int i tk, x'] } := (sb.2 _ (Nat.ne_of_gt lte)).trans gT
    have ok2 : ObjOk X.prog X.w (upd H s.heap.objs.size (.tup [.int (i : Nat), x])) h2 s.heap.objs.size (.tup [.int (i : Nat), x]) :=
      ⟨(by decide : 2 ≤ sizeLine), [.int i tk, x'], .cons ⟨_, rfl⟩ (.cons ru .nil), ⟨_, gT2, rfl, _, rfl⟩⟩
    have I2 : Inv X pins σ (upd H s.heap.objs.size (.tup [.int (i : Nat), x])) { s with heap := h2, toks := tk + 1 } :=
      I.turnedNew (ch := [e, it]) (fun b o hb z => (sb.2 b (fun y => hb (y ▸ List.mem_cons_self))).trans (kp b o (fun y => hb (y ▸ List.mem_cons_self)) (fun y => hb (y ▸ List.mem_cons_of_mem _ List.mem_cons_self)) z)) hf (Nat.le_refl _) ok2
    have ti2 : h2.IsTupleIter it a (i + 1) := st'.1.at fun o z => (sb.2 it (Ne.symm ne)).trans z
    refine ⟨.ref s.heap.objs.size, _, I2, rfl, ⟨_, x, rfl, I.hok.fresh (Nat.le_refl _), rfl, fun ys hy => by rw [I.tuple_inj hy hq]; exact hx⟩, ⟨⟨⟨x', ?_⟩, ti2⟩, ne, nea⟩, fun b hb => ?_⟩
    · rw [show ((i + 1 : Nat) : Int) = (i : Int) + 1 by omega]
      exact ie2
    · have hb2 : b < s.heap.objs.size := by
        rcases List.mem_cons.mp hb with z | z
        · rw [z]; exact lte
        · rw [List.mem_singleton.mp z]; exact lti
      rw [upd_ne (Nat.ne_of_lt hb2)]
      exact (hf b hb).1
  done := by
    intro X hP hw hK hc i pins s σ H E I hf st hg
    subst hP hw hK
    obtain ⟨⟨⟨old, ie⟩, ti⟩, ne, nea⟩ := st
    obtain ⟨xs, hq, hx⟩ := hg
    obtain ⟨its, rv, pt, hz⟩ := I.tuple hq
    have pt' : s.heap.IsTuple a its.toArray := pt
    obtain ⟨f0, f1, f2, f3, f4, f5⟩ := hf it (List.mem_cons_of_mem _ List.mem_cons_self)
    have hl := rv.length
    have nn : its.toArray[i]? = none := by simp; omega
    have dr : Draws X.prog X.w X.A.in1 it [it, a] i (fun _ _ => True) fun j h => j = i ∧ h.IsTupleIter it a i ∧ h.IsTuple a its.toArray :=
      { live := fun _ _ z => by obtain ⟨_, ⟨o, ho, _⟩, _⟩ := z; exact ⟨o, ho⟩
        frame := fun _ _ _ z kp => ⟨z.1, z.2.1.at fun o y => kp it List.mem_cons_self o y, z.2.2.at fun o y => kp a (List.mem_cons_of_mem _ List.mem_cons_self) o y⟩
        item := fun j _ _ _ hj z _ => absurd z.1 (Nat.ne_of_lt hj)
        done := fun _ _ _ z q => wpAny_nextOf_tuple_end (I.ok.hd hc) z.2.1 z.2.2 nn q }
    exact wpAny_pyNext_enum_endD dr ie ⟨rfl, ti, pt'⟩ fun h' eb => ⟨rfl, I.turned (t' := s.toks) (fun b o hb z => eb b o hb z) f0 f1 f3 f4 f5⟩
  self := fun A i s Q E st h => by
    obtain ⟨⟨⟨_, ie⟩, _⟩, _⟩ := st
    exact wpAny_pyIter_enum ie h
end

/-- enumerate of a tuple -/
theorem pi_enT {X : Cx} {pe : Expr} {ta : TA} {p pos tpos : Pos} {elts : List Expr} {kk : Nat} (hg : Gl X "enumerate") (hm : X.mg "enumerate" = none) (ha : PA X [pe] ta) (hs : starEach [pe] X.env = [(false, eval pe X.env)]) :
    PI X (.Tuple elts kk tpos) (.Call (.Name "enumerate" p) [pe] [] pos) (fun σ H R => ta σ H fun vs H1 => ∃ a xs, vs = [.ref a] ∧ SqT X.K H1 a xs ∧ R (ItE X.K a) H1) := by
  refine ⟨fun pins s σ H R I h => ?_⟩
  refine Call_ (ld_blt I hg hm boot_enumerate (PyProof.Rows.callWith_type1 (thn (ha.run pos pins s σ H _ I h) fun us s1 ⟨vs, H1, I1, r1, a, xs, ex, hq, q⟩ => ?_) hs rfl))
  subst ex
  cases r1 with
  | cons r rr =>
    cases rr
    cases r
    obtain ⟨its, rv, pt, hz⟩ := I1.tuple hq
    have pt' : s1.heap.IsTuple a its.toArray := pt
    have la : a < s1.heap.objs.size := by obtain ⟨_, z, _⟩ := pt'; exact Heap.lt_size z
    refine en_call (begins_tuple a its.toArray) pt' fun h' ie gi kp => wpAny_pyIter_enum ie ?_
    have I2 : Inv X pins σ H1 { s1 with heap := h' } := I1.kept (t' := s1.toks) kp
    have na : a ≠ s1.heap.objs.size := Nat.ne_of_lt la
    have na2 : s1.heap.objs.size + 1 ≠ a := Nat.ne_of_gt (Nat.lt_succ_of_lt la)
    refine ⟨s1.heap.objs.size + 1, [s1.heap.objs.size + 1, s1.heap.objs.size], _, _, H1, rfl, I2, turn_enT a (s1.heap.objs.size + 1) s1.heap.objs.size na, ⟨⟨⟨.none, ie⟩, ⟨_, gi, rfl, rfl⟩⟩, Nat.succ_ne_self _, na2⟩, fun b hb => ?_, q⟩
    have le : s1.heap.objs.size ≤ b := by
      rcases List.mem_cons.mp hb with z | z
      · rw [z]; exact Nat.le_succ _
      · rw [List.mem_singleton.mp z]; exact Nat.le_refl _
    exact I1.fpOk le (I1.hok.fresh le)
theorem enumL_len (ds : List D) : (enumL ds).length = ds.length := by simp [enumL]
theorem enumL_get {ds : List D} {i : Nat} {d : D} (h : (enumL ds)[i]? = some d) : ∃ d0, ds[i]? = some d0 ∧ d = .tup [.int i, d0] := by
  unfold enumL at h
  rw [List.getElem?_map, Option.map_eq_some_iff] at h
  obtain ⟨p, h1, rfl⟩ := h
  rw [List.getElem?_zipIdx, Option.map_eq_some_iff] at h1
  obtain ⟨d0, h1, rfl⟩ := h1
  exact ⟨d0, h1, by simp⟩
section
variable {c : Cn} {W : WX} {X : Cx} {pe : Expr}
theorem en_same {H : Hp} {T : Addr} {o} (h : H T = none) : Same H (upd H T o) := fun a ob q => by
  rw [upd_ne (fun z => by rw [z, h] at q; cases q)]
  exact q
theorem en_pair {Z : Addr → Prop} {H : Hp} {T : Addr} {x : V} {i : Nat} {d0 : Pv.D} (h : H T = none) (r : Rp c.K Z H d0 x) : Rp c.K Z (upd H T (.tup [.int (i : Nat), x])) (.tup [.int i, d0]) (.ref T) :=
  mk_tup (upd_same ..) (rps_cons (mk_int _) (rps_cons (r.mono (Same.keep (en_same h)) fun _ z => z) rps_nil))
theorem wk_enL {a : Addr} {xs : List V} {ds : List Pv.D} {o} (ho : o = .lst xs ∨ ∃ ob, o = .frz ob (.lst xs)) : Wk c (Ite c.K a) (enumL ds) (fun b => b = a) (fun Z H => H a = some o ∧ Rps c.K Z H ds xs) := by
  have sq : ∀ {H : Hp}, H a = some o → SqL c.K H a xs := fun {H} q => by
    rcases ho with rfl | ⟨ob, rfl⟩
    · exact .inl (.inl q)
    · exact .inl (.inr ⟨ob, q⟩)
  refine ⟨fun Z H i ⟨p1, p2⟩ hi => ?_, fun Z H i ⟨p1, p2⟩ hi => ⟨xs, sq p1, by rw [p2.len, ← enumL_len]; exact hi⟩, fun Z H i x H' d ⟨p1, p2⟩ hd y => ?_, fun Z H H' ⟨p1, p2⟩ s => ⟨s _ _ p1, p2.mono (Same.keep s) fun _ z => z⟩, fun σ e Z H σ' e' Z' H' E t n ⟨p1, p2⟩ => ⟨t.keep _ _ p1 (n a rfl), Rps.mono (t.keepZ E) t.zle p2⟩⟩
  · rw [enumL_len, ← p2.len] at hi
    exact ⟨xs, xs[i], sq p1, by simp [hi]⟩
  · obtain ⟨d0, h1, rfl⟩ := enumL_get hd
    obtain ⟨T, x0, rfl, hT, rfl, q⟩ := y
    obtain ⟨x', hx, rx⟩ := p2.get h1
    rw [q xs (sq p1)] at hx
    cases hx
    exact ⟨en_same hT, en_pair hT rx⟩
theorem wk_enK {a : Addr} {xs : List V} {ds : List Pv.D} (hk : SqK c.K a xs) : Wk c (Ite c.K a) (enumL ds) (fun _ => False) (fun Z H => Rps c.K Z H ds xs) := by
  have sq : ∀ {H : Hp}, SqL c.K H a xs := fun {H} => .inr hk
  refine ⟨fun Z H i p2 hi => ?_, fun Z H i p2 hi => ⟨xs, sq, by rw [p2.len, ← enumL_len]; exact hi⟩, fun Z H i x H' d p2 hd y => ?_, fun Z H H' p2 s => p2.mono (Same.keep s) fun _ z => z, fun σ e Z H σ' e' Z' H' E t n p2 => Rps.mono (t.keepZ E) t.zle p2⟩
  · rw [enumL_len, ← p2.len] at hi
    exact ⟨xs, xs[i], sq, by simp [hi]⟩
  · obtain ⟨d0, h1, rfl⟩ := enumL_get hd
    obtain ⟨T, x0, rfl, hT, rfl, q⟩ := y
    obtain ⟨x', hx, rx⟩ := p2.get h1
    rw [q xs sq] at hx
    cases hx
    exact ⟨en_same hT, en_pair hT rx⟩
theorem wk_enT {a : Addr} {xs : List V} {ds : List Pv.D} : Wk c (ItE c.K a) (enumL ds) (fun b => b = a) (fun Z H => H a = some (.tup xs) ∧ Rps c.K Z H ds xs) := by
  have sq : ∀ {H : Hp}, H a = some (.tup xs) → SqT c.K H a xs := fun {H} q => .inl (.inl q)
  refine ⟨fun Z H i ⟨p1, p2⟩ hi => ?_, fun Z H i ⟨p1, p2⟩ hi => ⟨xs, sq p1, by rw [p2.len, ← enumL_len]; exact hi⟩, fun Z H i x H' d ⟨p1, p2⟩ hd y => ?_, fun Z H H' ⟨p1, p2⟩ s => ⟨s _ _ p1, p2.mono (Same.keep s) fun _ z => z⟩, fun σ e Z H σ' e' Z' H' E t n ⟨p1, p2⟩ => ⟨t.keep _ _ p1 (n a rfl), Rps.mono (t.keepZ E) t.zle p2⟩⟩
  · rw [enumL_len, ← p2.len] at hi
    exact ⟨xs, xs[i], sq p1, by simp [hi]⟩
  · obtain ⟨d0, h1, rfl⟩ := enumL_get hd
    obtain ⟨T, x0, rfl, hT, rfl, q⟩ := y
    obtain ⟨x', hx, rx⟩ := p2.get h1
    rw [q xs (sq p1)] at hx
    cases hx
    exact ⟨en_same hT, en_pair hT rx⟩
theorem i_enum {a : Ex} {f : Es → R Sl} {p pos tpos : Pos} {elts : List Expr} {kk : Nat} (hg : Gl X "enumerate") (hm : X.mg "enumerate" = none) (hK : c.K = X.K) (h : PE X pe (tE c W f)) (hs0 : starEach [pe] X.env = (false, eval pe X.env) :: starEach [] X.env) (hs : starEach [pe] X.env = [(false, eval pe X.env)]) :
    PI X (.Tuple elts kk tpos) (.Call (.Name "enumerate" p) [pe] [] pos) (tI c W (.enum a) fun e => (f e).fz.bind fun s e1 => (match s with
    | .lst xs => .ok (enumL xs) e1
    | .tup xs => .ok (enumL xs) e1
    | _ => .bad)) := by
  have h := r_fz h
  refine Pv.PI.imp (PI.or (pi_enum hg hm (pa_cons h pa_nil hs0) hs) (pi_enT hg hm (pa_cons h pa_nil hs0) hs)) fun σ H R ⟨e, Z, E, p⟩ => ?_
  replace p : Post c W σ e Z H ((f e).fz.bind _) _ := p
  have goalf : ∀ q, (fun e => (f e).fz) e = q ↔ (f e).fz = q := fun q => Iff.rfl
  cases hf : (f e).fz with
  | bad => rw [hf] at p; exact p.elim
  | exc cl d e' =>
    rw [hf] at p
    exact .inl ⟨e, Z, E, by rw [(goalf _).mpr hf]; exact p⟩
  | ok d e1 =>
    rw [hf] at p
    cases d with
    | lst ds =>
      have p : Post c W σ e Z H (.ok (enumL ds) e1) _ := p
      refine .inl ⟨e, Z, E, ?_⟩
      rw [(goalf _).mpr hf, ← hK]
      intro Z1 H1 t E1 v r
      obtain ⟨b, xs, rfl, q1, q2⟩ := rp_lst (show Rp c.K Z1 H1 (.lst ds) v from r)
      have l1 := q1.l
      have fin : ((H1 b = some (.lst xs) ∧ Z1 b) ∨ ∃ o, H1 b = some (.frz o (.lst xs))) → ∀ o, (o = .lst xs ∨ ∃ ob, o = .frz ob (.lst xs)) → H1 b = some o → R (Ite c.K b) H1 := fun q1 o ho q => by
        refine p Z1 H1 t E1 _ _ _ (wk_enL ho) ⟨q, q2⟩ fun b' hb' => ?_
        subst hb'
        exact ⟨by rw [q]; exact (fun z => by cases z), fun w => rq_not E1 q1 (own_lock w)⟩
      refine ⟨b, xs, rfl, l1, ?_⟩
      rcases q1 with ⟨q1, z⟩ | ⟨o, q1⟩ | q1
      · exact fin (.inl ⟨q1, z⟩) _ (.inl rfl) q1
      · exact fin (.inr ⟨o, q1⟩) _ (.inr ⟨o, rfl⟩) q1
      · exact p Z1 H1 t E1 _ _ _ (wk_enK q1) q2 fun _ h => h.elim
    | tup ds =>
      have p : Post c W σ e Z H (.ok (enumL ds) e1) _ := p
      refine .inr ⟨e, Z, E, ?_⟩
      rw [(goalf _).mpr hf, ← hK]
      intro Z1 H1 t E1 v r
      obtain ⟨b, xs, rfl, q1, q2⟩ := rp_tup (show Rp c.K Z1 H1 (.tup ds) v from r)
      refine ⟨b, xs, rfl, .inl (.inl q1), p Z1 H1 t E1 _ _ _ wk_enT ⟨q1, q2⟩ fun b' hb' => ?_⟩
      subst hb'
      refine ⟨by rw [q1]; exact (fun z => by cases z), fun w => ?_⟩
      obtain ⟨_, ys, q⟩ := E1.ownz (own_lock w).held
      rw [q1] at q
      cases q
    | _ => exact p.elim
/-! ## zip -/
/-- one of the rows that zip walks -/
structure Src (c : Cn) (S : Hp → Prop) (ds : List Pv.D) (xs : List V) (A : Addr → Prop) (P : (Addr → Prop) → Hp → Prop) : Prop where
  sq : ∀ Z H, P Z H → S H
  rp : ∀ Z H, P Z H → Rps c.K Z H ds xs
  ext : ∀ Z H H', P Z H → Same H H' → P Z H'
  stay : ∀ σ e Z H σ' e' Z' H', EnvR c Z H σ e → Tr σ e Z H σ' e' Z' H' → (∀ a, A a → ¬ OwnA σ e a) → P Z H → P Z' H'
theorem src_o {a : Addr} {xs : List V} {ds : List Pv.D} {o} (ho : o = .lst xs ∨ ∃ ob, o = .frz ob (.lst xs)) : Src c (fun H => SqL c.K H a xs) ds xs (fun b => b = a) (fun Z H => H a = some o ∧ Rps c.K Z H ds xs) where
  sq := fun Z H q => by
    rcases ho with rfl | ⟨ob, rfl⟩
    · exact .inl (.inl q.1)
    · exact .inl (.inr ⟨ob, q.1⟩)
  rp := fun Z H q => q.2
  ext := fun Z H H' q s => ⟨s _ _ q.1, q.2.mono (Same.keep s) fun _ z => z⟩
  stay := fun σ e Z H σ' e' Z' H' E t n q => ⟨t.keep _ _ q.1 (n a rfl), Rps.mono (t.keepZ E) t.zle q.2⟩
theorem src_K {a : Addr} {xs : List V} {ds : List Pv.D} (hk : SqK c.K a xs) : Src c (fun H => SqL c.K H a xs) ds xs (fun _ => False) (fun Z H => Rps c.K Z H ds xs) where
  sq := fun Z H q => .inr hk
  rp := fun Z H q => q
  ext := fun Z H H' q s => q.mono (Same.keep s) fun _ z => z
  stay := fun σ e Z H σ' e' Z' H' E t n q => Rps.mono (t.keepZ E) t.zle q
theorem src_t {a : Addr} {xs : List V} {ds : List Pv.D} : Src c (fun H => SqT c.K H a xs) ds xs (fun b => b = a) (fun Z H => H a = some (.tup xs) ∧ Rps c.K Z H ds xs) where
  sq := fun Z H q => .inl (.inl q.1)
  rp := fun Z H q => q.2
  ext := fun Z H H' q s => ⟨s _ _ q.1, q.2.mono (Same.keep s) fun _ z => z⟩
  stay := fun σ e Z H σ' e' Z' H' E t n q => ⟨t.keep _ _ q.1 (n a rfl), Rps.mono (t.keepZ E) t.zle q.2⟩
theorem zipL_len (ds es : List Pv.D) : (zipL ds es).length = min ds.length es.length := by simp [zipL]
theorem zipL_get {ds es : List Pv.D} {i : Nat} {d : Pv.D} (h : (zipL ds es)[i]? = some d) : ∃ d1 d2, ds[i]? = some d1 ∧ es[i]? = some d2 ∧ d = .tup [d1, d2] := by
  unfold zipL at h
  rw [List.getElem?_map, Option.map_eq_some_iff] at h
  obtain ⟨p, h1, rfl⟩ := h
  obtain ⟨q1, q2⟩ := List.getElem?_zip_eq_some.mp h1
  exact ⟨_, _, q1, q2, rfl⟩
/-- two rows at once, whatever they are: S tells how a row stands -/
def ItS (S1 S2 : Hp → List V → Prop) : It where
  go := fun i H => ∃ (xs ys : List V) (x y : V), S1 H xs ∧ S2 H ys ∧ xs[i]? = some x ∧ ys[i]? = some y
  yld := fun i H v H' => ∃ T x y, v = .ref T ∧ H T = none ∧ H' = upd H T (.tup [x, y]) ∧ (∀ xs, S1 H xs → xs[i]? = some x) ∧ ∀ ys, S2 H ys → ys[i]? = some y
  stop := fun i H => ∃ xs ys : List V, S1 H xs ∧ S2 H ys ∧ (xs.length ≤ i ∨ ys.length ≤ i)
theorem wk_zip {S1 S2 : Hp → List V → Prop} {xs ys : List V} {ds es : List Pv.D} {A1 A2 : Addr → Prop} {P1 P2 : (Addr → Prop) → Hp → Prop} (s1 : Src c (fun H => S1 H xs) ds xs A1 P1) (s2 : Src c (fun H => S2 H ys) es ys A2 P2) :
    Wk c (ItS S1 S2) (zipL ds es) (fun a => A1 a ∨ A2 a) (fun Z H => P1 Z H ∧ P2 Z H) := by
  refine ⟨fun Z H i ⟨p1, p2⟩ hi => ?_, fun Z H i ⟨p1, p2⟩ hi => ?_, fun Z H i x H' d ⟨p1, p2⟩ hd y => ?_, fun Z H H' ⟨p1, p2⟩ s => ⟨s1.ext _ _ _ p1 s, s2.ext _ _ _ p2 s⟩, fun σ e Z H σ' e' Z' H' E t n ⟨p1, p2⟩ => ⟨s1.stay _ _ _ _ _ _ _ _ E t (fun a ha => n a (.inl ha)) p1, s2.stay _ _ _ _ _ _ _ _ E t (fun a ha => n a (.inr ha)) p2⟩⟩
  · have l1 := (s1.rp _ _ p1).len
    have l2 := (s2.rp _ _ p2).len
    rw [zipL_len] at hi
    exact ⟨xs, ys, xs[i]'(by omega), ys[i]'(by omega), s1.sq _ _ p1, s2.sq _ _ p2, List.getElem?_eq_getElem _, List.getElem?_eq_getElem _⟩
  · have l1 := (s1.rp _ _ p1).len
    have l2 := (s2.rp _ _ p2).len
    rw [zipL_len] at hi
    exact ⟨xs, ys, s1.sq _ _ p1, s2.sq _ _ p2, by omega⟩
  · obtain ⟨d1, d2, h1, h2, rfl⟩ := zipL_get hd
    obtain ⟨T, x0, y0, rfl, hT, rfl, q1, q2⟩ := y
    obtain ⟨x', hx, rx⟩ := (s1.rp _ _ p1).get h1
    obtain ⟨y', hy, ry⟩ := (s2.rp _ _ p2).get h2
    rw [q1 xs (s1.sq _ _ p1)] at hx
    rw [q2 ys (s2.sq _ _ p2)] at hy
    cases hx
    cases hy
    exact ⟨en_same hT, mk_tup (upd_same ..) (rps_cons (rx.mono (Same.keep (en_same hT)) fun _ z => z) (rps_cons (ry.mono (Same.keep (en_same hT)) fun _ z => z) rps_nil))⟩
/-- how a list of data is a source -/
theorem src_of {Z1 : Addr → Prop} {H1 : Hp} {σ : L2.St} {e1 : Es} {a : Addr} {xs : List V} {ds : List Pv.D} (E1 : EnvR c Z1 H1 σ e1) (q1 : SqZ c.K Z1 H1 a xs) (q2 : Rps c.K Z1 H1 ds xs) :
    ∃ A P, Src c (fun H => SqL c.K H a xs) ds xs A P ∧ P Z1 H1 ∧ ∀ b, A b → H1 b ≠ none ∧ ¬ OwnA σ e1 b := by
  rcases q1 with ⟨q1, z⟩ | ⟨o, q1⟩ | q1
  · exact ⟨_, _, src_o (.inl rfl), ⟨q1, q2⟩, fun b hb => by subst hb; exact ⟨by rw [q1]; exact (fun z => by cases z), rq_not E1 (.inl ⟨q1, z⟩)⟩⟩
  · exact ⟨_, _, src_o (.inr ⟨o, rfl⟩), ⟨q1, q2⟩, fun b hb => by subst hb; exact ⟨by rw [q1]; exact (fun z => by cases z), rq_not E1 (.inr ⟨o, q1⟩)⟩⟩
  · exact ⟨_, _, src_K q1, q2, fun b hb => hb.elim⟩
theorem i_zip {pe2 : Expr} {a b : Ex} {f g : Es → R Sl} {p pos tpos : Pos} {elts : List Expr} {kk : Nat} (hg : Gl X "zip") (hm : X.mg "zip" = none) (hK : c.K = X.K) (h : PE X pe (tE c W f)) (h2 : PE X pe2 (tE c W g)) (hs0 : starEach [pe, pe2] X.env = (false, eval pe X.env) :: starEach [pe2] X.env) (hs1 : starEach [pe2] X.env = (false, eval pe2 X.env) :: starEach [] X.env) (hpl : (backTo pos (starEach [pe2] X.env)).any (·.1) = false) :
    PI X (.Tuple elts kk tpos) (.Call (.Name "zip" p) [pe, pe2] [] pos) (tI c W (.zip a b) fun e => (f e).fz.bind fun s e1 => (g e1).fz.bind fun t e2 => (match s, t with
    | .lst xs, .lst ys => .ok (zipL xs ys) e2
    | .tup xs, .tup ys => .ok (zipL xs ys) e2
    | _, _ => .bad)) := by
  refine Pv.PI.imp (RZ.pi_zipA hg hm (v_cons (r_fz h) (v_cons (r_fz h2) v_nil hs1) hs0) hs0 hpl) fun σ H R ⟨e, Z, E, p⟩ => ⟨e, Z, E, ?_⟩
  replace p : Post c W σ e Z H ((f e).fz.bind fun s e1 => (g e1).fz.bind fun t e2 => (match s, t with
    | .lst xs, .lst ys => .ok (zipL xs ys) e2
    | .tup xs, .tup ys => .ok (zipL xs ys) e2
    | _, _ => .bad)) _ := p
  show Post c W σ e Z H ((f e).fz.bind fun d e1 => ((g e1).fz.bind fun d e1 => (Pv.R.ok [] e1).bind fun ds e2 => .ok (d :: ds) e2).bind fun ds e2 => .ok (d :: ds) e2) _
  cases hf : (f e).fz with
  | bad => rw [hf] at p; exact p.elim
  | exc cl d e' => rw [hf] at p; exact p
  | ok s e1 =>
    rw [hf] at p
    replace p : Post c W σ e Z H ((g e1).fz.bind fun t e2 => (match s, t with
    | .lst xs, .lst ys => .ok (zipL xs ys) e2
    | .tup xs, .tup ys => .ok (zipL xs ys) e2
    | _, _ => .bad)) _ := p
    show Post c W σ e Z H (((g e1).fz.bind fun d e1 => (Pv.R.ok [] e1).bind fun ds e2 => .ok (d :: ds) e2).bind fun ds e2 => .ok (s :: ds) e2) _
    cases hgv : (g e1).fz with
    | bad => rw [hgv] at p; exact p.elim
    | exc cl d e' => rw [hgv] at p; exact p
    | ok t e2 =>
      rw [hgv] at p
      show Post c W σ e Z H (.ok [s, t] e2) _
      cases s with
      | lst ds =>
        cases t with
        | lst es =>
          have p : Post c W σ e Z H (.ok (zipL ds es) e2) _ := p
          intro Z1 H1 tr E1 vs r
          obtain ⟨v, r', rfl, r1, r2⟩ := rps_inv r
          obtain ⟨w, r'', rfl, r4, r3⟩ := rps_inv r2
          have := rps_nil_inv r3
          subst this
          obtain ⟨a1, xs, rfl, q1, q2⟩ := rp_lst r1
          obtain ⟨b1, ys, rfl, q3, q4⟩ := rp_lst r4
          obtain ⟨A1, P1, s1, w1, w2⟩ := src_of E1 q1 q2
          obtain ⟨A2, P2, s2, w3, w4⟩ := src_of E1 q3 q4
          rw [← hK]
          exact ⟨a1, b1, xs, ys, rfl, .inl ⟨q1.l, q3.l, p Z1 H1 tr E1 _ _ _ (wk_zip (S1 := fun H xs => SqL c.K H a1 xs) (S2 := fun H ys => SqL c.K H b1 ys) s1 s2) ⟨w1, w3⟩ fun b' hb' => hb'.elim (fun z => ⟨(w2 b' z).1, fun w => (w2 b' z).2 (own_lock w)⟩) fun z => ⟨(w4 b' z).1, fun w => (w4 b' z).2 (own_lock w)⟩⟩⟩
        | _ => exact p.elim
      | tup ds =>
        cases t with
        | tup es =>
          have p : Post c W σ e Z H (.ok (zipL ds es) e2) _ := p
          intro Z1 H1 tr E1 vs r
          obtain ⟨v, r', rfl, r1, r2⟩ := rps_inv r
          obtain ⟨w, r'', rfl, r4, r3⟩ := rps_inv r2
          have := rps_nil_inv r3
          subst this
          obtain ⟨a1, xs, rfl, q1, q2⟩ := rp_tup r1
          obtain ⟨b1, ys, rfl, q3, q4⟩ := rp_tup r4
          have no : ∀ {a : Addr} {xs : List V}, H1 a = some (.tup xs) → H1 a ≠ none ∧ ¬ OwnA σ e2 a := fun {a xs} q => ⟨by rw [q]; exact (fun z => by cases z), fun w => by
            obtain ⟨_, ys, q'⟩ := E1.ownz w.held
            rw [q] at q'
            cases q'⟩
          rw [← hK]
          exact ⟨a1, b1, xs, ys, rfl, .inr ⟨.inl (.inl q1), .inl (.inl q3), p Z1 H1 tr E1 _ _ _ (wk_zip (S1 := fun H xs => SqT c.K H a1 xs) (S2 := fun H ys => SqT c.K H b1 ys) src_t src_t) ⟨⟨q1, q2⟩, ⟨q3, q4⟩⟩ fun b' hb' => hb'.elim (fun z => by subst z; exact ⟨(no q1).1, fun w => (no q1).2 (own_lock w)⟩) fun z => by subst z; exact ⟨(no q3).1, fun w => (no q3).2 (own_lock w)⟩⟩⟩
        | _ => exact p.elim
      | _ => exact p.elim
end
end Pv
set_option maxRecDepth 100000
set_option maxHeartbeats 2000000
namespace Pv
open PySem PySem.Spec PyProof.Rows L2
section
variable {c : Cn} {W : WX} {X : Cx} {D : Ends} {σ σ' σ2 : L2.St} {e e1 e' : Es} {Z Z1 Z' : Addr → Prop} {H H1 H' H₀ : Hp} {pe tg : Expr}
/-! ### locks -/
theorem relab_held {i : Nat} {s s' : Sl} {ds : List Pv.D} (h : e[i]? = some (some s)) (hs : s = .own ds ∨ s = .lck ds) {es : List Pv.D} (hs' : s' = .own es ∨ s' = .lck es) {j : Nat} {a : Addr} (q : HeldAt σ (e.set i (some s')) j a) : HeldAt σ e j a := by
  obtain ⟨fs, q1, q2⟩ := q
  by_cases hj : j = i
  · subst hj
    refine ⟨ds, ?_, q2⟩
    rcases hs with rfl | rfl
    · exact .inl h
    · exact .inr h
  · rw [set_get hj] at q1
    exact ⟨fs, q1, q2⟩
theorem EnvR.relab (E : EnvR c Z H σ e) {i : Nat} {s s' : Sl} {ds : List Pv.D} (h : e[i]? = some (some s)) (hs : s = .own ds ∨ s = .lck ds) (hs' : s' = .own ds ∨ s' = .lck ds) : EnvR c Z H σ (e.set i (some s')) := by
  have sl : SlotR c Z H s' (σ[i]?) := by
    have := E.slot i s h
    rcases hs with rfl | rfl <;> rcases hs' with rfl | rfl <;> exact this
  refine ⟨by rw [List.length_set]; exact E.len, fun j t q => ?_, fun j k a h1 h2 => E.inj j k a (relab_held h hs hs' h1) (relab_held h hs hs' h2), fun j a hn q => E.prov j a hn (relab_held h hs hs' q), E.bt, E.zt⟩
  by_cases hj : j = i
  · subst hj
    rw [set_at h] at q
    cases q
    exact sl
  · rw [set_get hj] at q
    exact E.slot j t q
theorem EnvR.lock (E : EnvR c Z H σ e) (it : Ex) : EnvR c Z H σ (lockE it e) := by
  unfold lockE
  split
  · split
    · rename_i ds h
      exact E.relab h (.inl rfl) (.inr rfl)
    · exact E
  · exact E
theorem held_lock {it : Ex} {a : Addr} (h : Held σ (lockE it e) a) : Held σ e a := by
  unfold lockE at h
  split at h
  · split at h
    · rename_i i _ ds q
      obtain ⟨j, h⟩ := h
      exact ⟨j, relab_held q (.inl rfl) (.inr (rfl : Sl.lck ds = .lck ds)) h⟩
    · exact h
  · exact h
theorem unlock_ok {it : Ex} (t : TrS c σ (lockE it e1) Z1 H1 σ' e' Z' H') (E' : EnvR c Z' H' σ' e') : TrS c σ e1 Z1 H1 σ' (unlockE it e1 e') Z' H' ∧ EnvR c Z' H' σ' (unlockE it e1 e') := by
  have same : lockE it e1 = e1 → unlockE it e1 e' = e' → TrS c σ e1 Z1 H1 σ' (unlockE it e1 e') Z' H' ∧ EnvR c Z' H' σ' (unlockE it e1 e') := fun h1 h2 => by
    rw [h2]
    rw [h1] at t
    exact ⟨t, E'⟩
  by_cases hit : ∃ i, it = .itv (.var i)
  · obtain ⟨i, rfl⟩ := hit
    by_cases ho : ∃ ds, e1[i]? = some (some (.own ds))
    · obtain ⟨ds, ho⟩ := ho
      have hl : lockE (.itv (.var i)) e1 = e1.set i (some (.lck ds)) := by simp only [lockE, ho]
      rw [hl] at t
      obtain ⟨k1, es, k2⟩ := t.tr.lk i ds (set_at ho)
      have hu : unlockE (.itv (.var i)) e1 e' = e'.set i (some (.own es)) := by simp only [unlockE, ho, k2]
      rw [hu]
      have o1 : ∀ a, OwnA σ (e1.set i (some (.lck ds))) a → OwnA σ e1 a := fun a w => own_set w fun _ z => by cases z
      refine ⟨⟨⟨fun a o h1 h2 => t.tr.keep a o h1 fun w => h2 (o1 a w), t.tr.zle, fun a h => ?_, fun a h => ?_, fun a h => ?_, t.tr.here, fun j fs h => ?_⟩, t.fix⟩, E'.relab k2 (.inr rfl) (.inl rfl)⟩
      · rcases t.tr.znew a h with z | z | z
        · exact .inl z
        · exact .inr (.inl z)
        · exact .inr (.inr (o1 a z))
      · obtain ⟨j, fs, q1, q2⟩ := h
        by_cases hj : j = i
        · subst hj
          exact .inl ⟨j, ds, ho, by rw [← k1]; exact q2⟩
        · rw [set_get hj] at q1
          rcases t.tr.own a ⟨j, fs, q1, q2⟩ with z | z
          · exact .inl (o1 a z)
          · exact .inr z
      · obtain ⟨j, h⟩ := h
        rcases t.tr.held a ⟨j, relab_held k2 (.inr rfl) (.inl (rfl : Sl.own es = .own es)) h⟩ with z | ⟨z⟩
        · obtain ⟨j, z⟩ := z
          exact .inl ⟨j, relab_held ho (.inl rfl) (.inr (rfl : Sl.lck ds = .lck ds)) z⟩
        · exact .inr ‹_›
      · have nj : j ≠ i := fun z => by
          rw [z, ho] at h
          cases h
        obtain ⟨w1, gs, w2⟩ := t.tr.lk j fs (by rw [set_get nj]; exact h)
        exact ⟨w1, gs, by rw [set_get nj]; exact w2⟩
    · refine same ?_ ?_
      · unfold lockE
        simp only
        split
        · rename_i ds h
          exact absurd ⟨ds, h⟩ ho
        · rfl
      · unfold unlockE
        simp only
        split
        · rename_i ds h
          exact absurd ⟨ds, h⟩ ho
        · rfl
  · refine same (lock_no (fun i z => hit ⟨i, z⟩) e1) ?_
    unfold unlockE
    split
    · rename_i i
      exact absurd ⟨i, rfl⟩ hit
    · rfl
/-! ### for -/
theorem PostS.unlock {it : Ex} {r : R Flow} (p : PostS c W D σ e1 Z1 H1 (r.mapE (unlockE it e1))) : PostS c W D σ (lockE it e1) Z1 H1 r := by
  cases r with
  | ok fl e' =>
    intro σ' Z' H' t E'
    obtain ⟨t2, E2⟩ := unlock_ok t E'
    exact p σ' Z' H' t2 E2
  | exc cl d e' =>
    intro σ' Z' H' dx t E' x
    obtain ⟨t2, E2⟩ := unlock_ok t E'
    exact p σ' Z' H' dx t2 E2 x
  | bad => exact p
theorem s_for {iter : Expr} {body : List Stmt} {pos : Pos} {it : Ex} {ns : List Nat} {g : TG} {put : Sl → Es → Option Es} {fi : Es → R (List Pv.D)} {fb : Es → R Flow} (hp : PassesOwn (model X.prog X.w) X.A X.env X.xe) (hc : X.calm = true) (hi : PI X tg iter (tI c W it fi)) (hg : PG X tg g) (gp : GP c ns g put) (hb : PSs X body (tS c W fb))
    (hs : ∀ x, foldedSetIterable iter X.env x = pure x) : PS X (.For tg iter body [] pos) (tS c W fun e => (fi e).bind fun xs e1 => (forGo (fun x e => put (.val x) e) fb xs (lockE it e1)).mapE (unlockE it e1)) :=
  Pv.PS.imp (ps_for hp hc hi hg hb hs) fun D σ H ⟨e, Z, E, p⟩ => by
  refine ⟨e, Z, E, (PostS.bind p).imp fun ds e1 Z1 H1 t1 E1 p J A P wk hP hA => ?_⟩
  have p := PostS.unlock p
  refine ⟨fun i m σ' H' => m = ds.length - i ∧ i ≤ ds.length ∧ ∃ e' Z', EnvR c Z' H' σ' e' ∧ P Z' H' ∧ (∀ a, A a → H' a ≠ none ∧ ¬ OwnA σ' e' a) ∧ PostS c W D σ' e' Z' H' (forGo (fun x e => put (.val x) e) fb (ds.drop i) e'),
    ⟨ds.length, rfl, Nat.zero_le _, lockE it e1, Z1, E1.lock it, hP, hA, p⟩, ?_⟩
  rintro i m σ' H' ⟨rfl, hi, e', Z', E', hP, hA, p⟩
  by_cases hl : i < ds.length
  · refine .inr ⟨wk.go _ _ _ hP hl, fun σ' H' => (fun i m σ' H' => m = ds.length - i ∧ i ≤ ds.length ∧ ∃ e' Z', EnvR c Z' H' σ' e' ∧ P Z' H' ∧ (∀ a, A a → H' a ≠ none ∧ ¬ OwnA σ' e' a) ∧ PostS c W D σ' e' Z' H' (forGo (fun x e => put (.val x) e) fb (ds.drop i) e')) (i + 1) (ds.length - (i + 1)) σ' H', fun σ3 H3 q => ⟨_, by omega, q⟩, fun x H2 y => ?_⟩
    rw [List.drop_eq_getElem_cons hl] at p
    simp only [forGo] at p
    obtain ⟨sm, rx⟩ := wk.yld _ _ _ _ _ ds[i] hP (by simp [hl]) y
    cases hput : put (.val ds[i]) e' with
    | none => rw [hput] at p; exact p.elim
    | some e2 =>
      rw [hput] at p
      simp only at p
      refine gp σ' e' Z' H2 σ' e' e2 Z' H2 (.val ds[i]) x _ (E'.ext sm) .refl (E'.ext sm) rx hput fun σ2 t2 E2 _ => ⟨e2, Z', E2, ?_⟩
      have p := p.after ((tr_ext sm).s.trans t2)
      -- what the next turn wants
      have nx : ∀ {e3 : Es} {σ3 : L2.St} {Z3 : Addr → Prop} {H3 : Hp}, TrS c σ2 e2 Z' H2 σ3 e3 Z3 H3 → EnvR c Z3 H3 σ3 e3 → PostS c W D σ2 e2 Z' H2 (forGo (fun x e => put (.val x) e) fb (ds.drop (i + 1)) e3) →
          ds.length - (i + 1) = ds.length - (i + 1) ∧ i + 1 ≤ ds.length ∧ ∃ e' Z', EnvR c Z' H3 σ3 e' ∧ P Z' H3 ∧ (∀ a, A a → H3 a ≠ none ∧ ¬ OwnA σ3 e' a) ∧ PostS c W D σ3 e' Z' H3 (forGo (fun x e => put (.val x) e) fb (ds.drop (i + 1)) e') := fun {e3 σ3 Z3 H3} t3 E3 p => by
        have tt := t2.trans t3
        have h2 : ∀ a, A a → H2 a ≠ none := fun a ha => (tr_ext (Z := Z') (σ := σ') (e := e') sm).here a (hA a ha).1
        refine ⟨rfl, hl, e3, Z3, E3, wk.stay σ' e' Z' H2 σ3 e3 Z3 H3 (E'.ext sm) tt.tr (fun a ha => (hA a ha).2) (wk.ext _ _ _ hP sm), fun a ha => ⟨tt.tr.here a (h2 a ha), fun w => ?_⟩, p.after t3⟩
        rcases tt.tr.own a w with w | w
        · exact (hA a ha).2 w
        · exact h2 a ha w
      cases hf : fb e2 with
      | bad => rw [hf] at p; exact p.elim
      | exc cl d e3 => rw [hf] at p; exact p
      | ok fl e3 =>
        rw [hf] at p
        cases fl with
        | next => exact fun σ3 Z3 H3 t3 E3 => nx t3 E3 p
        | cont => exact fun σ3 Z3 H3 t3 E3 => nx t3 E3 p
        | brk => exact fun σ3 Z3 H3 t3 E3 => p σ3 Z3 H3 t3 E3
        | ret s => exact fun σ3 Z3 H3 t3 E3 => p σ3 Z3 H3 t3 E3
  · have ei : i = ds.length := by omega
    subst ei
    rw [List.drop_length] at p
    exact .inl ⟨wk.stop _ _ _ hP (Nat.le_refl _), p σ' Z' H' .refl E'⟩
end
end Pv
set_option maxRecDepth 100000
set_option maxHeartbeats 2000000
namespace Pv
open PySem PySem.Spec PyProof.Rows L2
section
variable {c : Cn} {W : WX} {X : Cx} {σ σ' σ2 : L2.St} {e e1 e2 e' : Es} {Z Z1 Z' : Addr → Prop} {H H1 H' H₀ : Hp} {pe tg : Expr}
/-! ### own names of a block -/
theorem wipe_in : ∀ {vs : List Nat} {j : Nat} {x : V}, j ∈ vs → (wipe σ vs)[j]? ≠ some (some x) := fun {vs j x} hj h => (wipe_some h).2 hj
theorem wipe_at : ∀ {vs : List Nat} {j : Nat}, j ∉ vs → (wipe σ vs)[j]? = σ[j]?
  | [], _, _ => rfl
  | v :: vs, j, h => by
    have h1 : j ≠ v := fun z => h (by simp [z])
    have h2 : j ∉ vs := fun z => h (by simp [z])
    show ((wipe σ vs).set v none)[j]? = _
    rw [List.getElem?_set_ne (Ne.symm h1)]
    exact wipe_at h2
theorem wipeE_len : ∀ {vs : List Nat}, (wipeE e vs).length = e.length
  | [] => rfl
  | v :: vs => by
    show ((wipeE e vs).set v none).length = _
    rw [List.length_set]
    exact wipeE_len
theorem wipeE_in : ∀ {vs : List Nat} {j : Nat} {s : Sl}, j ∈ vs → (wipeE e vs)[j]? ≠ some (some s)
  | v :: vs, j, s, hj, h => by
    have h : ((wipeE e vs).set v none)[j]? = some (some s) := h
    by_cases hv : j = v
    · subst hv
      by_cases hl : j < (wipeE e vs).length
      · rw [List.getElem?_set_self hl] at h; cases h
      · rw [List.getElem?_eq_none (by simpa using hl)] at h; cases h
    · rw [set_get hv] at h
      exact wipeE_in ((List.mem_cons.mp hj).resolve_left hv) h
theorem wipeE_at : ∀ {vs : List Nat} {j : Nat}, j ∉ vs → (wipeE e vs)[j]? = e[j]?
  | [], _, _ => rfl
  | v :: vs, j, h => by
    have h1 : j ≠ v := fun z => h (by simp [z])
    have h2 : j ∉ vs := fun z => h (by simp [z])
    show ((wipeE e vs).set v none)[j]? = _
    rw [set_get h1]
    exact wipeE_at h2
theorem wipeE_some {vs : List Nat} {j : Nat} {s : Sl} (h : (wipeE e vs)[j]? = some (some s)) : j ∉ vs ∧ e[j]? = some (some s) := by
  by_cases hj : j ∈ vs
  · exact absurd h (wipeE_in hj)
  · rw [wipeE_at hj] at h
    exact ⟨hj, h⟩
theorem backE_len : ∀ {vs : List Nat}, (backE e e' vs).length = e'.length
  | [] => rfl
  | v :: vs => by
    show ((backE e e' vs).set v _).length = _
    rw [List.length_set]
    exact backE_len
theorem backE_at : ∀ {vs : List Nat} {j : Nat}, j ∉ vs → (backE e e' vs)[j]? = e'[j]?
  | [], _, _ => rfl
  | v :: vs, j, h => by
    have h1 : j ≠ v := fun z => h (by simp [z])
    have h2 : j ∉ vs := fun z => h (by simp [z])
    show ((backE e e' vs).set v _)[j]? = _
    rw [set_get h1]
    exact backE_at h2
theorem getS_some {i : Nat} {s : Sl} : getS e i = some s ↔ e[i]? = some (some s) := by
  unfold getS
  cases q : e[i]? with
  | none => simp
  | some o => simp
theorem backE_in (hl : e'.length = e.length) : ∀ {vs : List Nat} {j : Nat} {s : Sl}, j ∈ vs → ((backE e e' vs)[j]? = some (some s) ↔ e[j]? = some (some s))
  | v :: vs, j, s, hj => by
    show ((backE e e' vs).set v (getS e v))[j]? = some (some s) ↔ _
    by_cases hv : j = v
    · subst hv
      by_cases h : j < e.length
      · rw [List.getElem?_set_self (by rw [backE_len, hl]; exact h), ← getS_some]
        exact ⟨fun q => Option.some.inj q, fun q => congrArg some q⟩
      · have h2 : ¬ j < (backE e e' vs).length := by rw [backE_len, hl]; exact h
        rw [List.getElem?_eq_none (by rw [List.length_set]; omega), List.getElem?_eq_none (by omega)]
    · rw [set_get hv]
      exact backE_in hl ((List.mem_cons.mp hj).resolve_left hv)
/-- the state with the names of a block forgotten -/
theorem wipe_held {vs : List Nat} (o : Out vs σ σ') {i : Nat} {a : Addr} (h : HeldAt σ (wipeE e vs) i a) : i ∉ vs ∧ HeldAt σ' e i a := by
  obtain ⟨ds, h1, h2⟩ := h
  rcases h1 with h1 | h1
  · obtain ⟨n, h1⟩ := wipeE_some h1
    exact ⟨n, ds, .inl h1, by rw [o.2 i n]; exact h2⟩
  · obtain ⟨n, h1⟩ := wipeE_some h1
    exact ⟨n, ds, .inr h1, by rw [o.2 i n]; exact h2⟩
theorem wipe_own {vs : List Nat} (o : Out vs σ σ') {a : Addr} (h : OwnA σ (wipeE e vs) a) : OwnA σ' e a := by
  obtain ⟨i, ds, h1, h2⟩ := h
  obtain ⟨n, h1⟩ := wipeE_some h1
  exact ⟨i, ds, h1, by rw [o.2 i n]; exact h2⟩
theorem EnvR.wipe (E : EnvR c Z H σ' e) {vs : List Nat} (o : Out vs σ σ') : EnvR c Z H σ (wipeE e vs) where
  len := by rw [wipeE_len, ← E.len, o.1]
  slot := fun i s h => by
    obtain ⟨n, h⟩ := wipeE_some h
    rw [← o.2 i n]
    exact E.slot i s h
  inj := fun i j a h1 h2 => E.inj i j a (wipe_held o h1).2 (wipe_held o h2).2
  prov := fun i a hn h => E.prov i a hn (wipe_held o h).2
  bt := E.bt
  zt := E.zt
theorem out_wipe (vs : List Nat) : Out vs (wipe σ vs) σ := ⟨(wipe_length σ vs).symm, fun _ h => (wipe_at h).symm⟩
theorem out_wiped {vs : List Nat} (o : Out vs (wipe σ vs) σ2) : wipe σ2 vs = wipe σ vs := by
  refine List.ext_getElem? fun j => ?_
  by_cases hj : j ∈ vs
  · have key : ∀ {τ : L2.St}, j < τ.length → (wipe τ vs)[j]? = some none := fun {τ} hl => by
      have hl : j < (wipe τ vs).length := by rw [wipe_length]; exact hl
      cases q : (wipe τ vs)[j] with
      | none => simp [hl, q]
      | some x => exact absurd (show (wipe τ vs)[j]? = some (some x) by simp [hl, q]) (wipe_in hj)
    have hl2 : σ2.length = σ.length := by rw [o.1, wipe_length]
    by_cases hl : j < σ.length
    · rw [key hl, key (by rw [hl2]; exact hl)]
    · rw [List.getElem?_eq_none (by rw [wipe_length]; omega), List.getElem?_eq_none (by rw [wipe_length]; omega)]
  · rw [wipe_at hj, o.2 j hj]
/-- a turn's end: its names are forgotten -/
theorem Tr.wiped {vs : List Nat} {eW : Es} (nw : ∀ j ds, eW[j]? = some (some (Sl.lck ds)) → j ∉ vs) (t : Tr σ eW Z H σ' e' Z' H') (o : Out vs σ σ') : Tr σ eW Z H σ (wipeE e' vs) Z' H' :=
  ⟨t.keep, t.zle, t.znew, fun a h => t.own a (wipe_own o h), fun a ⟨i, h⟩ => t.held a ⟨i, (wipe_held o h).2⟩, t.here, fun j ds h => by
    obtain ⟨_, es, q⟩ := t.lk j ds h
    exact ⟨rfl, es, by rw [wipeE_at (nw j ds h)]; exact q⟩⟩
/-- the block's end: the names are as before -/
theorem back_ok {vs : List Nat} (E : EnvR c Z H σ e) (t : Tr (wipe σ vs) (wipeE e vs) Z H (wipe σ vs) e' Z' H') (E' : EnvR c Z' H' (wipe σ vs) e') : EnvR c Z' H' σ (backE e e' vs) ∧ Tr σ e Z H σ (backE e e' vs) Z' H' ∧ ∀ a, Held σ (backE e e' vs) a → Held σ e a ∨ Held (wipe σ vs) e' a := by
  have EW : EnvR c Z H (wipe σ vs) (wipeE e vs) := E.wipe (out_wipe vs)
  have hl : e'.length = e.length := by rw [← E'.len, wipe_length, E.len]
  have kp := t.keepZ EW
  have ow : ∀ a, OwnA (wipe σ vs) (wipeE e vs) a → OwnA σ e a := fun a h => wipe_own (out_wipe vs) h
  have hd : ∀ a, Held (wipe σ vs) (wipeE e vs) a → ∃ i, i ∉ vs ∧ HeldAt σ e i a := fun a ⟨i, h⟩ => ⟨i, wipe_held (out_wipe vs) h⟩
  -- a list that a wiped name holds
  have inn : ∀ {j : Nat} {a : Addr}, j ∈ vs → HeldAt σ e j a → ¬ Held (wipe σ vs) (wipeE e vs) a := fun {j a} hj h w => by
    obtain ⟨i, hi, h2⟩ := hd a w
    rw [E.inj i j a h2 h] at hi
    exact hi hj
  have split : ∀ {j : Nat} {a : Addr}, HeldAt σ (backE e e' vs) j a → (j ∈ vs ∧ HeldAt σ e j a) ∨ (j ∉ vs ∧ HeldAt (wipe σ vs) e' j a) := fun {j a} ⟨ds, h1, h2⟩ => by
    by_cases hj : j ∈ vs
    · refine .inl ⟨hj, ds, ?_, h2⟩
      rcases h1 with h1 | h1
      · exact .inl ((backE_in hl hj).mp h1)
      · exact .inr ((backE_in hl hj).mp h1)
    · rw [backE_at hj] at h1
      exact .inr ⟨hj, ds, h1, by rw [wipe_at hj]; exact h2⟩
  have mixed : ∀ {j k : Nat} {a : Addr}, j ∈ vs → HeldAt σ e j a → k ∉ vs → HeldAt (wipe σ vs) e' k a → False := fun {j k a} hj h1 hk h2 => by
    rcases t.held a ⟨k, h2⟩ with w | w
    · exact inn hj h1 w
    · obtain ⟨_, xs, q⟩ := E.ownz ⟨j, h1⟩
      rw [w] at q
      cases q
  refine ⟨⟨by rw [backE_len, hl, E.len], fun j s h => ?_, fun i j a h1 h2 => ?_, fun i a hn h => ?_, E'.bt, E'.zt⟩, ⟨fun a o h1 h2 => t.keep a o h1 fun w => h2 (ow a w), t.zle, fun a h => ?_, fun a h => ?_, fun a h => ?_, t.here, fun j ds h => ⟨rfl, ?_⟩⟩, fun a ⟨j, h⟩ => ?_⟩
  · by_cases hj : j ∈ vs
    · have h := (backE_in hl hj).mp h
      refine (E.slot j s h).mono kp t.zle fun a xs hb hx hla => ?_
      have hd2 := heldAt_of h hx hb
      have nh := inn hj hd2
      refine ⟨t.keep a _ hla fun w => nh w.held, fun z => ?_⟩
      rcases t.znew a z with z | z | z
      · exact (E.ownz ⟨j, hd2⟩).1 z
      · rw [z] at hla; cases hla
      · exact nh z.held
    · rw [backE_at hj] at h
      rw [← wipe_at hj]
      exact E'.slot j s h
  · rcases split h1 with ⟨a1, b1⟩ | ⟨a1, b1⟩
    · rcases split h2 with ⟨a2, b2⟩ | ⟨a2, b2⟩
      · exact E.inj i j a b1 b2
      · exact (mixed a1 b1 a2 b2).elim
    · rcases split h2 with ⟨a2, b2⟩ | ⟨a2, b2⟩
      · exact (mixed a2 b2 a1 b1).elim
      · exact E'.inj i j a b1 b2
  · rcases split h with ⟨a1, b1⟩ | ⟨a1, b1⟩
    · exact E.prov i a hn b1
    · exact E'.prov i a hn b1
  · rcases t.znew a h with z | z | z
    · exact .inl z
    · exact .inr (.inl z)
    · exact .inr (.inr (ow a z))
  · obtain ⟨j, ds, h1, h2⟩ := h
    by_cases hj : j ∈ vs
    · exact .inl ⟨j, ds, (backE_in hl hj).mp h1, h2⟩
    · rw [backE_at hj] at h1
      rcases t.own a ⟨j, ds, h1, by rw [wipe_at hj]; exact h2⟩ with z | z
      · exact .inl (ow a z)
      · exact .inr z
  · obtain ⟨j, h⟩ := h
    rcases split h with ⟨a1, b1⟩ | ⟨a1, b1⟩
    · exact .inl ⟨j, b1⟩
    · rcases t.held a ⟨j, b1⟩ with z | z
      · obtain ⟨i, _, z⟩ := hd a z
        exact .inl ⟨i, z⟩
      · exact .inr z
  · by_cases hj : j ∈ vs
    · exact ⟨ds, (backE_in hl hj).mpr h⟩
    · obtain ⟨_, es, q⟩ := t.lk j ds (by rw [wipeE_at hj]; exact h)
      exact ⟨es, by rw [backE_at hj]; exact q⟩
  · rcases split h with ⟨_, b1⟩ | ⟨_, b1⟩
    · exact .inl ⟨j, b1⟩
    · exact .inr ⟨j, b1⟩
theorem held_unlock {it : Ex} {a : Addr} (h : Held σ (unlockE it e1 e') a) : Held σ e' a := by
  unfold unlockE at h
  split at h
  · split at h
    · split at h
      · rename_i i _ _ _ _ ds q
        obtain ⟨j, h⟩ := h
        exact ⟨j, relab_held q (.inr rfl) (.inl (rfl : Sl.own ds = .own ds)) h⟩
      · exact h
    · exact h
  · exact h
/-! ### the new list -/
theorem EnvR.updN (E : EnvR c Z H σ e) {a : Addr} {xs ys : List V} (h : H a = none ∨ H a = some (.lst xs)) (nz : ¬ Z a) (nh : ¬ Held σ e a) : EnvR c Z (upd H a (.lst ys)) σ e ∧ Keep Z H (upd H a (.lst ys)) := by
  have k : Keep Z H (upd H a (.lst ys)) := fun b o q z => by
    by_cases hb : b = a
    · subst hb
      rcases h with h | h
      · rw [h] at q; cases q
      · rw [h] at q
        cases q
        exact absurd (z xs rfl) nz
    · rw [upd_ne hb]; exact q
  have there : ∀ b, H b ≠ none → upd H a (.lst ys) b ≠ none := fun b q => by
    by_cases hb : b = a
    · subst hb; rw [upd_same]; exact fun z => by cases z
    · rw [upd_ne hb]; exact q
  refine ⟨⟨E.len, fun i s q => (E.slot i s q).mono k (fun _ z => z) fun b zs hb hx hl => ?_, E.inj, E.prov, fun b q => there b (E.bt b q), fun b q => there b (E.zt b q)⟩, k⟩
  have hd := heldAt_of q hx hb
  have nb : b ≠ a := fun z => nh ⟨i, z ▸ hd⟩
  exact ⟨by rw [upd_ne nb]; exact hl, (E.ownz ⟨i, hd⟩).1⟩
theorem Tr.updN (t : Tr σ e Z H σ' e' Z' H') {a : Addr} {ys : List V} (h : H a = none) : Tr σ e Z H σ' e' Z' (upd H' a (.lst ys)) :=
  ⟨fun b o q n => by
    have nb : b ≠ a := fun z => by rw [z, h] at q; cases q
    rw [upd_ne nb]
    exact t.keep b o q n, t.zle, t.znew, t.own, t.held, fun b q => by
    have nb : b ≠ a := fun z => by rw [z] at q; exact q h
    rw [upd_ne nb]
    exact t.here b q, t.lk⟩
/-- a list made on the way stays as it is, if it is nobody's -/
theorem Tr.mine (t : Tr σ e Z H σ' e' Z' H') {a : Addr} {xs : List V} (h : H a = some (.lst xs)) (nz : ¬ Z a) (nh : ¬ Held σ e a) : H' a = some (.lst xs) ∧ ¬ Z' a ∧ ¬ Held σ' e' a := by
  refine ⟨t.keep a _ h fun w => nh w.held, fun z => ?_, fun w => ?_⟩
  · rcases t.znew a z with z | z | z
    · exact nz z
    · rw [z] at h; cases h
    · exact nh z.held
  · rcases t.held a w with w | w
    · exact nh w
    · rw [w] at h; cases h
/-! ### [elt for target in iter if cond] -/
def W0 : WX := fun _ _ _ _ => False
theorem lc_imp {it : Ex} {ns : List Nat} {g : TG} {put : Sl → Es → Option Es} {fi : Es → R (List D)} {fc : Es → R Bool} {fe : Es → R D} (gp : GP c ns g put) : ∀ σ H Q,
    tE c W (fun e => (fi e).bind fun xs e1 => match compGo (fun x e => put (.val x) e) (fun e => wipeE e ns) fc fe xs (wipeE (lockE it e1) ns) [] with
      | .ok ds e2 => .ok (.own ds) (unlockE it e1 (backE (lockE it e1) e2 ns))
      | _ => .bad) σ H Q → tLc (tI c W it fi) g (tTe c W0 fc) (tV c W0 fe) ns σ H Q := fun σ H Q ⟨e, Z, E, p⟩ => by
  refine ⟨e, Z, E, (Post.bind p).imp fun ds e1 Z1 H1 t1 E1 p J A P wk hP hA L hL => ?_⟩
  have hL0 : H L = none := none_back t1.here hL
  have hn : ∀ a, A a → a ≠ L := fun a ha z => (hA a ha).1 (z ▸ hL)
  have EL := E1.lock it
  generalize heL : lockE it e1 = eL at p EL hA
  have EW : EnvR c Z1 H1 (wipe σ ns) (wipeE eL ns) := EL.wipe (out_wipe ns)
  have hAW : ∀ a, A a → ¬ OwnA (wipe σ ns) (wipeE eL ns) a := fun a ha w => (hA a ha).2 (wipe_own (out_wipe ns) w)
  have nLh : ¬ Held (wipe σ ns) (wipeE eL ns) L := fun w => by
    obtain ⟨_, xs, q⟩ := EW.ownz w
    rw [hL] at q
    cases q
  have nLz : ¬ Z1 L := fun z => E1.zt L z hL
  have nlk : ∀ j es, (wipeE eL ns)[j]? = some (some (Sl.lck es)) → j ∉ ns := fun j es h => (wipeE_some h).1
  let go : Nat → Es → List D → R (List D) := fun i e' acc => compGo (fun x e => put (.val x) e) (fun e => wipeE e ns) fc fe (ds.drop i) e' acc
  let res : R (List D) → R Sl := fun r => match r with
    | .ok ds e2 => .ok (.own ds) (unlockE it e1 (backE eL e2 ns))
    | _ => .bad
  refine ⟨fun i m H' => m = ds.length - i ∧ i ≤ ds.length ∧ ∃ e' Z' acc xs, EnvR c Z' H' (wipe σ ns) e' ∧ Tr (wipe σ ns) (wipeE eL ns) Z1 H1 (wipe σ ns) e' Z' H' ∧ H' L = some (.lst xs) ∧ Rps c.K Z' H' acc xs ∧ ¬ Z' L ∧ ¬ Held (wipe σ ns) e' L ∧
      Post c W σ e1 Z1 H1 (res (go i e' acc)) (fun s e' Z' H' => ∀ v, TmpR c H Z' H' σ e' s v → Q v H'), ⟨ds.length, rfl, Nat.zero_le _, wipeE eL ns, Z1, [], [], ?_, ?_, upd_same, rps_nil, nLz, nLh, p⟩, ?_⟩
  · exact (EW.updN (xs := []) (.inl hL) nLz nLh).1
  · exact Tr.refl.updN hL
  rintro i m H' ⟨rfl, hi, e', Z', acc, xs, E', t', hx, hr, nz, nh, p⟩
  have hP' : P Z' H' := wk.stay _ _ _ _ _ _ _ _ EW t' hAW hP
  by_cases hl : i < ds.length
  · refine .inr ⟨wk.go _ _ _ hP' hl, fun H' => (fun i m H' => m = ds.length - i ∧ i ≤ ds.length ∧ ∃ e' Z' acc xs, EnvR c Z' H' (wipe σ ns) e' ∧ Tr (wipe σ ns) (wipeE eL ns) Z1 H1 (wipe σ ns) e' Z' H' ∧ H' L = some (.lst xs) ∧ Rps c.K Z' H' acc xs ∧ ¬ Z' L ∧ ¬ Held (wipe σ ns) e' L ∧
      Post c W σ e1 Z1 H1 (res (go i e' acc)) (fun s e' Z' H' => ∀ v, TmpR c H Z' H' σ e' s v → Q v H')) (i + 1) (ds.length - (i + 1)) H', fun H3 q => ⟨_, by omega, q⟩, fun x H2 y => ?_⟩
    obtain ⟨sm, rx⟩ := wk.yld _ _ _ _ _ ds[i] hP' (by simp [hl]) y
    have p : Post c W σ e1 Z1 H1 (res (compGo (fun x e => put (.val x) e) (fun e => wipeE e ns) fc fe (ds.drop i) e' acc)) _ := p
    rw [List.drop_eq_getElem_cons hl] at p
    simp only [compGo] at p
    cases hput : put (.val ds[i]) e' with
    | none => rw [hput] at p; exact p.elim
    | some e2 =>
      rw [hput] at p
      simp only at p
      have E2' : EnvR c Z' H2 (wipe σ ns) e' := E'.ext sm
      refine gp _ e' Z' H2 _ e' e2 Z' H2 (.val ds[i]) x _ E2' .refl E2' rx hput fun σ2 t2 E2 o2 => ⟨out_wiped o2, e2, Z', E2, ?_⟩
      have hx2 : H2 L = some (.lst xs) := sm _ _ hx
      obtain ⟨hx3, nz3, nh3⟩ := t2.tr.mine hx2 nz nh
      have t02 := (t'.trans (tr_ext sm)).trans t2.tr
      have hr2 : Rps c.K Z' H2 acc xs := hr.mono (Same.keep sm) fun _ z => z
      -- the turn's end
      cases hc : fc e2 with
      | bad => rw [hc] at p; exact p.elim
      | exc cl d e3 => rw [hc] at p; exact p.elim
      | ok b e3 =>
        rw [hc] at p
        intro Z3 H3 t3 E3
        obtain ⟨hx4, nz4, nh4⟩ := t3.mine hx3 nz3 nh3
        have t03 := t02.trans t3
        have hr3 := Rps.tr E2 t3 hr2
        cases b with
        | false =>
          simp only [Bool.false_eq_true, if_false]
          refine ⟨(by first | rfl | trivial), hl, wipeE e3 ns, Z3, acc, xs, E3.wipe o2, t03.wiped nlk o2, hx4, hr3, nz4, fun ⟨j, w⟩ => nh4 ⟨j, (wipe_held o2 w).2⟩, p⟩
        | true =>
          simp only [if_true]
          simp only at p
          refine ⟨e3, Z3, E3, ?_⟩
          cases he : fe e3 with
          | bad => rw [he] at p; exact p.elim
          | exc cl d e4 => rw [he] at p; exact p.elim
          | ok d e4 =>
            rw [he] at p
            simp only at p
            intro Z4 H4 t4 E4 v rv
            obtain ⟨hx5, nz5, nh5⟩ := t4.mine hx4 nz4 nh4
            have t04 := t03.trans t4
            split at p
            case isFalse => exact p.elim
            rename_i hlen
            have hr4 := Rps.tr E3 t4 hr3
            refine ⟨xs, hx5, by rw [hr4.len]; exact hlen, (by first | rfl | trivial), hl, wipeE e4 ns, Z4, acc ++ [d], xs ++ [v], ?_, (t04.wiped nlk o2).updN hL, upd_same, ?_, nz5, fun ⟨j, w⟩ => nh5 ⟨j, (wipe_held o2 w).2⟩, p⟩
            · exact ((E4.wipe o2).updN (.inr hx5) nz5 fun ⟨j, w⟩ => nh5 ⟨j, (wipe_held o2 w).2⟩).1
            · have k := (E4.updN (ys := xs ++ [v]) (.inr hx5) nz5 nh5).2
              exact (hr4.append (rps_cons rv rps_nil)).mono k fun _ z => z
  · have ei : i = ds.length := by omega
    subst ei
    refine .inl ⟨wk.stop _ _ _ hP' (Nat.le_refl _), ?_⟩
    have p : Post c W σ e1 Z1 H1 (res (compGo (fun x e => put (.val x) e) (fun e => wipeE e ns) fc fe (ds.drop ds.length) e' acc)) _ := p
    rw [List.drop_length] at p
    have p : Post c W σ e1 Z1 H1 (.ok (Sl.own acc) (unlockE it e1 (backE eL e' ns))) _ := p
    obtain ⟨EB, tB, hB⟩ := back_ok EL t' E'
    rw [← heL] at tB EB
    obtain ⟨tU, EU⟩ := unlock_ok tB.s EB
    rw [heL] at tU EU
    refine p Z' H' tU.tr EU _ ⟨L, xs, rfl, hL0, hx, nz, fun w => ?_, hr⟩
    rcases hB L (held_unlock w) with w | w
    · obtain ⟨_, ys, q⟩ := EL.ownz w
      rw [hL] at q
      cases q
    · exact nh w
end
end Pv
set_option maxRecDepth 100000
set_option maxHeartbeats 2000000
namespace Pv
open PySem PySem.Spec PyProof.Rows L2
/-! ## isinstance -/
def tyD : D → String
  | .non => "NoneType"
  | .bl _ => "bool"
  | .int _ => "int"
  | .str _ => "str"
  | .tup _ => "tuple"
  | .lst _ => "list"
def Ty.nm : Ty → String
  | .int => "int"
  | .bool => "bool"
  | .str => "str"
  | .list => "list"
  | .tuple => "tuple"
theorem kit_has (K : PySem.W.Frag) (d : D) (t : Ty) : PySem.W.kitOne K (.type (tyD d)) (.type t.nm) = some (hasTy d t) := by
  cases d <;> cases t <;> exact kit_ty (by simp only [tyD, Ty.nm, hasTy]; decide +kernel)
theorem kit_any (K : PySem.W.Frag) (d : D) : ∀ ts : List Ty, PySem.W.kitAny K (.type (tyD d)) (ts.map fun t => .type t.nm) = some (ts.any (hasTy d))
  | [] => rfl
  | t :: ts => by
    refine kitAny_cons (kit_has K d t) (fun h => ?_) fun h => ?_
    · rw [List.any_cons, h, Bool.false_or]
      exact kit_any K d ts
    · rw [List.any_cons, h, Bool.true_or]
section
variable {c : Cn} {W : WX} {X : Cx} {σ : L2.St} {e e' : Es} {Z Z' : Addr → Prop} {H H' H₀ : Hp}
theorem ty_of {K : PySem.W.Frag} {d : D} {v : V} (h : Rq K Z H d v) : TyX K H v (.type (tyD d)) := by
  cases d with
  | non => rw [rp_non (K := K) (Z := Z) (H := H) h]; exact .base .non
  | bl b => rw [rp_bl (K := K) (Z := Z) (H := H) h]; exact .base (.bl b)
  | int i => rw [rp_int (K := K) (Z := Z) (H := H) h]; exact .base (.int i)
  | str s => rw [rp_str (K := K) (Z := Z) (H := H) h]; exact .base (.str s)
  | tup ds =>
    obtain ⟨a, xs, rfl, h1, _⟩ := rp_tup (K := K) (Z := Z) (H := H) h
    exact .base (.tup h1)
  | lst ds =>
    obtain ⟨a, xs, rfl, (h1 | ⟨o, h1⟩) | ⟨o, its, n, h1, h2, _⟩, _⟩ := h
    · exact .base (.lst h1)
    · exact .base (.frz h1)
    · exact .kList h1 h2
def tTys (ts : List Ty) : TA := fun _ H Q => Q (ts.map fun t => V.ty t.nm) H
theorem cls_all : ∀ ts : List Ty, Paired ClsV (ts.map fun t => V.ty t.nm) (ts.map fun t => Value.type t.nm)
  | [] => .nil
  | t :: ts => .cons (.ty _) (cls_all ts)
theorem isi_imp {fa : Es → R Bv} {ts : List Ty} {Q : VK} {T : V} (h : tE c W (fun e => (fa e).bind fun x e1 => retD (look e1 x) (fun d => .val (.bl (ts.any (hasTy d)))) e1) σ H Q) :
    tBo c W fa σ H fun x H1 => ∃ d Z1, Rq c.K Z1 H1 d x ∧ ∀ H2, Same H1 H2 → Q (.bl (ts.any (hasTy d))) H2 := by
  obtain ⟨e, Z, E, p⟩ := h
  refine ⟨e, Z, E, (Post.bind p).imp fun x e1 Z1 H1 t1 E1 p1 v1 r1 => ?_⟩
  unfold retD at p1
  split at p1
  · rename_i d l
    exact ⟨d, Z1, look_rq E1 r1 l, fun H2 sm => Post.ok_ext p1 E1 sm _ (tm_bl _)⟩
  · exact p1.elim
theorem r_isi1 (hK : c.K = X.K) {fa : Es → R Bv} {t : Ty} {a te : Expr} {p pos : Pos} (hg : Gl X "isinstance") (hm : X.mg "isinstance" = none) (ha : PE X a (tBo c W fa)) (ht : PA X [te] (tTys [t]))
    (hs : starEach [a, te] X.env = (false, eval a X.env) :: starEach [te] X.env) (hpl : (backTo pos (starEach [te] X.env)).any (·.1) = false) :
    PE X (.Call (.Name "isinstance" p) [a, te] [] pos) (tE c W fun e => (fa e).bind fun x e1 => retD (look e1 x) (fun d => .val (.bl ([t].any (hasTy d)))) e1) := by
  have q := pe_callB (pos := pos) (p := p) (X := X) call_isi hg hm rfl (pa_cons ha ht hs) (by decide) (by decide) hs hpl
  refine Pv.PE.imp q fun σ H Q h => ?_
  obtain ⟨e, Z, E, pp⟩ := isi_imp (T := .non) h
  refine ⟨e, Z, E, pp.imp fun x e1 Z1 H1 t1 E1 k v r => ?_⟩
  obtain ⟨d, Z2, rq, k⟩ := k v r
  refine ⟨v, .ty t.nm, _, _, _, rfl, .ty _, ?_, kit_has X.K d t, ?_⟩
  · rw [← hK]
    exact ty_of rq
  · have := k H1 fun _ _ h => h
    rwa [show [t].any (hasTy d) = hasTy d t by simp] at this
theorem r_isiT (hK : c.K = X.K) {fa : Es → R Bv} {ts : List Ty} {a : Expr} {es : List Expr} {j : Nat} {p pos pt : Pos} (hl : ts.length ≤ 100) (hg : Gl X "isinstance") (hm : X.mg "isinstance" = none) (ha : PE X a (tBo c W fa)) (ht : PA X es (tTys ts))
    (hs : starEach [a, .Tuple es j pt] X.env = (false, eval a X.env) :: starEach [.Tuple es j pt] X.env) (hs2 : starEach [.Tuple es j pt] X.env = (false, eval (.Tuple es j pt) X.env) :: starEach [] X.env) (hpl : (backTo pos (starEach [.Tuple es j pt] X.env)).any (·.1) = false) :
    PE X (.Call (.Name "isinstance" p) [a, .Tuple es j pt] [] pos) (tE c W fun e => (fa e).bind fun x e1 => retD (look e1 x) (fun d => .val (.bl (ts.any (hasTy d)))) e1) := by
  have q := pe_callB (pos := pos) (p := p) (X := X) call_isiT hg hm rfl (pa_cons ha (pa_cons (pe_tup ht) pa_nil hs2) hs) (by decide) (by decide) hs hpl
  refine Pv.PE.imp q fun σ H Q h => ?_
  obtain ⟨e, Z, E, pp⟩ := isi_imp (T := .non) h
  refine ⟨e, Z, E, pp.imp fun x e1 Z1 H1 t1 E1 k v r => ?_⟩
  obtain ⟨d, Z2, rq, k⟩ := k v r
  refine ⟨by rw [List.length_map, sizeLine_eq]; omega, fun b hb => ?_⟩
  have sm := same_new (o := .tup (ts.map fun t => V.ty t.nm)) hb
  refine ⟨v, b, _, _, _, _, rfl, upd_same, cls_all ts, ?_, kit_any X.K d ts, k _ sm⟩
  rw [← hK]
  have : Rq c.K Z2 (upd H1 b (.tup (ts.map fun t => V.ty t.nm))) d v := by
    cases d with
    | lst ds =>
      obtain ⟨a', xs, e2, h1, h2⟩ := rq
      refine ⟨a', xs, e2, ?_, h2.mono (Same.keep sm) fun _ z => z⟩
      rcases h1 with (h1 | ⟨o, h1⟩) | h1
      · exact .inl (.inl (sm _ _ h1))
      · exact .inl (.inr ⟨o, sm _ _ h1⟩)
      · exact .inr h1
    | _ => exact Rp.mono (Same.keep sm) (fun _ z => z) rq
  exact ty_of this
/-! ### an exception's field, its class -/
theorem r_fld {i cl : Nat} {a C : Addr} {oe : Obj} {dx : Option Addr} {pn : List (Addr × Obj)} {x : Expr} {pos : Pos} {n : Str} (T : XfC X.K C) (hno : PySem.W.findIn X.K (.ref C) n = some none) (hz : Zc (.ref C) dx oe) (hf : ∃ vs, oe.data = .fields vs)
    (hx : PE (X.suite a ((a, oe) :: pn)) x (tVar i)) (hc : c.xa = some (a, cl, dx)) (hn : c.fld cl = n) (hb : attributeBase x n X.env (eval x X.env) = eval x X.env) (prot cal sub) :
    PE (X.suite a ((a, oe) :: pn)) (.Attribute x n pos) (tE c W (evE prot cal sub (.fld i))) := Pv.PE.imp (pe_xf T hno hz hf hx hb) fun σ H Q ⟨e, Z, E, p⟩ => by
  simp only [evE] at p
  split at p
  case h_2 => exact p.elim
  rename_i cl' d q
  obtain ⟨a', dx', h1, h2, dd, v, h3, h4, h5⟩ := E.slot i _ q
  rw [hc] at h2
  cases h2
  refine ⟨.ref a, h1, rfl, rfl, dd, _, v, h3, h4, ?_, Post.ok_now p E v h5⟩
  rw [hn]
  simp
/-- the facts of class D behind isinstance(e, ..) -/
structure XisC (K : PySem.W.Frag) (D : Addr) : Prop where
  cl : (PySem.W.clsIn K D).isSome = true
  ga : PySem.W.findIn K (.ref D) "__getattribute__" = some (some (.builtin "BaseException.__getattribute__"))
  gg : PySem.W.findIn K (.ref D) "__getattr__" = some none
  ex : PySem.W.subIn K (.ref D) (.type "BaseException") = some true
  oc : PySem.W.findIn K (.ref D) "__class__" = some (some (.builtin "object.__class__"))
  on : PySem.W.specialIn K (.builtin "object.__class__") "__get__" = some (some (.builtin "getset_descriptor.__get__"))
  ot : PySem.W.takesIn K (.builtin "object.__class__") = some true
  om : PySem.W.mroIn K D (.type "object") = some true
def rIsX (K : PySem.W.Frag) (D a : Addr) (dx : Option Addr) : List V → Hp → VK → Prop := fun xs H Q => ∃ (C : Addr) (b : Bool) (dd : Addr) (fs : List (Str × V)), xs = [.ref a, .ref C] ∧ PySem.W.kitOne K (.ref D) (.ref C) = some b ∧ dx = some dd ∧ H dd = some (.xd fs) ∧ Q (.bl b) H
theorem call_isX {a D : Addr} {oe : Obj} {dx : Option Addr} {pn : List (Addr × Obj)} (T : XisC X.K D) (hz : Zc (.ref D) dx oe) (hf : ∃ vs, oe.data = .fields vs) : CallR (X.suite a ((a, oe) :: pn)) (.builtin "isinstance") (rIsX X.K D a dx) := by
  intro pins s σ H xs us Q I r h
  obtain ⟨C, b, dd, fs, rfl, e, rfl, ed, q⟩ := h
  obtain ⟨u1, u2, rfl, r1, r2⟩ := vals2 r
  cases (show u1 = Value.ref a from r1)
  cases (show u2 = Value.ref C from r2)
  obtain ⟨ha, _⟩ := I.pin (a, oe) (List.mem_append_left _ List.mem_cons_self)
  obtain ⟨vs, hd⟩ := hf
  obtain ⟨mA, hns, hr⟩ := (show ObjOk X.prog X.w H s.heap dd (.xd fs) from I.hok dd _ ed)
  obtain ⟨od, ho, hl⟩ := lookIn_ns hns
  have J : PySem.W.InstAt s.heap a oe D (some od) := ⟨ha, hz.1, by unfold PySem.W.notCls; rw [hd] <;> rfl, by rw [hz.2]; exact ho⟩
  exact PySem.W.kia_one (PySem.W.kitx_exc T.cl T.ga T.gg T.ex T.oc T.on T.ot T.om) I.kIn J e (fun z => nomatch z) fun tk => ⟨.bl b, H, I.tok tk, rfl, q⟩
end
end Pv
set_option maxRecDepth 100000
set_option maxHeartbeats 2000000
namespace Pv
open PySem PySem.Spec PyProof.Rows L2
section
variable {c : Cn} {W : WX} {X : Cx} {D : Ends} {σ σ' : L2.St} {e e' : Es} {Z Z' : Addr → Prop} {H H' H₀ : Hp}
theorem r_isx {i cl j : Nat} {a : Addr} {oe : Obj} {dx : Option Addr} {pn : List (Addr × Obj)} {x y : Expr} {p pos : Pos} {sub : Nat → Nat → Bool} (T : XisC X.K (c.clA cl)) (hz : Zc (.ref (c.clA cl)) dx oe) (hf : ∃ vs, oe.data = .fields vs)
    (hk : PySem.W.kitOne X.K (.ref (c.clA cl)) (.ref (c.clA j)) = some (sub cl j)) (hg : Gl (X.suite a ((a, oe) :: pn)) "isinstance") (hm : X.mg "isinstance" = none)
    (hx : PE (X.suite a ((a, oe) :: pn)) x (tVar i)) (hy : PE (X.suite a ((a, oe) :: pn)) y (tC (.ref (c.clA j)))) (hc : c.xa = some (a, cl, dx))
    (hs : starEach [x, y] X.env = (false, eval x X.env) :: starEach [y] X.env) (hs2 : starEach [y] X.env = (false, eval y X.env) :: starEach [] X.env) (hpl : (backTo pos (starEach [y] X.env)).any (·.1) = false) (prot cal) :
    PE (X.suite a ((a, oe) :: pn)) (.Call (.Name "isinstance" p) [x, y] [] pos) (tE c W (evE prot cal sub (.isx i j))) := by
  have q := pe_callB (pos := pos) (p := p) (X := X.suite a ((a, oe) :: pn)) (call_isX T hz hf) hg hm rfl (pa_cons hx (pa_cons hy pa_nil hs2) hs) (by decide) (by decide) hs hpl
  refine Pv.PE.imp q fun σ H Q ⟨e, Z, E, p⟩ => ?_
  simp only [evE] at p
  split at p
  case h_2 => exact p.elim
  rename_i cl' d q
  obtain ⟨a', dx', h1, h2, dd, v, h3, h4, h5⟩ := E.slot i _ q
  rw [hc] at h2
  cases h2
  exact ⟨.ref a, h1, _, sub cl j, dd, _, rfl, hk, h3, h4, Post.ok_now p E _ (tm_bl _)⟩
/-! ### raise -/
/-- what is left of H without a -/
theorem rp_del {K : PySem.W.Frag} {a : Addr} {φ} (ha : H a = some (.ext φ)) : (∀ (d : Pv.D) (v : V), Rp K Z H d v → Rp K Z (L2.del H a) d v) ∧ ∀ (ds : List Pv.D) (vs : List V), Rps K Z H ds vs → Rps K Z (L2.del H a) ds vs := by
  have key : ∀ b o, H b = some o → (∀ ψ, o ≠ .ext ψ) → L2.del H a b = some o := fun b o h n => by
    have nb : b ≠ a := fun z => by
      rw [z, ha] at h
      cases h
      exact n _ rfl
    rw [L2.del_ne nb]
    exact h
  have go : ∀ n : Nat, (∀ (d : Pv.D) (v : V), d.dep ≤ n → Rp K Z H d v → Rp K Z (L2.del H a) d v) := by
    intro n
    induction n with
    | zero =>
      intro d v hn h
      cases d with
      | tup ds => simp only [D.dep] at hn; omega
      | lst ds => simp only [D.dep] at hn; omega
      | _ => unfold Rp at h ⊢; exact h
    | succ n ih =>
      have rows : ∀ (ds : List Pv.D) (vs : List V), D.deps ds ≤ n → Rps K Z H ds vs → Rps K Z (L2.del H a) ds vs := by
        intro ds
        induction ds with
        | nil => intro vs _ h; rw [rps_nil_inv h]; exact rps_nil
        | cons d ds ih2 =>
          intro vs hn h
          obtain ⟨x, r, rfl, h1, h2⟩ := rps_inv h
          simp only [D.deps] at hn
          exact rps_cons (ih d x (by omega) h1) (ih2 r (by omega) h2)
      intro d v hn h
      cases d with
      | tup ds =>
        obtain ⟨b, xs, rfl, q1, q2⟩ := rp_tup h
        simp only [D.dep] at hn
        exact mk_tup (key b _ q1 fun ψ z => by cases z) (rows ds xs (by omega) q2)
      | lst ds =>
        obtain ⟨b, xs, rfl, q1, q2⟩ := rp_lst h
        simp only [D.dep] at hn
        refine mk_lst ?_ (rows ds xs (by omega) q2)
        rcases q1 with ⟨q1, z⟩ | ⟨o, q1⟩ | q1
        · exact .inl ⟨key b _ q1 (fun ψ z => by cases z), z⟩
        · exact .inr (.inl ⟨o, key b _ q1 fun ψ z => by cases z⟩)
        · exact .inr (.inr q1)
      | _ => unfold Rp at h ⊢; exact h
  refine ⟨fun d v h => go d.dep d v (Nat.le_refl _) h, fun ds => ?_⟩
  induction ds with
  | nil => intro vs h; rw [rps_nil_inv h]; exact rps_nil
  | cons d ds ih =>
    intro vs h
    obtain ⟨x, r, rfl, h1, h2⟩ := rps_inv h
    exact rps_cons (go d.dep d x (Nat.le_refl _) h1) (ih r h2)
/-- an __init__ that stores g of its argument -/
def spI (c : Cn) (fld : Str) (C : Addr) (g : Pv.D → Option Pv.D) : Sp := fun vs H Q E => ∃ a v d d' Z, vs = [.ref a, v] ∧ H a = some (exo a C none) ∧ g d = some d' ∧ Rp c.K Z H d v ∧ (∀ b, Z b → H b ≠ none) ∧
  ∀ y Z' H' dx, FT Z H (fun _ => False) Z' H' → (∀ b, Z' b → H' b ≠ none) → Rp c.K Z' H' d' y → H' dx = none → dx ≠ a → Q .non (upd (upd H' dx (exd dx [(fld, y)])) a (exo a C (some dx)))
structure ClsOk (c : Cn) (X : Cx) (cl : Nat) (x : Str) (g : Pv.D → Option Pv.D) : Prop where
  oex : OexC X.K (c.clA cl)
  mg : X.mg x = some (.ref (c.clA cl))
  ini : ∃ fI fd k ps, PySem.W.findIn X.K (.ref (c.clA cl)) "__init__" = some (some (.ref fI)) ∧ PySem.W.typeIn X.K (.ref fI) = some (.type "function") ∧ FnOk X.prog X.w X.K X.mg X.base (L2.CX X.prog X.w) k fI fd ps (spI c (c.fld cl) (c.clA cl) g) ∧ Room (k + 1) X.A ∧ Binds X.K fd ps []
theorem passes_never (tk : Takes X W) : Passes (L2.CX X.prog X.w) X (fun _ _ _ => False) := passes_call tk fun _ _ _ _ h => h.elim
theorem s_raise {cl : Nat} {x : Str} {g : Pv.D → Option Pv.D} {f : Es → R Sl} {a : Expr} {p pos pos' : Pos} (cal : X.calm = true) (tk : Takes X W) (C : ClsOk c X cl x g) (hg : Gl X x) (ha : PE X a (tV c W fun e => (f e).fz))
    (hdb : (x == ("__debug__" : Str)) = false) (he : starEach [a] X.env = (false, eval a X.env) :: starEach [] X.env) (hpl : (backTo pos (starEach [] X.env)).any (·.1) = false) :
    PS X (.Raise (some (.Call (.Name x p) [a] [] pos)) none pos') (tS c W fun e => (f e).fz.bind fun d e1 => (match g d with
      | some d' => .exc cl d' e1
      | none => .bad)) := by
  obtain ⟨fI, fd, k, ps, i1, i2, F, hr, hb⟩ := C.ini
  refine Pv.PS.imp (L2.ps_raise cal tk (pmk_oex C.oex i1 i2 F hr hb (dvs := []) .nil (passes_never tk) hg C.mg (pa_cons ha pa_nil he) hdb he hpl)) fun D σ H ⟨e, Z, E, p⟩ => ?_
  refine ⟨e, Z, E, (PostS.bind p).imp fun d e1 Z1 H1 t1 E1 p v r => ?_⟩
  split at p
  case h_2 => exact p.elim
  rename_i d' hd
  refine ⟨by simp, fun b hb => ?_⟩
  have sm := same_new (o := exo b (c.clA cl) none) hb
  have nz : ¬ Z1 b := fun z => E1.zt b z hb
  refine ⟨b, v, d, d', Z1, rfl, upd_same, hd, r.mono (Same.keep sm) fun _ z => z, fun b' z q => ?_, fun y Z' H' dx ft zt ry hx nx => ⟨rfl, dx, [(c.fld cl, y)], upd_same, ?_, ?_, ?_⟩⟩
  · have := (E1.ext sm).zt b' z
    exact this q
  · rw [upd_ne nx, upd_same]
  · cases q : H1 dx with
    | none => rfl
    | some o =>
      have := ft.keep dx o (by rw [upd_ne nx]; exact q) fun z => z
      rw [hx] at this
      cases this
  · -- the heap as it is left
    have hH : ∀ b', b' ≠ b → b' ≠ dx → upd (L2.del (upd (upd H' dx (exd dx [(c.fld cl, y)])) b (exo b (c.clA cl) (some dx))) b) dx (.xd [(c.fld cl, y)]) b' = H' b' := fun b' n1 n2 => by
      rw [upd_ne n2, L2.del_ne n1, upd_ne n1, upd_ne n2]
    have hx1 : H1 dx = none := by
      cases q : H1 dx with
      | none => rfl
      | some o =>
        have := ft.keep dx o (by rw [upd_ne nx]; exact q) fun z => z
        rw [hx] at this
        cases this
    have hb' : H' b = some (exo b (c.clA cl) none) := ft.keep b _ upd_same fun z => z
    have kp : ∀ b' o, H1 b' = some o → H' b' = some o := fun b' o q => by
      have nb : b' ≠ b := fun z => by rw [z, hb] at q; cases q
      exact ft.keep b' o (by rw [upd_ne nb]; exact q) fun z => z
    generalize hF : upd (L2.del (upd (upd H' dx (exd dx [(c.fld cl, y)])) b (exo b (c.clA cl) (some dx))) b) dx (.xd [(c.fld cl, y)]) = H3 at hH
    have hdx : H3 dx = some (.xd [(c.fld cl, y)]) := by rw [← hF, upd_same]
    have k3 : ∀ b' o, H1 b' = some o → H3 b' = some o := fun b' o q => by
      have n1 : b' ≠ b := fun z => by rw [z, hb] at q; cases q
      have n2 : b' ≠ dx := fun z => by rw [z, hx1] at q; cases q
      rw [hH b' n1 n2]
      exact kp b' o q
    have nzb : ¬ Z' b := fun z => by
      rcases ft.znew b z with w | w | w
      · exact nz w
      · rw [upd_same] at w; cases w
      · exact w
    have nzx : ¬ Z' dx := fun z => zt dx z hx
    have z1 : ∀ b', Z' b' → Z1 b' ∨ H1 b' = none := fun b' z => by
      have n1 : b' ≠ b := fun w => nzb (w ▸ z)
      rcases ft.znew b' z with w | w | w
      · exact .inl w
      · rw [upd_ne n1] at w; exact .inr w
      · exact w.elim
    have t3 : Tr σ e1 Z1 H1 σ e1 Z' H3 := ⟨fun b' o q _ => k3 b' o q, ft.zle, fun b' z => (z1 b' z).elim .inl fun w => .inr (.inl w), fun _ w => .inl w, fun _ w => .inl w, fun b' q => by
      cases w : H1 b' with
      | none => exact absurd w q
      | some o => rw [k3 b' o w]; exact fun z => (by cases z), fun _ ds q => ⟨rfl, ds, q⟩⟩
    have E3 : EnvR c Z' H3 σ e1 := by
      refine ⟨E1.len, fun i s q => (E1.slot i s q).mono (fun b' o w _ => k3 b' o w) ft.zle fun b' xs w hx hl => ⟨k3 _ _ hl, fun z => ?_⟩, E1.inj, E1.prov, fun b' q => ?_, fun b' z => ?_⟩
      · rcases z1 b' z with w2 | w2
        · exact (E1.ownz ⟨i, heldAt_of q hx w⟩).1 w2
        · rw [w2] at hl; cases hl
      · exact t3.here b' (E1.bt b' q)
      · have n1 : b' ≠ b := fun w => nzb (w ▸ z)
        have n2 : b' ≠ dx := fun w => nzx (w ▸ z)
        rw [hH b' n1 n2]
        exact zt b' z
    refine p σ Z' H3 (some dx) t3.s E3 ⟨dx, y, rfl, hdx, ?_⟩
    have r1 := (rp_del (K := c.K) (Z := Z') hb').1 d' y ry
    refine r1.mono (fun b' o q _ => ?_) fun _ z => z
    have n1 : b' ≠ b := fun w => by rw [w, L2.del_same] at q; cases q
    rw [L2.del_ne n1] at q
    have n2 : b' ≠ dx := fun w => by rw [w, hx] at q; cases q
    rw [hH b' n1 n2]
    exact q
end
end Pv
set_option maxRecDepth 100000
set_option maxHeartbeats 2000000
namespace Pv
open PySem PySem.Spec PyProof.Rows L2
/-! ## try with several clauses, each with a name or without -/
abbrev Suite := Addr → Value → Option Addr → TS
def inN (n : Option Nat) (a : Addr) (σ : L2.St) : L2.St := match n with
  | none => σ
  | some i => σ.set i (some (.ref a))
def outN (n : Option Nat) (σ : L2.St) : L2.St := match n with
  | none => σ
  | some i => σ.set i none
def endN (n : Option Nat) (D : Ends) : Ends := { nx := fun σ H => D.nx (outN n σ) H, rt := D.rt, bk := fun σ H => D.bk (outN n σ) H, ct := fun σ H => D.ct (outN n σ) H }
def wHs (K : PySem.W.Frag) (Wo : WX) (D : Ends) : List (Value × Option Nat × Suite) → WX
  | [] => Wo
  | (c, n, ts) :: r => fun cls d σ H => ∃ b, PySem.W.exmOne K cls c = some b ∧ (b = true → ∀ a, H a = none → ts a cls d (endN n D) (inN n a σ) H) ∧ (b = false → wHs K Wo D r cls d σ H)
inductive Hds (X : Cx) : List ExceptHandler → List (Value × Option Nat × Suite) → Prop
  | nil : Hds X [] []
  | no {x : Str} {c : Value} {ts : Suite} {b₀ : Stmt} {bs : List Stmt} {p1 p2 : Pos} {hs : List ExceptHandler} {l : List (Value × Option Nat × Suite)} (hc : Names X x c)
      (hb : ∀ (a : Addr) (oe : Obj) (cls : Value) (d : Option Addr) (pn : List (Addr × Obj)), Zc cls d oe → (∃ vs, oe.data = .fields vs) → PSs (X.suite a ((a, oe) :: pn)) (b₀ :: bs) (ts a cls d)) (r : Hds X hs l) :
      Hds X (.ExceptHandler (some (.Name x p1)) none (b₀ :: bs) p2 :: hs) ((c, none, ts) :: l)
  | as {x n : Str} {i : Nat} {c : Value} {ts : Suite} {b₀ : Stmt} {bs : List Stmt} {p1 p2 : Pos} {hs : List ExceptHandler} {l : List (Value × Option Nat × Suite)} (hc : Names X x c) (hi : X.N[i]? = some n) (hn : X.env.kindOf n = some .local)
      (hb : ∀ (a : Addr) (oe : Obj) (cls : Value) (d : Option Addr) (pn : List (Addr × Obj)), Zc cls d oe → (∃ vs, oe.data = .fields vs) → PSs (X.suite a ((a, oe) :: pn)) (b₀ :: bs) (ts a cls d)) (r : Hds X hs l) :
      Hds X (.ExceptHandler (some (.Name x p1)) (some n) (b₀ :: bs) p2 :: hs) ((c, some i, ts) :: l)
section
variable {X : Cx} {body : List Stmt} {h₀ : ExceptHandler} {hds : List ExceptHandler} {l : List (Value × Option Nat × Suite)} {pos : Pos} {tb : WX → TS} {Wo : WX}
theorem SP.of_try {pins pn' : List (Addr × Obj)} {xe : Value → Shared → Prop} {D : Ends} {f : PySem.Flow} {s : Shared} (ok : X.Ok) (h : SP (X.tr (X.pn ++ pins) xe) pn' D f s) : SP X pins D f s := by
  cases f with
  | ret u => exact let ⟨v, σ', H', J, r, q⟩ := h; ⟨v, σ', H', J.ofTry ok, r, q⟩
  | next => exact let ⟨σ', H', J, q⟩ := h; ⟨σ', H', J.ofTry ok, q⟩
  | brk => exact let ⟨σ', H', J, q⟩ := h; ⟨σ', H', J.ofTry ok, q⟩
  | cont => exact let ⟨σ', H', J, q⟩ := h; ⟨σ', H', J.ofTry ok, q⟩
/-- a suite's end, its name let go -/
theorem SP.of_suite {pins pn' : List (Addr × Obj)} {a : Addr} {q : Addr × Obj} {D : Ends} {f : PySem.Flow} {s : Shared} (ok : X.Ok) (h : SP (X.suite a (q :: (X.pn ++ pins))) pn' (endN none D) f s) : SP X pins D f s := by
  cases f with
  | ret u => exact let ⟨v, σ', H', J, r, q⟩ := h; ⟨v, σ', H', J.unsuite ok, r, q⟩
  | next => exact let ⟨σ', H', J, q⟩ := h; ⟨σ', H', J.unsuite ok, q⟩
  | brk => exact let ⟨σ', H', J, q⟩ := h; ⟨σ', H', J.unsuite ok, q⟩
  | cont => exact let ⟨σ', H', J, q⟩ := h; ⟨σ', H', J.unsuite ok, q⟩
theorem SP.of_suite_as {pins pn' : List (Addr × Obj)} {a : Addr} {q : Addr × Obj} {i : Nat} {n : Str} {p : Pos} {D : Ends} {f : PySem.Flow} {s : Shared} (ok : X.Ok) (nd : X.N.Nodup) (hi : X.N[i]? = some n) (hl : X.env.kindOf n = some .local)
    (h : SP (X.suite a (q :: (X.pn ++ pins))) pn' (endN (some i) D) f s) : wpAny (model X.prog X.w) X.A (do bindName X.env n .none; unbindBehindTheSuite X.env n p) (fun _ s' => SP X pins D f s') X.xe s := by
  cases f with
  | ret u => exact let ⟨v, σ', H', J, r, q⟩ := h; gone_ok (J.unsuite ok) nd hi hl fun s7 J7 => ⟨v, _, _, J7, r, q⟩
  | next => exact let ⟨σ', H', J, q⟩ := h; gone_ok (J.unsuite ok) nd hi hl fun s7 J7 => ⟨_, _, J7, q⟩
  | brk => exact let ⟨σ', H', J, q⟩ := h; gone_ok (J.unsuite ok) nd hi hl fun s7 J7 => ⟨_, _, J7, q⟩
  | cont => exact let ⟨σ', H', J, q⟩ := h; gone_ok (J.unsuite ok) nd hi hl fun s7 J7 => ⟨_, _, J7, q⟩
/-- the clauses, looked at one after the other; the exception a stands landed in h3 -/
theorem hds_ok {pins : List (Addr × Obj)} {σ : L2.St} {H : Hp} {sI s' : Shared} {D : Ends} {a : Addr} {B h3 : Heap} {cls : Value} {d : Option Addr} (ok : X.Ok) (hs : X.stack = X.env :: X.outer) (hf : X.env.frame = some X.env.locals) (nd : X.N.Nodup) (tk : Takes X Wo)
    (J : Inv X pins σ H sI) (nb : ∀ b o, sI.heap.get? b = some o → b ∉ frs X.stack → B.get? b = some o) (up3 : sI.heap.UpToSlots h3) (na : H a = none) (os : s'.os = sI.os) (ag : AllBare s'.gens) (nL : a ≠ X.env.locals) (nF : a ∉ X.fs)
    (fl : HandSPX.FlyingZ B (X.env :: X.outer) a (Zc cls d) h3) : ∀ {hds : List ExceptHandler} {l : List (Value × Option Nat × Suite)}, Hds X hds l → wHs X.K Wo D l cls d σ H → wpAny (model X.prog X.w) X.A (handleBy (.ref a) X.env hds) (SP X pins D) X.xe { s' with heap := h3 } := by
  intro hds l hk
  have J3 : Inv X pins σ H { s' with heap := h3 } := J.landed nb fl.1 up3 os ag
  obtain ⟨oe3, vs3, he3, hz3, hd3⟩ := fl.there
  have S3 := J3.suite he3 hd3 na nL nF
  have lt : PySem.W.Looks (model X.prog X.w) h3 (typeOf (.ref a)) cls := fun A Q E s k q => by
    refine wpAny_typeOf_ref (k _ _ he3) ?_
    rw [hz3.1]
    exact q
  have test : ∀ {x : Str} {c : Value} {p1 : Pos} {Q : Value → Shared → Prop} {E : Value → Shared → Prop}, Names X x c → Q c { s' with heap := h3 } → wpAny (model X.prog X.w) (X.A.mark (some (.ref a))) (eval (.Name x p1) X.env) Q E { s' with heap := h3 } := fun {x c p1 Q E} hc q => by
    obtain ⟨hg, hdb, hm | ⟨hm, hv, hn⟩⟩ := hc
    · exact ld_glob (X := X.suite a ((a, oe3) :: (X.pn ++ pins))) (pos := p1) S3 hg hm q hdb
    · exact ld_blt (X := X.suite a ((a, oe3) :: (X.pn ++ pins))) (pos := p1) S3 hg hm hv q hn hdb
  induction hk with
  | nil =>
    intro w
    refine wpAny_handleBy_nil ?_
    obtain ⟨_, _, _, oe, vs, T, oT, tt, he, hz, hd, h1, hr⟩ := id fl
    have fin : wpAny (model X.prog X.w) X.A (setFlight (.ref a) X.env.frame) (fun _ s4 => wpAny (model X.prog X.w) X.A (throw (.ref a) : Sem PySem.Flow) (SP X pins D) X.xe s4) X.xe { s' with heap := h3 } := by
      rw [hf]
      exact HandSPX.setFlight_upZ fl fun h4 hh up4 => wpAny_throw (tk _ _ ⟨a, B, sI, pins, σ, H, cls, d, rfl, J, nb, up3.trans up4, .inr (.inr (by rw [hs]; exact hh)), na, os, ag, w⟩)
    unfold PySem.passOn
    refine wpAny_bind (wpAny_field he hd h1 ?_)
    rw [if_neg (fun z : (Value.ref T == Value.none) = true => by simp at z)]
    first
      | exact wpAny_bind fin
      | exact wpAny_bind (wpAny_pure (wpAny_bind fin))
  | @no x c ts b₀ bs p1 p2 hs2 l2 hc hb r ih =>
    intro w
    obtain ⟨b, hb1, yes, not⟩ := w
    refine wpAny_handleBy_cons (codeAny_handlers_test (test hc ((PySem.W.exm_one (M := model X.prog X.w) J3.kIn lt hb1).here ?_))) (fun q => by cases q)
    cases b with
    | false => exact ih (not rfl)
    | true =>
      refine codeAny_handlers_suite (HandSPX.lands_againZ fl fun h4 fl4 up4 => ?_)
      have J4 : Inv X pins σ H { s' with heap := h4 } := J.landed nb fl4.1 (up3.trans up4) os ag
      obtain ⟨oe4, vs4, he4, hz4, hd4⟩ := fl4.there
      exact wpAny_mono ((hb a oe4 cls d (X.pn ++ pins) hz4 ⟨_, hd4⟩).run [] _ _ H _ (J4.suite he4 hd4 na nL nF) (yes rfl a na)) (fun f s6 h => SP.of_suite ok h) fun _ _ z => z.elim
  | @as x n i c ts b₀ bs p1 p2 hs2 l2 hc hi hn hb r ih =>
    intro w
    obtain ⟨b, hb1, yes, not⟩ := w
    refine wpAny_handleBy_cons (codeAny_handlers_test (test hc ((PySem.W.exm_one (M := model X.prog X.w) J3.kIn lt hb1).here ?_))) (fun q => by cases q)
    cases b with
    | false => exact ih (not rfl)
    | true =>
      refine codeAny_handlers_suite_as (HandSPX.lands_againZ fl fun h4 fl4 up4 => ?_)
      have J4 : Inv X pins σ H { s' with heap := h4 } := J.landed nb fl4.1 (up3.trans up4) os ag
      obtain ⟨oe4, vs4, he4, hz4, hd4⟩ := fl4.there
      refine store_ok (X := X.suite a ((a, oe4) :: (X.pn ++ pins))) (v := .ref a) (J4.suite he4 hd4 na nL nF) nd hi (.inl hn) rfl (fun s5 S5 => ?_) (.inr hn)
      exact wpAny_mono ((hb a oe4 cls d (X.pn ++ pins) hz4 ⟨_, hd4⟩).run [] s5 _ H _ S5 (yes rfl a na)) (fun f s6 h => SP.of_suite_as ok nd hi hn h) fun _ _ z => z.elim
theorem try_hds (hs : X.stack = X.env :: X.outer) (hf : X.env.frame = some X.env.locals) (nd : X.N.Nodup) (tk : Takes X Wo)
    (hb : ∀ (W : WX) (pn : List (Addr × Obj)) (xe : Value → Shared → Prop), Takes (X.tr pn xe) W → PassesOwn (model X.prog X.w) X.A X.env xe → PSs (X.tr pn xe) body (tb W)) (hh : Hds X (h₀ :: hds) l) :
    PS X (.Try body (h₀ :: hds) [] [] pos) (fun D σ H => tb (wHs X.K Wo D l) D σ H) := by
  refine ⟨fun pins s σ H D I h => wpAny_Try_except ?_⟩
  have ok := I.ok
  have fr : X.A.frames = some (X.env :: X.outer) := ok.frames.trans (congrArg some hs)
  let xe : Value → Shared → Prop := fun e s1 => wpAny (model X.prog X.w) X.A (noteFrame e X.env) (fun _ s2 => wpAny (model X.prog X.w) X.A (setFlight e none) (fun _ s3 => wpAny (model X.prog X.w) X.A (handleBy e X.env (h₀ :: hds)) (SP X pins D) X.xe s3) X.xe s2) X.xe s1
  have tx : Takes (X.tr (X.pn ++ pins) xe) (wHs X.K Wo D l) := fun u s' x => by
    obtain ⟨a, B, sI, pins', σ', H', cls, d, rfl, J', nb, up, sky, na, os, ag, w⟩ := x
    have J : Inv X pins σ' H' sI := J'.ofTry ok
    have sky2 : Sky B (X.env :: X.outer) a (Zc cls d) X.env.locals s'.heap := hs ▸ sky
    show wpAny (model X.prog X.w) X.A (noteFrame (.ref a) X.env) _ _ _
    refine Sky.land Zc.steady fr hf sky2 fun h3 fl up3 => ?_
    obtain ⟨oe3, vs3, he3, hz3, hd3⟩ := fl.there
    have nfr : a ∉ frs (X.env :: X.outer) := fun hm => by
      obtain ⟨_, o', e', hn⟩ := fl.2.2.1.mem hm
      rw [he3] at e'
      cases e'
      exact hn _ hd3
    refine hds_ok ok hs hf nd tk J nb (up.trans up3) na os ag (fun z => nfr ?_) (fun hm => nfr ?_) fl hh w
    · exact List.mem_filterMap.mpr ⟨X.env, List.mem_cons_self, hf.trans (congrArg some z.symm)⟩
    · obtain ⟨e, he, q⟩ := List.mem_filterMap.mp hm
      exact List.mem_filterMap.mpr ⟨e, List.mem_cons_of_mem _ he, q⟩
  refine wpAny_mono ((hb (wHs X.K Wo D l) (X.pn ++ pins) xe tx PassesOwn.looking).run [] s σ H D (I.toTry _) h) (fun f s1 h => ?_) fun e s1 he => he
  have h := SP.of_try ok h
  cases f with
  | next => exact let ⟨σ', H', J, q⟩ := h; wpAny_execs_nil ⟨σ', H', J, q⟩
  | ret u => exact h
  | brk => exact h
  | cont => exact h
end
end Pv
set_option maxRecDepth 100000
set_option maxHeartbeats 2000000
namespace Pv
open PySem PySem.Spec PyProof.Rows L2
def Cn.sx (c : Cn) (a : Addr) (cl : Nat) (dx : Option Addr) : Cn := { c with xa := some (a, cl, dx) }
/-- what a clause's suite is read as -/
def tSu (c : Cn) (sub : Nat → Nat → Bool) (c' : Nat) (n : Option Nat) (f : Es → R Flow) : Suite := fun a cls dx D σ H => ∃ cl, cls = .ref (c.clA cl) ∧ sub cl c' = true ∧ (match n with
  | some _ => tS (c.sx a cl dx) W0 f D σ H
  | none => tS c W0 f D σ H)
section
variable {c : Cn} {W : WX} {X : Cx} {D : Ends} {σ σ' σ3 : L2.St} {e e1 e2 e3 e' : Es} {Z Z' Z3 : Addr → Prop} {H H' H3 : Hp}
theorem noX_get : ∀ {e : Es} {i : Nat} {cl : Nat} {d : Pv.D}, noX e = true → e[i]? ≠ some (some (.exc cl d)) := fun {e i cl d} h q => by
  have := List.all_eq_true.mp h _ (List.mem_of_getElem? q)
  cases this
theorem SlotR.sx {a : Addr} {cl : Nat} {dx : Option Addr} {s : Sl} {o : Option (Option V)} (n : ∀ cl d, s ≠ .exc cl d) (h : SlotR c Z H s o) : SlotR (c.sx a cl dx) Z H s o := by
  cases s with
  | exc cl d => exact absurd rfl (n cl d)
  | val d => exact h
  | own ds => exact h
  | lck ds => exact h
theorem SlotR.unsx {a : Addr} {cl : Nat} {dx : Option Addr} {s : Sl} {o : Option (Option V)} (n : ∀ cl d, s ≠ .exc cl d) (h : SlotR (c.sx a cl dx) Z H s o) : SlotR c Z H s o := by
  cases s with
  | exc cl d => exact absurd rfl (n cl d)
  | val d => exact h
  | own ds => exact h
  | lck ds => exact h
theorem own_set' {i : Nat} {o : Option Sl} {v : Option V} {a : Addr} (h : OwnA (σ.set i v) (e.set i o) a) (no : ∀ ds, o ≠ some (.own ds)) : OwnA σ e a := by
  obtain ⟨j, ds, h1, h2⟩ := h
  by_cases hj : j = i
  · subst hj
    by_cases hl : j < e.length
    · rw [List.getElem?_set_self hl] at h1
      exact absurd (Option.some.inj h1) (no ds)
    · rw [List.getElem?_eq_none (by simpa using hl)] at h1
      cases h1
  · rw [set_get hj] at h1
    rw [List.getElem?_set_ne (Ne.symm hj)] at h2
    exact ⟨j, ds, h1, h2⟩
theorem heldAt_set' {i j : Nat} {o : Option Sl} {v : Option V} {a : Addr} (h : HeldAt (σ.set i v) (e.set i o) j a) (no : ∀ ds, o ≠ some (.own ds) ∧ o ≠ some (.lck ds)) : j ≠ i ∧ HeldAt σ e j a := by
  obtain ⟨ds, h1, h2⟩ := h
  by_cases hj : j = i
  · subst hj
    by_cases hl : j < e.length
    · rw [List.getElem?_set_self hl] at h1
      rcases h1 with h1 | h1
      · exact absurd (Option.some.inj h1) (no ds).1
      · exact absurd (Option.some.inj h1) (no ds).2
    · rw [List.getElem?_eq_none (by simpa using hl)] at h1
      rcases h1 with h1 | h1 <;> cases h1
  · rw [set_get hj] at h1
    rw [List.getElem?_set_ne (Ne.symm hj)] at h2
    exact ⟨hj, ds, h1, h2⟩
theorem no_exc {cl : Nat} {d : Pv.D} : ∀ ds : List Pv.D, (some (Sl.exc cl d)) ≠ some (.own ds) ∧ (some (Sl.exc cl d)) ≠ some (.lck ds) := fun ds => ⟨(fun z => by cases z), (fun z => by cases z)⟩
theorem no_none : ∀ ds : List Pv.D, (none : Option Sl) ≠ some (.own ds) ∧ (none : Option Sl) ≠ some (.lck ds) := fun ds => ⟨(fun z => by cases z), (fun z => by cases z)⟩
/-- a slot is given up -/
theorem Tr.lose (t : Tr σ e Z H σ' e' Z' H') {i : Nat} {o : Option Sl} {v : Option V} (nl : ∀ ds, e'[i]? ≠ some (some (.lck ds))) (no : ∀ ds, o ≠ some (.own ds) ∧ o ≠ some (.lck ds)) : Tr σ e Z H (σ'.set i v) (e'.set i o) Z' H' :=
  ⟨t.keep, t.zle, t.znew, fun a h => t.own a (own_set' h fun ds => (no ds).1), fun a ⟨j, h⟩ => t.held a ⟨j, (heldAt_set' h no).2⟩, t.here, fun j ds h => by
    obtain ⟨q1, ds1, q2⟩ := t.lk j ds h
    have n : j ≠ i := fun z => nl ds1 (z ▸ q2)
    exact ⟨by rw [List.getElem?_set_ne (Ne.symm n)]; exact q1, ds1, by rw [set_get n]; exact q2⟩⟩
/-- into a clause -/
theorem EnvR.into (E : EnvR c Z H σ e) {i cl : Nat} {a : Addr} {d : Pv.D} {dx : Option Addr} {o : Option Sl} (ho : e[i]? = some o) (hn : noX e = true) (x : ExcD c Z H cl d dx) : EnvR (c.sx a cl dx) Z H (σ.set i (some (.ref a))) (e.set i (some (.exc cl d))) := by
  have hlt : i < σ.length := by rw [E.len]; exact (List.getElem?_eq_some_iff.mp ho).1
  refine ⟨by rw [List.length_set, List.length_set]; exact E.len, fun j s h => ?_, fun j k b h1 h2 => E.inj j k b (heldAt_set' h1 no_exc).2 (heldAt_set' h2 no_exc).2, fun j b hn h => E.prov j b hn (heldAt_set' h no_exc).2, E.bt, E.zt⟩
  by_cases hj : j = i
  · subst hj
    rw [set_at ho] at h
    cases h
    rw [List.getElem?_set_self hlt]
    exact ⟨a, dx, rfl, rfl, x⟩
  · rw [set_get hj] at h
    rw [List.getElem?_set_ne (Ne.symm hj)]
    exact SlotR.sx (fun cl d z => noX_get hn (z ▸ h)) (E.slot j s h)
/-- .. and out of it -/
theorem EnvR.outof {a : Addr} {cl : Nat} {dx : Option Addr} (E : EnvR (c.sx a cl dx) Z H σ e) {i : Nat} (hn : noX (e.set i none) = true) : EnvR c Z H (σ.set i none) (e.set i none) := by
  refine ⟨by rw [List.length_set, List.length_set]; exact E.len, fun j s h => ?_, fun j k b h1 h2 => E.inj j k b (heldAt_set' h1 no_none).2 (heldAt_set' h2 no_none).2, fun j b hn h => E.prov j b hn (heldAt_set' h no_none).2, E.bt, E.zt⟩
  have h0 := h
  by_cases hj : j = i
  · subst hj
    by_cases hl : j < e.length
    · rw [List.getElem?_set_self hl] at h; cases h
    · rw [List.getElem?_eq_none (by simpa using hl)] at h; cases h
  · rw [set_get hj] at h
    rw [List.getElem?_set_ne (Ne.symm hj)]
    exact SlotR.unsx (fun cl d z => noX_get hn (z ▸ h0)) (E.slot j s h)
inductive HL (c : Cn) (sub : Nat → Nat → Bool) (ex : Sta → Es → R Flow) : Sta → List (Value × Option Nat × Suite) → Prop
  | nil : HL c sub ex .hnil []
  | cons {c' : Nat} {n : Option Nat} {b r : Sta} {l : List (Value × Option Nat × Suite)} (hp : ∀ i, n = some i → c.pr i = false) (h : HL c sub ex r l) : HL c sub ex (.hcons c' n b r) ((.ref (c.clA c'), n, tSu c sub c' n (ex b)) :: l)
variable {prot : Nat → Nat → Bool} {cal : Nat → List Sl → R Sl} {mk : Nat → Pv.D → Option Pv.D} {sub : Nat → Nat → Bool} {np fuel : Nat}
theorem hand_ok {cl : Nat} {d : Pv.D} {dx : Option Addr} (hx : ∀ i j, PySem.W.exmOne X.K (.ref (c.clA i)) (.ref (c.clA j)) = some (sub i j)) (t : TrS c σ e Z H σ' e1 Z' H') (E : EnvR c Z' H' σ' e1) (x : ExcD c Z' H' cl d dx) : ∀ {h : Sta} {l : List (Value × Option Nat × Suite)},
    HL c sub (exec prot cal mk sub np fuel) h l → PostS c W D σ e Z H (hand prot cal mk sub np fuel h cl d e1) → wHs X.K W D l (.ref (c.clA cl)) dx σ' H' := by
  intro h l hl
  induction hl with
  | nil =>
    intro p
    simp only [hand] at p
    exact p σ' Z' H' dx t E x
  | @cons c' n b r l hp hl ih =>
    intro p
    simp only [hand] at p
    refine ⟨sub cl c', hx cl c', fun hb => ?_, fun hb => ?_⟩
    · rw [if_pos hb] at p
      intro a na
      refine ⟨cl, rfl, hb, ?_⟩
      cases n with
      | none =>
        refine ⟨e1, Z', E, ?_⟩
        simp only at p
        cases q : exec prot cal mk sub np fuel b e1 with
        | bad => rw [q] at p; exact p
        | exc cl' d' e2 => rw [q] at p; exact p.elim
        | ok fl e2 =>
          rw [q] at p
          intro σ3 Z3 H3 t3 E3
          have p := p σ3 Z3 H3 (t.trans t3) E3
          cases fl <;> exact p
      | some i =>
        simp only at p
        cases q : putS e1 i (.exc cl d) with
        | none => rw [q] at p; exact p.elim
        | some e2 =>
          rw [q] at p
          simp only at p
          obtain ⟨rfl, ⟨o, ho⟩, nl⟩ := putS_some q
          split at p
          case isFalse => exact p.elim
          rename_i hn
          refine ⟨_, Z', E.into ho hn x, ?_⟩
          cases q2 : exec prot cal mk sub np fuel b (e1.set i (some (.exc cl d))) with
          | bad => rw [q2] at p; exact p
          | exc cl' d' e3 => rw [q2] at p; exact p.elim
          | ok fl e3 =>
            rw [q2] at p
            simp only [leaveX] at p
            split at p
            case h_1 => exact p.elim
            rename_i nlk
            split at p
            case isFalse => exact p.elim
            rename_i hn3
            intro σ3 Z3 H3 t3 E3
            have hpi := hp i rfl
            have nlk : ∀ ds, e3[i]? ≠ some (some (.lck ds)) := fun ds z => nlk ds z
            have ta : Tr σ e Z H (σ'.set i (some (.ref a))) (e1.set i (some (.exc cl d))) Z' H' := t.tr.lose nl no_exc
            have tt : Tr σ e Z H (σ3.set i none) (e3.set i none) Z3 H3 := (ta.trans t3.tr).lose nlk no_none
            have fx : ∀ j, c.pr j = true → (σ3.set i none)[j]? = σ[j]? := fun j hj => by
              have nj : j ≠ i := fun z => by rw [z, hpi] at hj; cases hj
              rw [List.getElem?_set_ne (Ne.symm nj)]
              refine (t3.fix j hj).trans ?_
              show (σ'.set i (some (.ref a)))[j]? = _
              rw [List.getElem?_set_ne (Ne.symm nj)]
              exact t.fix j hj
            have p := p (σ3.set i none) Z3 H3 ⟨tt, fx⟩ (E3.outof hn3)
            cases fl <;> exact p
    · rw [if_neg (by rw [hb]; exact Bool.false_ne_true)] at p
      exact ih p
theorem s_try {body : List Stmt} {h₀ : ExceptHandler} {hds : List ExceptHandler} {l : List (Value × Option Nat × Suite)} {pos : Pos} {b h : Sta} (hs : X.stack = X.env :: X.outer) (hf : X.env.frame = some X.env.locals) (nd : X.N.Nodup) (tk : Takes X W)
    (hx : ∀ i j, PySem.W.exmOne X.K (.ref (c.clA i)) (.ref (c.clA j)) = some (sub i j))
    (hb : ∀ (W : WX) (pn : List (Addr × Obj)) (xe : Value → Shared → Prop), Takes (X.tr pn xe) W → PassesOwn (model X.prog X.w) X.A X.env xe → PSs (X.tr pn xe) body (tS c W fun e => exec prot cal mk sub np fuel b e)) (hh : Hds X (h₀ :: hds) l) (hl : HL c sub (exec prot cal mk sub np fuel) h l) :
    PS X (.Try body (h₀ :: hds) [] [] pos) (tS c W fun e => match exec prot cal mk sub np fuel b e with
      | .ok f e1 => .ok f e1
      | .exc cl d e1 => hand prot cal mk sub np fuel h cl d e1
      | .bad => .bad) := Pv.PS.imp (try_hds hs hf nd tk hb hh) fun D σ H ⟨e, Z, E, p⟩ => by
  refine ⟨e, Z, E, ?_⟩
  simp only at p
  show PostS c (wHs X.K W D l) D σ e Z H (exec prot cal mk sub np fuel b e)
  cases q : exec prot cal mk sub np fuel b e with
  | bad => rw [q] at p; exact p
  | ok f e1 => rw [q] at p; exact p
  | exc cl d e1 =>
    rw [q] at p
    exact fun σ' Z' H' dx t E' x => hand_ok hx t E' x hl p
end
end Pv
set_option maxRecDepth 100000
set_option maxHeartbeats 2000000
namespace Pv
open PySem PySem.Spec PyProof.Rows L2
/-! ## The text against the tree -/
structure Gx where
  fns : List Str
  cls : List Str
  fld : List Str
  sub : Nat → Nat → Bool
  rs : List Nat
  gls : List (Str × Int)
structure Ck where
  N : List Str
  sc : Scope
  pr : List Nat
  calm : Bool
  xs : Option (Nat × Str)
  cel : Bool
/-! shapes -/
def asName : Expr → Option Str
  | .Name x _ => some x
  | _ => none
def asCon : Expr → Option Const
  | .Constant v _ _ => some v
  | _ => none
def asBin : Expr → Option (Expr × Operator × Expr)
  | .BinOp a o b _ => some (a, o, b)
  | _ => none
def asUn : Expr → Option (PySem.UnaryOp × Expr)
  | .UnaryOp o a _ => some (o, a)
  | _ => none
def asBool : Expr → Option (PySem.BoolOp × List Expr × Pos)
  | .BoolOp o vs p => some (o, vs, p)
  | _ => none
def asIf : Expr → Option (Expr × Expr × Expr)
  | .IfExp t a b _ => some (t, a, b)
  | _ => none
def asTup : Expr → Option (List Expr)
  | .Tuple es _ _ => some es
  | _ => none
def asLst : Expr → Option (List Expr)
  | .List es _ => some es
  | _ => none
def asSub : Expr → Option (Expr × Expr)
  | .Subscript a b _ => some (a, b)
  | _ => none
def asSl : Expr → Option (Option Expr × Option Expr)
  | .Slice l h none _ => some (l, h)
  | _ => none
def asCmp : Expr → Option (Expr × List CmpOp × List Expr)
  | .Compare a os bs _ => some (a, os, bs)
  | _ => none
def asCall : Expr → Option (Str × List Expr)
  | .Call (.Name x _) es [] _ => some (x, es)
  | _ => none
def asMeth : Expr → Option (Str × Str × List Expr)
  | .Call (.Attribute (.Name x _) n p) es [] q => if p.endLine == q.line then some (x, n, es) else none
  | _ => none
def asAttr : Expr → Option (Str × Str)
  | .Attribute (.Name x _) n _ => some (x, n)
  | _ => none
def asLc : Expr → Option (Expr × Expr × Expr × List Expr × Scope)
  | .ListComp elt [⟨tg, it, ifs, 0⟩] sc _ => some (elt, tg, it, ifs, sc)
  | _ => none
theorem asName_eq {e : Expr} {x : Str} (h : asName e = some x) : ∃ p, e = .Name x p := by
  cases e <;> first | (cases h; exact ⟨_, rfl⟩) | cases h
theorem asCon_eq {e : Expr} {x : Const} (h : asCon e = some x) : ∃ j p, e = .Constant x j p := by
  cases e <;> first | (cases h; exact ⟨_, _, rfl⟩) | cases h
theorem asBin_eq {e a b : Expr} {o : Operator} (h : asBin e = some (a, o, b)) : ∃ p, e = .BinOp a o b p := by
  cases e <;> first | (cases h; exact ⟨_, rfl⟩) | cases h
theorem asUn_eq {e a : Expr} {o : PySem.UnaryOp} (h : asUn e = some (o, a)) : ∃ p, e = .UnaryOp o a p := by
  cases e <;> first | (cases h; exact ⟨_, rfl⟩) | cases h
theorem asBool_eq {e : Expr} {o : PySem.BoolOp} {vs : List Expr} {p : Pos} (h : asBool e = some (o, vs, p)) : e = .BoolOp o vs p := by
  cases e <;> first | (cases h; rfl) | cases h
theorem asIf_eq {e t a b : Expr} (h : asIf e = some (t, a, b)) : ∃ p, e = .IfExp t a b p := by
  cases e <;> first | (cases h; exact ⟨_, rfl⟩) | cases h
theorem asTup_eq {e : Expr} {es : List Expr} (h : asTup e = some es) : ∃ j p, e = .Tuple es j p := by
  cases e <;> first | (cases h; exact ⟨_, _, rfl⟩) | cases h
theorem asLst_eq {e : Expr} {es : List Expr} (h : asLst e = some es) : ∃ p, e = .List es p := by
  cases e <;> first | (cases h; exact ⟨_, rfl⟩) | cases h
theorem asSub_eq {e a b : Expr} (h : asSub e = some (a, b)) : ∃ p, e = .Subscript a b p := by
  cases e <;> first | (cases h; exact ⟨_, rfl⟩) | cases h
theorem asSl_eq {e : Expr} {l u : Option Expr} (h : asSl e = some (l, u)) : ∃ p, e = .Slice l u none p := by
  unfold asSl at h
  split at h
  · cases h; exact ⟨_, rfl⟩
  · cases h
theorem asCmp_eq {e a : Expr} {os : List CmpOp} {bs : List Expr} (h : asCmp e = some (a, os, bs)) : ∃ p, e = .Compare a os bs p := by
  cases e <;> first | (cases h; exact ⟨_, rfl⟩) | cases h
theorem asCall_eq {e : Expr} {x : Str} {es : List Expr} (h : asCall e = some (x, es)) : ∃ p q, e = .Call (.Name x p) es [] q := by
  unfold asCall at h
  split at h
  · cases h; exact ⟨_, _, rfl⟩
  · cases h
theorem asMeth_eq {e : Expr} {x n : Str} {es : List Expr} (h : asMeth e = some (x, n, es)) : ∃ r p q, e = .Call (.Attribute (.Name x r) n p) es [] q ∧ (p.endLine == q.line) = true := by
  unfold asMeth at h
  split at h
  · split at h
    · cases h; exact ⟨_, _, _, rfl, by assumption⟩
    · cases h
  · cases h
theorem asAttr_eq {e : Expr} {x n : Str} (h : asAttr e = some (x, n)) : ∃ r p, e = .Attribute (.Name x r) n p := by
  unfold asAttr at h
  split at h
  · cases h; exact ⟨_, _, rfl⟩
  · cases h
theorem asLc_eq {e elt tg it : Expr} {ifs : List Expr} {sc : Scope} (h : asLc e = some (elt, tg, it, ifs, sc)) : ∃ p, e = .ListComp elt [⟨tg, it, ifs, 0⟩] sc p := by
  unfold asLc at h
  split at h
  · cases h; exact ⟨_, rfl⟩
  · cases h
/-! what a text is not -/
def noStar : Expr → Bool
  | .Starred .. => false
  | _ => true
def noSet : Expr → Bool
  | .Set .. => false
  | _ => true
def noSlice : Expr → Bool
  | .Slice .. => false
  | _ => true
def noLC : Expr → Bool
  | .ListComp .. => false
  | .SetComp .. => false
  | .DictComp .. => false
  | _ => true
theorem star_cons {a : Expr} {r : List Expr} {env : PySem.Env} (h : noStar a = true) : starEach (a :: r) env = (false, eval a env) :: starEach r env := by
  cases a <;> first | rfl | cases h
theorem star_any {env : PySem.Env} {pos : Pos} : ∀ {r : List Expr}, (r.all noStar) = true → (backTo pos (starEach r env)).any (·.1) = false
  | [], _ => rfl
  | a :: r, h => by
    have h := List.all_cons ▸ h
    obtain ⟨h1, h2⟩ := Bool.and_eq_true_iff.mp h
    rw [star_cons h1]
    show (false || (backTo pos (starEach r env)).any (·.1)) = false
    rw [star_any h2]
    rfl
theorem swap_no {a : Expr} {t : Option Expr} {l : Nat} {env : PySem.Env} (h : noLC a = true) : swapsWith a t l env = pure false := by
  cases a <;> first | rfl | cases h
theorem fold_no {a : Expr} {env : PySem.Env} (h : noSet a = true) : ∀ x, foldedSetIterable a env x = pure x := by
  intro x
  cases a <;> first | rfl | cases h
theorem plainIx {b : Expr} (h : noSlice b = true) : PlainIx b := by
  intro o i
  cases b <;> first | rfl | cases h
theorem behind_no {op : CmpOp} {b : Expr} (h : noSet b = true) : behindInMarks op b = false := by
  cases b <;> first | rfl | cases h
theorem base_name {x n : Str} {p : Pos} {env : PySem.Env} : attributeBase (.Name x p) n env (eval (.Name x p) env) = eval (.Name x p) env := rfl
/-! names -/
def visB (sc : Scope) (x : Str) : Bool := match sc.names.lookup x with
  | some .local => true
  | some .cell => true
  | some .free => true
  | _ => false
theorem visB_ok {sc : Scope} {x : Str} (h : visB sc x = true) : Vis sc x := by
  unfold visB at h
  split at h
  · exact .inl ‹_›
  · exact .inr (.inl ‹_›)
  · exact .inr (.inr ‹_›)
  · cases h
def glB (sc : Scope) (x : Str) : Bool := decide (sc.names.lookup x = some .globalImplicit)
def noDb (x : Str) : Bool := !(x == ("__debug__" : Str)) && !(x == ("__classdict__" : Str))
def nmOk (k : Ck) (i : Nat) (x : Str) : Bool := decide (k.N[i]? = some x) && (visB k.sc x && noDb x)
def bnm : Bi → Option Str
  | .len => some "len"
  | .abs => some "abs"
  | .int => some "int"
  | .list => some "list"
  | .tuple => some "tuple"
  | .sum => some "sum"
  | .max => some "max"
  | .min => some "min"
  | .sorted => some "sorted"
  | .all => some "all"
  | .any => some "any"
  | _ => none
def needCalm : Bi → Bool
  | .len => false
  | .abs => false
  | .int => false
  | .list => false
  | .tuple => false
  | .sorted => false
  | _ => true
def cmpL : Ex → Bool
  | .cmp .. => true
  | .cmp2 .. => true
  | .isC .. => true
  | _ => false
def isTupE : Expr → Bool
  | .Tuple .. => true
  | _ => false
def needT : Ex → Bool
  | .enum _ => true
  | .zip .. => true
  | _ => false
/-- what is told in pairs goes to a tuple target -/
def tgOk (it : Ex) (t : Expr) : Bool := !needT it || isTupE t
def isTst : Ex → Bool
  | .tst _ => true
  | _ => false
def tyN : Ty → Str
  | .int => "int"
  | .bool => "bool"
  | .str => "str"
  | .list => "list"
  | .tuple => "tuple"
def chkTys (sc : Scope) : List Ty → List Expr → Bool
  | [], [] => true
  | t :: ts, e :: es => decide (asName e = some (tyN t)) && (glB sc (tyN t) && chkTys sc ts es)
  | _, _ => false
def ownN (k : Ck) (is : List Nat) : List (Str × Nat) := is.filterMap fun i => (k.N[i]?).map fun x => (x, i)
def Ck.blk (k : Ck) (scope : Scope) : Ck := { k with sc := relS scope k.sc, xs := none, cel := false }
/-- a plain local or cell name to be stored in a block or a def -/
def stB (k : Ck) (i : Nat) (x : Str) : Bool := decide (k.N[i]? = some x) && (decide (k.sc.names.lookup x = some .local) && !(k.pr.contains i))
/-- .. or, in a def, a cell -/
def stC (k : Ck) (i : Nat) (x : Str) : Bool := decide (k.N[i]? = some x) && ((decide (k.sc.names.lookup x = some .local) || (k.cel && decide (k.sc.names.lookup x = some .cell))) && !(k.pr.contains i))
def condB (c : Ex) (ifs : List Expr) (f : Expr → Bool) : Bool := match ifs with
  | [] => (match c with
    | .yes => true
    | _ => false)
  | [t] => f t
  | _ => false
def chkNs (k : Ck) : List Nat → List Expr → Bool
  | [], [] => true
  | i :: is, e :: es => (match asName e with
    | some x => stC k i x && chkNs k is es
    | none => false)
  | _, _ => false
def chkTg (k : Ck) : Tg → Expr → Bool
  | .one i, e => (match asName e with
    | some x => stC k i x
    | none => false)
  | .tup is, e => (match asTup e with
    | some es => k.calm && chkNs k is es
    | none => false)
section
variable (G : Gx)
mutual
def chkE : Ex → Ck → Expr → Bool
  | .var i, k, e => (match asName e with
    | some x => nmOk k i x
    | none => false)
  | .int i, _, e => decide (asCon e = some (.int i))
  | .bl b, _, e => decide (asCon e = some (.bool b))
  | .non, _, e => decide (asCon e = some .none)
  | .str s, _, e => decide (asCon e = some (.str s))
  | .gl x d, k, e => (match d with
    | .int i => decide (asName e = some x) && (glB k.sc x && (noDb x && decide ((x, i) ∈ G.gls)))
    | _ => false)
  | .bin o a b, k, e => (match asBin e with
    | some (l, op, r) => decide (op = bopOp o) && (chkE a k l && chkE b k r)
    | none => false)
  | .neg a, k, e => (match asUn e with
    | some (.USub, l) => chkE a k l
    | _ => false)
  | .not a, k, e => (match asUn e with
    | some (.Not, l) => isTst a && chkT a k l
    | _ => false)
  | .and a b, k, e => (match asBool e with
    | some (.And, x :: y :: r, p) => chkE a k x && (match r with
      | [] => chkE b k y
      | _ => chkE b k (.BoolOp .And (y :: r) p))
    | _ => false)
  | .or a b, k, e => (match asBool e with
    | some (.Or, x :: y :: r, p) => chkE a k x && (match r with
      | [] => chkE b k y
      | _ => chkE b k (.BoolOp .Or (y :: r) p))
    | _ => false)
  | .cmp o a b, k, e => (match asCmp e with
    | some (l, [op], [r]) => decide (op = copOp o) && (noSet r && (chkE a k l && chkE b k r))
    | _ => false)
  | .cmp2 o o' a b c, k, e => (match asCmp e with
    | some (l, [op, op'], [m, r]) => decide (op = copOp o) && (decide (op' = copOp o') && (noSet r && (chkE a k l && (chkE b k m && chkE c k r))))
    | _ => false)
  | .isC n c a, k, e => (match asCmp e with
    | some (l, [op], [r]) => decide (op = if n then .IsNot else .Is) && (decide (asCon r = some (cOf c)) && chkE a k l)
    | _ => false)
  | .ite c a b, k, e => (match asIf e with
    | some (t, x, y) => chkT c k t && (chkE a k x && chkE b k y)
    | none => false)
  | .tup es, k, e => (match asTup e with
    | some xs => chkL es k xs
    | none => false)
  | .lst es, k, e => (match asLst e with
    | some xs => chkL es k xs
    | none => false)
  | .ix a b, k, e => (match asSub e with
    | some (l, r) => noSlice r && (chkE a k l && chkE b k r)
    | none => false)
  | .sl a lo hi, k, e => (match asSub e with
    | some (l, r) => (match asSl r with
      | some (x, y) => chkE a k l && (chkO lo k x && chkO hi k y)
      | none => false)
    | none => false)
  | .call f es, k, e => (match asCall e with
    | some (x, y :: ys) => decide (G.fns[f]? = some x) && (glB k.sc x && (noDb x && (k.calm && chkL es k (y :: ys))))
    | _ => false)
  | .bi b es, k, e => (match asCall e with
    | some (x, y :: ys) => decide (bnm b = some x) && (glB k.sc x && ((k.calm || !needCalm b) && chkL es k (y :: ys)))
    | _ => false)
  | .isi a [t], k, e => (match asCall e with
    | some (x, [y, z]) => decide (x = ("isinstance" : Str)) && (glB k.sc x && (noStar y && (noStar z && (chkTys k.sc [t] [z] && chkE a k y))))
    | _ => false)
  | .isi a ts, k, e => (match asCall e with
    | some (x, [y, z]) => (match asTup z with
      | some zs => decide (x = ("isinstance" : Str)) && (glB k.sc x && (noStar y && (decide (ts.length ≤ 100) && (chkTys k.sc ts zs && chkE a k y))))
      | none => false)
    | _ => false)
  | .comp tg it c elt, k, e => (match asLc e with
    | some (elt', tg', it', ifs, sc) => k.calm && (noSet it' && (blkC k.N k.sc sc (ownN k tg.ns) && (decide ((ownN k tg.ns).map (·.2) = tg.ns) && (chkTg (k.blk sc) tg tg' && ((chkI it k it' && tgOk it tg') && (condB c ifs (fun t => chkT c (k.blk sc) t) && chkE elt (k.blk sc) elt'))))))
    | none => false)
  | .pop i, k, e => (match asMeth e with
    | some (x, n, []) => decide (n = ("pop" : Str)) && nmOk k i x
    | _ => false)
  | .pop0 i a, k, e => (match asMeth e with
    | some (x, n, [y]) => decide (n = ("pop" : Str)) && (nmOk k i x && (noStar y && chkE a k y))
    | _ => false)
  | .fld i, k, e => (match asAttr e with
    | some (x, n) => decide (k.xs = some (i, n)) && nmOk k i x
    | none => false)
  | .isx i j, k, e => (match asCall e with
    | some (f, [y, z]) => (match asName y, asName z, k.xs with
      | some x, some w, some (i', _) => decide (f = ("isinstance" : Str)) && (glB k.sc f && (decide (i' = i) && (nmOk k i x && (decide (G.cls[j]? = some w) && (glB k.sc w && noDb w)))))
      | _, _, _ => false)
    | _ => false)
  | _, _, _ => false
def chkT : Ex → Ck → Expr → Bool
  | .and a b, k, e => (match asBool e with
    | some (.And, x :: y :: r, p) => chkT a k x && (match r with
      | [] => chkT b k y
      | _ => chkT b k (.BoolOp .And (y :: r) p))
    | _ => false)
  | .or a b, k, e => (match asBool e with
    | some (.Or, x :: y :: r, p) => chkT a k x && (match r with
      | [] => chkT b k y
      | _ => chkT b k (.BoolOp .Or (y :: r) p))
    | _ => false)
  | .not a, k, e => (match asUn e with
    | some (.Not, l) => chkT a k l
    | _ => false)
  | .tst a, k, e => (cmpL a || plainT e) && chkE a k e
  | _, _, _ => false
def chkL : Ex → Ck → List Expr → Bool
  | .nil, _, [] => true
  | .cons a r, k, x :: xs => noStar x && (chkE a k x && chkL r k xs)
  | _, _, _ => false
def chkO : Ex → Ck → Option Expr → Bool
  | .no, _, none => true
  | .opt a, k, some x => chkE a k x
  | _, _, _ => false
def chkI : Ex → Ck → Expr → Bool
  | .range1 a, k, e => (match asCall e with
    | some (x, [y]) => decide (x = ("range" : Str)) && (glB k.sc x && (noStar y && chkE a k y))
    | _ => false)
  | .range2 a b, k, e => (match asCall e with
    | some (x, [y, z]) => decide (x = ("range" : Str)) && (glB k.sc x && (noStar y && (noStar z && (chkE a k y && chkE b k z))))
    | _ => false)
  | .itv a, k, e => chkE a k e
  | .zip a b, k, e => (match asCall e with
    | some (x, [y, z]) => decide (x = ("zip" : Str)) && (glB k.sc x && (noStar y && (noStar z && (chkE a k y && chkE b k z))))
    | _ => false)
  | .enum a, k, e => (match asCall e with
    | some (x, [y]) => decide (x = ("enumerate" : Str)) && (glB k.sc x && (noStar y && chkE a k y))
    | _ => false)
  | _, _, _ => false
end
end
end Pv
set_option maxRecDepth 100000
set_option maxHeartbeats 4000000
namespace Pv
open PySem PySem.Spec PyProof.Rows L2
structure CallOk (c : Cn) (X : Cx) (pr : Nat → Bool) (g : List Sl → R Sl) (x : Str) : Prop where
  ex : ∃ f fd ps n kk, FnOk X.prog X.w X.K X.mg X.base (L2.CX X.prog X.w) kk f fd ps (spF c pr n g) ∧ Room kk X.A ∧ X.mg x = some (.ref f) ∧ PySem.W.keepIn X.K (.ref f) = true ∧ Binds X.K fd ps [] ∧ ∀ ss, ss.length ≠ n → g ss = .bad
def bnames : List Str := ["len", "abs", "int", "list", "tuple", "sum", "max", "min", "sorted", "all", "any", "range", "isinstance", "bool", "str", "enumerate", "zip"]
/-- what is known of the exception that a suite holds -/
structure SuiteOk (G : Gx) (c : Cn) (X : Cx) (n : Str) : Prop where
  ex : ∃ a cl dx X0 oe pn, X = Cx.suite X0 a ((a, oe) :: pn) ∧ c.xa = some (a, cl, dx) ∧ Zc (.ref (c.clA cl)) dx oe ∧ (∃ vs, oe.data = .fields vs) ∧ XfC X0.K (c.clA cl) ∧ XisC X0.K (c.clA cl) ∧ PySem.W.findIn X0.K (.ref (c.clA cl)) n = some none ∧ c.fld cl = n ∧
    ∀ (j : Nat) (x : Str), G.cls[j]? = some x → PySem.W.kitOne X0.K (.ref (c.clA cl)) (.ref (c.clA j)) = some (G.sub cl j) ∧ X0.mg x = some (.ref (c.clA j))
structure Okx (G : Gx) (prot : Nat → Nat → Bool) (cal : Nat → List Sl → R Sl) (k : Ck) (c : Cn) (W : WX) (X : Cx) : Prop where
  hK : c.K = X.K
  hu : X.A.units + 64 < cLine
  hN : X.N = k.N
  nd : X.N.Nodup
  sc : X.env.scope = k.sc
  kd : k.sc.kind = .function
  calm : k.calm = true → X.calm = true
  tk : Takes X W
  fns : k.calm = true → ∀ (i : Nat) (x : Str), G.fns[i]? = some x → CallOk c X (prot i) (cal i) x
  blt : ∀ x ∈ bnames, X.mg x = none
  pr : ∀ i, c.pr i = k.pr.contains i
  xs : ∀ i n, k.xs = some (i, n) → SuiteOk G c X n
  cel : k.cel = true → ∀ x, X.fn x = true
  gls : ∀ x i, (x, i) ∈ G.gls → ∃ t, X.mg x = some (.int i t)
section
variable {G : Gx} {prot : Nat → Nat → Bool} {cal : Nat → List Sl → R Sl} {sub : Nat → Nat → Bool} {k : Ck} {c : Cn} {W : WX} {X : Cx}
theorem Okx.gl (O : Okx G prot cal k c W X) {x : Str} (h : glB k.sc x = true) : Gl X x := by
  show X.env.scope.names.lookup x = _
  rw [O.sc]
  exact of_decide_eq_true h
theorem Okx.var (O : Okx G prot cal k c W X) {i : Nat} {x : Str} {p : Pos} (h : nmOk k i x = true) : PE X (.Name x p) (tVar i) := by
  obtain ⟨h1, h⟩ := Bool.and_eq_true_iff.mp h
  obtain ⟨h2, h⟩ := Bool.and_eq_true_iff.mp h
  obtain ⟨h3, h4⟩ := Bool.and_eq_true_iff.mp h
  refine pe_var ?_ ?_ (by simpa using h3) (by simpa using h4)
  · rw [O.hN]
    exact of_decide_eq_true h1
  · rw [O.sc]
    exact visB_ok h2
theorem Okx.blk (O : Okx G prot cal k c W X) {s : Shared} {H : Hp} {scope : Scope} {own : List (Str × Nat)} {cl : List (Str × Addr)} {C : Addr} {fp : List Addr} (h : blkC k.N k.sc scope own = true) : Okx G prot cal (k.blk scope) c W0 (X.blk s H scope (compEnvC scope cl C X.env) fp) where
  hK := O.hK
  hu := O.hu
  hN := O.hN
  nd := O.nd
  sc := by
    show relabel scope X.env = relS scope k.sc
    rw [← O.sc]
    rfl
  kd := (blkOk_by h).kind
  calm := O.calm
  tk := takes_none5
  fns := fun q i x h => ⟨(O.fns q i x h).ex⟩
  blt := O.blt
  pr := O.pr
  xs := fun i n h => by cases h
  cel := fun h => by cases h
  gls := O.gls
theorem stB_ok {i : Nat} {x : Str} (O : Okx G prot cal k c W X) (h : stB k i x = true) : X.N[i]? = some x ∧ X.env.scope.names.lookup x = some .local ∧ c.pr i = false := by
  obtain ⟨h1, h⟩ := Bool.and_eq_true_iff.mp h
  obtain ⟨h2, h3⟩ := Bool.and_eq_true_iff.mp h
  refine ⟨?_, ?_, ?_⟩
  · rw [O.hN]
    exact of_decide_eq_true h1
  · rw [O.sc]
    exact of_decide_eq_true h2
  · rw [O.pr]
    simpa using h3
theorem stC_ok {i : Nat} {x : Str} (O : Okx G prot cal k c W X) (h : stC k i x = true) : X.N[i]? = some x ∧ Loc X.env.scope x ∧ (X.fn x = true ∨ X.env.scope.names.lookup x = some .local) ∧ c.pr i = false := by
  obtain ⟨h1, h⟩ := Bool.and_eq_true_iff.mp h
  obtain ⟨h2, h3⟩ := Bool.and_eq_true_iff.mp h
  have hp : c.pr i = false := by
    rw [O.pr]
    simpa using h3
  have hn : X.N[i]? = some x := by
    rw [O.hN]
    exact of_decide_eq_true h1
  rcases Bool.or_eq_true_iff.mp h2 with h2 | h2
  · have h2 := of_decide_eq_true h2
    rw [← O.sc] at h2
    exact ⟨hn, .inl h2, .inr h2, hp⟩
  · obtain ⟨h4, h5⟩ := Bool.and_eq_true_iff.mp h2
    have h5 := of_decide_eq_true h5
    rw [← O.sc] at h5
    exact ⟨hn, .inr h5, .inl (O.cel h4 x), hp⟩
theorem st_pg {i : Nat} {x : Str} {p : Pos} (O : Okx G prot cal k c W X) (h : stC k i x = true) : PG X (.Name x p) (gName i) := by
  obtain ⟨h1, h2, h3, _⟩ := stC_ok O h
  exact pg_name O.nd h1 h2 h3
theorem names_ok (O : Okx G prot cal k c W X) : ∀ {is : List Nat} {es : List Expr}, chkNs k is es = true → PGs X es (gNames is) ∧ (assignEach es X.env).length = is.length ∧ (assignEach es X.env).findIdx? (·.1) = none ∧ ∀ i ∈ is, c.pr i = false := by
  intro is
  induction is with
  | nil =>
    intro es h
    cases es with
    | nil => exact ⟨pgs_nil, rfl, rfl, fun i h => by cases h⟩
    | cons e es => cases h
  | cons i is ih =>
    intro es h
    cases es with
    | nil => cases h
    | cons e es =>
      simp only [chkNs] at h
      split at h
      · rename_i x hx
        obtain ⟨p, rfl⟩ := asName_eq hx
        obtain ⟨h1, h2⟩ := Bool.and_eq_true_iff.mp h
        obtain ⟨q1, q2, q3, q4⟩ := ih h2
        refine ⟨pgs_cons (st_pg O h1) q1 rfl, ?_, ?_, ?_⟩
        · show (assignEach es X.env).length + 1 = _
          rw [q2]
          rfl
        · have : assignEach (.Name x p :: es) X.env = (false, assign (.Name x p) X.env) :: assignEach es X.env := rfl
          rw [this, List.findIdx?_cons, q3]
          rfl
        · intro j hj
          rcases List.mem_cons.mp hj with e | hj
          · rw [e]; exact (stC_ok O h1).2.2.2
          · exact q4 j hj
      · cases h
theorem tg_ok (O : Okx G prot cal k c W X) {tg : Tg} {e : Expr} (h : chkTg k tg e = true) : ∃ g, PG X e g ∧ GP c tg.ns g (putT tg) := by
  cases tg with
  | one i =>
    simp only [chkTg] at h
    split at h
    · rename_i x hx
      obtain ⟨p, rfl⟩ := asName_eq hx
      exact ⟨_, st_pg O h, gp_one (stC_ok O h).2.2.2⟩
    · cases h
  | tup is =>
    simp only [chkTg] at h
    split at h
    · rename_i es hx
      obtain ⟨j, p, rfl⟩ := asTup_eq hx
      obtain ⟨h1, h2⟩ := Bool.and_eq_true_iff.mp h
      obtain ⟨q1, q2, q3, q4⟩ := names_ok O h2
      refine ⟨_, pg_tup (O.calm h1) q1 q2 q3, ?_⟩
      rw [← O.hK]
      exact gp_tup q4
    · cases h
theorem tyN_blt (t : Ty) : tyN t ∈ bnames := by cases t <;> decide +kernel
theorem tys_ok (O : Okx G prot cal k c W X) : ∀ {ts : List Ty} {es : List Expr}, chkTys k.sc ts es = true → PA X es (tTys ts) ∧ es.all noStar = true := by
  intro ts
  induction ts with
  | nil =>
    intro es h
    cases es with
    | nil => exact ⟨Pv.PA.imp pa_nil fun σ H Q q => q, rfl⟩
    | cons e es => cases h
  | cons t ts ih =>
    intro es h
    cases es with
    | nil => cases h
    | cons e es =>
      simp only [chkTys, Bool.and_eq_true, decide_eq_true_eq] at h
      obtain ⟨h1, h2, h3⟩ := h
      obtain ⟨p, rfl⟩ := asName_eq h1
      obtain ⟨q1, q2⟩ := ih h3
      have pe : PE X (.Name (tyN t) p) (tC (.ty t.nm)) := by
        have hm := O.blt _ (tyN_blt t)
        have hg := O.gl h2
        cases t <;> exact pe_bltn (u := .type _) hg hm rfl rfl (by decide) (by decide)
      refine ⟨Pv.PA.imp (pa_cons pe q1 rfl) fun σ H Q q => q, ?_⟩
      rw [List.all_cons, q2]
      rfl
/-- value-level not -/
theorem r_notv (hK : c.K = X.K) {fa : Es → R Bv} {a : Expr} {pos : Pos} (ha : PE X a (tBo c W fa)) : PE X (.UnaryOp .Not a pos) (tE c W fun e => ((fa e).bind fun x e1 => retD ((look e1 x).bind truthD) id e1).bind fun b e1 => .ok (.val (.bl (!b))) e1) :=
  Pv.PE.imp (pe_notT ha) fun σ H Q ⟨e, Z, E, p⟩ => by
    refine ⟨e, Z, E, ?_⟩
    have p : Post c W σ e Z H (((fa e).bind fun x e1 => retD ((look e1 x).bind truthD) id e1).bind fun b e1 => .ok (.val (.bl (!b))) e1) fun s e' Z' H' => ∀ v, TmpR c H Z' H' σ e' s v → Q v H' := p
    cases hf : fa e with
    | bad => rw [hf] at p; exact p.elim
    | exc cl d e1 => rw [hf] at p; exact p
    | ok x e1 =>
      rw [hf] at p
      intro Z1 H1 t1 E1 v r
      have p : Post c W σ e Z H ((retD ((look e1 x).bind truthD) id e1).bind fun b e1 => .ok (.val (.bl (!b))) e1) fun s e' Z' H' => ∀ v, TmpR c H Z' H' σ e' s v → Q v H' := p
      unfold retD at p
      split at p
      · rename_i b l
        rw [Option.bind_eq_some_iff] at l
        obtain ⟨d, l1, l2⟩ := l
        refine ⟨b, ?_, p Z1 H1 t1 E1 _ (tm_bl _)⟩
        rw [← hK]
        exact tru_of (look_rq E1 r l1) l2
      · exact p.elim
/-! ### the motive -/
structure SE (prot : Nat → Nat → Bool) (cal : Nat → List Sl → R Sl) (sub : Nat → Nat → Bool) (c : Cn) (W : WX) (X : Cx) (x : Ex) (e : Expr) : Prop where
  pe : PE X e (tE c W (evE prot cal sub x))
  bo : PE X e (tBo c W fun s => bor x s (evE prot cal sub x s))
  pt : cmpL x = true → PT X e (tTe c W (toT (evE prot cal sub x))) ∧ ∀ s r s', evE prot cal sub x s = .ok r s' → ∃ b, r = .val (.bl b)
theorem SE.mk' {x : Ex} {e : Expr} (hv : ∀ i, x ≠ .var i) (hc : cmpL x = false) (h : PE X e (tE c W (evE prot cal sub x))) : SE prot cal sub c W X x e := ⟨h, r_bor hv h, fun z => by rw [hc] at z; cases z⟩
structure Snd (G : Gx) (prot : Nat → Nat → Bool) (cal : Nat → List Sl → R Sl) (sub : Nat → Nat → Bool) (x : Ex) : Prop where
  e : ∀ {k c W X} {e : Expr}, Okx G prot cal k c W X → chkE G x k e = true → SE prot cal sub c W X x e
  t : ∀ {k c W X} {e : Expr}, Okx G prot cal k c W X → chkT G x k e = true → PT X e (tTe c W (evT prot cal sub x)) ∧ ∀ op vs p, e = .BoolOp op vs p → PW X e (tTe c W (evT prot cal sub x))
  n : ∀ {k c W X} {e : Expr}, Okx G prot cal k c W X → isTst x = true → chkT G x k e = true → ∀ pos, PE X (.UnaryOp .Not e pos) (tE c W fun s => (evT prot cal sub x s).bind fun b e1 => .ok (.val (.bl (!b))) e1)
  l : ∀ {k c W X} {es : List Expr}, Okx G prot cal k c W X → chkL G x k es = true → PA X es (tVs c W (evV prot cal sub x)) ∧ PA X es (tBs c W (evA prot cal sub x)) ∧ es.all noStar = true
  o : ∀ {k c W X} {e : Option Expr}, Okx G prot cal k c W X → chkO G x k e = true → PO X e (tOi c W (evO prot cal sub x))
  i : ∀ {k c W X} {e : Expr}, Okx G prot cal k c W X → chkI G x k e = true → ∀ tg, tgOk x tg = true → PI X tg e (tI c W x (evI prot cal sub x))
end
end Pv
set_option maxRecDepth 100000
set_option maxHeartbeats 4000000
namespace Pv
open PySem PySem.Spec PyProof.Rows L2
section
variable {G : Gx} {prot : Nat → Nat → Bool} {cal : Nat → List Sl → R Sl} {sub : Nat → Nat → Bool} {k : Ck} {c : Cn} {W : WX} {X : Cx}
theorem Snd.mkE {x : Ex} (he : ∀ {k c W X} {e : Expr}, Okx G prot cal k c W X → chkE G x k e = true → SE prot cal sub c W X x e) (ht : ∀ k e, chkT G x k e = false) (hl : ∀ k e, chkL G x k e = false) (ho : ∀ k e, chkO G x k e = false) (hi : ∀ k e, chkI G x k e = false) : Snd G prot cal sub x :=
  ⟨he, fun O h => (Bool.false_ne_true ((ht _ _).symm.trans h)).elim, fun O _ h => (Bool.false_ne_true ((ht _ _).symm.trans h)).elim, fun O h => (Bool.false_ne_true ((hl _ _).symm.trans h)).elim, fun O h => (Bool.false_ne_true ((ho _ _).symm.trans h)).elim, fun O h => (Bool.false_ne_true ((hi _ _).symm.trans h)).elim⟩
theorem Snd.no {x : Ex} (he : ∀ k e, chkE G x k e = false) (ht : ∀ k e, chkT G x k e = false) (hl : ∀ k e, chkL G x k e = false) (ho : ∀ k e, chkO G x k e = false) (hi : ∀ k e, chkI G x k e = false) : Snd G prot cal sub x :=
  .mkE (fun O h => (Bool.false_ne_true ((he _ _).symm.trans h)).elim) ht hl ho hi
theorem ff {p : Prop} (h : false = true) : p := (Bool.false_ne_true h).elim
theorem ands {a b : Bool} (h : (a && b) = true) : a = true ∧ b = true := Bool.and_eq_true_iff.mp h
/-- constants -/
theorem se_con {x : Ex} {d : D} {v : V} {e : Expr} (hv : ∀ i, x ≠ .var i) (hc : cmpL x = false) (h : PE X e (tC v)) (hf : ∀ s, evE prot cal sub x s = .ok (.val d) s) (r : ∀ Z H, Rp c.K Z H d v) : SE prot cal sub c W X x e := .mk' hv hc (r_val h hf r)
theorem snd_var (i : Nat) : Snd G prot cal sub (.var i) := .mkE (fun {k c W X e} O h => by
  have h : (match asName e with
    | some x => nmOk k i x
    | none => false) = true := h
  split at h
  case h_2 => exact ff h
  rename_i x hx
  obtain ⟨p, rfl⟩ := asName_eq hx
  exact ⟨r_var (O.var h) prot cal sub, r_borv (O.var h) prot cal sub, fun z => ff z⟩) (fun _ _ => rfl) (fun _ _ => rfl) (fun _ _ => rfl) (fun _ _ => rfl)
theorem snd_int (i : Int) : Snd G prot cal sub (.int i) := .mkE (fun {k c W X e} O h => by
  obtain ⟨j, p, rfl⟩ := asCon_eq (of_decide_eq_true (show decide (asCon e = some (.int i)) = true from h))
  exact se_con (d := .int i) (fun _ z => by cases z) rfl pe_int (fun _ => rfl) fun Z H => mk_int i) (fun _ _ => rfl) (fun _ _ => rfl) (fun _ _ => rfl) (fun _ _ => rfl)
theorem snd_bl (b : Bool) : Snd G prot cal sub (.bl b) := .mkE (fun {k c W X e} O h => by
  obtain ⟨j, p, rfl⟩ := asCon_eq (of_decide_eq_true (show decide (asCon e = some (.bool b)) = true from h))
  exact se_con (d := .bl b) (fun _ z => by cases z) rfl pe_bl (fun _ => rfl) fun Z H => mk_bl b) (fun _ _ => rfl) (fun _ _ => rfl) (fun _ _ => rfl) (fun _ _ => rfl)
theorem snd_non : Snd G prot cal sub .non := .mkE (fun {k c W X e} O h => by
  obtain ⟨j, p, rfl⟩ := asCon_eq (of_decide_eq_true (show decide (asCon e = some .none) = true from h))
  exact se_con (d := .non) (fun _ z => by cases z) rfl pe_non (fun _ => rfl) fun Z H => mk_non) (fun _ _ => rfl) (fun _ _ => rfl) (fun _ _ => rfl) (fun _ _ => rfl)
theorem snd_str (s : Str) : Snd G prot cal sub (.str s) := .mkE (fun {k c W X e} O h => by
  obtain ⟨j, p, rfl⟩ := asCon_eq (of_decide_eq_true (show decide (asCon e = some (.str s)) = true from h))
  exact se_con (d := .str s) (fun _ z => by cases z) rfl pe_str (fun _ => rfl) fun Z H => mk_str s) (fun _ _ => rfl) (fun _ _ => rfl) (fun _ _ => rfl) (fun _ _ => rfl)
theorem snd_bin (o : Bop) (a b : Ex) (iha : Snd G prot cal sub a) (ihb : Snd G prot cal sub b) : Snd G prot cal sub (.bin o a b) := .mkE (fun {k c W X e} O h => by
  have h : (match asBin e with
    | some (l, op, r) => decide (op = bopOp o) && (chkE G a k l && chkE G b k r)
    | none => false) = true := h
  split at h
  case h_2 => exact ff h
  rename_i l op r hx
  obtain ⟨p, rfl⟩ := asBin_eq hx
  obtain ⟨h1, h⟩ := ands h
  obtain ⟨h2, h3⟩ := ands h
  cases of_decide_eq_true h1
  exact .mk' (fun _ z => by cases z) rfl (r_bin o O.hK (iha.e O h2).bo (ihb.e O h3).bo)) (fun _ _ => rfl) (fun _ _ => rfl) (fun _ _ => rfl) (fun _ _ => rfl)
theorem snd_neg (a : Ex) (iha : Snd G prot cal sub a) : Snd G prot cal sub (.neg a) := .mkE (fun {k c W X e} O h => by
  have h : (match asUn e with
    | some (.USub, l) => chkE G a k l
    | _ => false) = true := h
  split at h
  case h_2 => exact ff h
  rename_i l hx
  obtain ⟨p, rfl⟩ := asUn_eq hx
  exact .mk' (fun _ z => by cases z) rfl (r_neg (iha.e O h).pe)) (fun _ _ => rfl) (fun _ _ => rfl) (fun _ _ => rfl) (fun _ _ => rfl)
theorem snd_cmp (o : Cop) (a b : Ex) (iha : Snd G prot cal sub a) (ihb : Snd G prot cal sub b) : Snd G prot cal sub (.cmp o a b) := .mkE (fun {k c W X e} O h => by
  have h : (match asCmp e with
    | some (l, [op], [r]) => decide (op = copOp o) && (noSet r && (chkE G a k l && chkE G b k r))
    | _ => false) = true := h
  split at h
  case h_2 => exact ff h
  rename_i l op r hx
  obtain ⟨p, rfl⟩ := asCmp_eq hx
  obtain ⟨h1, h⟩ := ands h
  obtain ⟨h2, h⟩ := ands h
  obtain ⟨h3, h4⟩ := ands h
  cases of_decide_eq_true h1
  have pe := r_cmp (c := c) (W := W) (pos := p) O.hK O.hu o (iha.e O h3).bo (ihb.e O h4).bo (behind_no h2)
  exact ⟨pe, r_bor (fun _ z => by cases z) pe, fun _ => ⟨t_cmp O.hK O.hu o (iha.e O h3).bo (ihb.e O h4).bo (behind_no h2), cmp_bl⟩⟩) (fun _ _ => rfl) (fun _ _ => rfl) (fun _ _ => rfl) (fun _ _ => rfl)
theorem snd_cmp2 (o o' : Cop) (a b d : Ex) (iha : Snd G prot cal sub a) (ihb : Snd G prot cal sub b) (ihd : Snd G prot cal sub d) : Snd G prot cal sub (.cmp2 o o' a b d) := .mkE (fun {k c W X e} O h => by
  have h : (match asCmp e with
    | some (l, [op, op'], [m, r]) => decide (op = copOp o) && (decide (op' = copOp o') && (noSet r && (chkE G a k l && (chkE G b k m && chkE G d k r))))
    | _ => false) = true := h
  split at h
  case h_2 => exact ff h
  rename_i l op op' m r hx
  obtain ⟨p, rfl⟩ := asCmp_eq hx
  obtain ⟨h1, h⟩ := ands h
  obtain ⟨h2, h⟩ := ands h
  obtain ⟨h3, h⟩ := ands h
  obtain ⟨h4, h⟩ := ands h
  obtain ⟨h5, h6⟩ := ands h
  cases of_decide_eq_true h1
  cases of_decide_eq_true h2
  have lm : lastMarks [copOp o, copOp o'] [m, r] = false := behind_no h3
  have pe := r_cmp2 (c := c) (W := W) (pos := p) O.hK O.hu o o' (iha.e O h4).pe (ihb.e O h5).pe (ihd.e O h6).pe lm
  exact ⟨pe, r_bor (fun _ z => by cases z) pe, fun _ => ⟨t_cmp2 O.hK O.hu o o' (iha.e O h4).pe (ihb.e O h5).pe (ihd.e O h6).pe lm, cmp2_bl⟩⟩) (fun _ _ => rfl) (fun _ _ => rfl) (fun _ _ => rfl) (fun _ _ => rfl)
theorem snd_isC (n : Bool) (q : Option Bool) (a : Ex) (iha : Snd G prot cal sub a) : Snd G prot cal sub (.isC n q a) := .mkE (fun {k c W X e} O h => by
  have h : (match asCmp e with
    | some (l, [op], [r]) => decide (op = if n then .IsNot else .Is) && (decide (asCon r = some (cOf q)) && chkE G a k l)
    | _ => false) = true := h
  split at h
  case h_2 => exact ff h
  rename_i l op r hx
  obtain ⟨p, rfl⟩ := asCmp_eq hx
  obtain ⟨h1, h⟩ := ands h
  obtain ⟨h2, h3⟩ := ands h
  obtain ⟨j, p', rfl⟩ := asCon_eq (of_decide_eq_true h2)
  cases of_decide_eq_true h1
  have pe := r_is (c := c) (W := W) (j := j) (pos := p) (pos' := p') O.hK n q (iha.e O h3).bo
  exact ⟨pe, r_bor (fun _ z => by cases z) pe, fun _ => ⟨t_is O.hK n q (iha.e O h3).bo, is_bl⟩⟩) (fun _ _ => rfl) (fun _ _ => rfl) (fun _ _ => rfl) (fun _ _ => rfl)
theorem snd_ite (t a b : Ex) (iht : Snd G prot cal sub t) (iha : Snd G prot cal sub a) (ihb : Snd G prot cal sub b) : Snd G prot cal sub (.ite t a b) := .mkE (fun {k c W X e} O h => by
  have h : (match asIf e with
    | some (t', x, y) => chkT G t k t' && (chkE G a k x && chkE G b k y)
    | none => false) = true := h
  split at h
  case h_2 => exact ff h
  rename_i t' x y hx
  obtain ⟨p, rfl⟩ := asIf_eq hx
  obtain ⟨h1, h⟩ := ands h
  obtain ⟨h2, h3⟩ := ands h
  exact .mk' (fun _ z => by cases z) rfl (r_ite (iht.t O h1).1 (iha.e O h2).pe (ihb.e O h3).pe)) (fun _ _ => rfl) (fun _ _ => rfl) (fun _ _ => rfl) (fun _ _ => rfl)
theorem snd_tup (es : Ex) (ih : Snd G prot cal sub es) : Snd G prot cal sub (.tup es) := .mkE (fun {k c W X e} O h => by
  have h : (match asTup e with
    | some xs => chkL G es k xs
    | none => false) = true := h
  split at h
  case h_2 => exact ff h
  rename_i xs hx
  obtain ⟨j, p, rfl⟩ := asTup_eq hx
  exact .mk' (fun _ z => by cases z) rfl (r_tup (ih.l O h).1)) (fun _ _ => rfl) (fun _ _ => rfl) (fun _ _ => rfl) (fun _ _ => rfl)
theorem snd_lst (es : Ex) (ih : Snd G prot cal sub es) : Snd G prot cal sub (.lst es) := .mkE (fun {k c W X e} O h => by
  have h : (match asLst e with
    | some xs => chkL G es k xs
    | none => false) = true := h
  split at h
  case h_2 => exact ff h
  rename_i xs hx
  obtain ⟨p, rfl⟩ := asLst_eq hx
  exact .mk' (fun _ z => by cases z) rfl (r_lst (ih.l O h).1)) (fun _ _ => rfl) (fun _ _ => rfl) (fun _ _ => rfl) (fun _ _ => rfl)
theorem snd_ix (a b : Ex) (iha : Snd G prot cal sub a) (ihb : Snd G prot cal sub b) : Snd G prot cal sub (.ix a b) := .mkE (fun {k c W X e} O h => by
  have h : (match asSub e with
    | some (l, r) => noSlice r && (chkE G a k l && chkE G b k r)
    | none => false) = true := h
  split at h
  case h_2 => exact ff h
  rename_i l r hx
  obtain ⟨p, rfl⟩ := asSub_eq hx
  obtain ⟨h1, h⟩ := ands h
  obtain ⟨h2, h3⟩ := ands h
  exact .mk' (fun _ z => by cases z) rfl (r_ix O.hK (iha.e O h2).bo (ihb.e O h3).pe (plainIx h1))) (fun _ _ => rfl) (fun _ _ => rfl) (fun _ _ => rfl) (fun _ _ => rfl)
theorem snd_sl (a lo hi : Ex) (iha : Snd G prot cal sub a) (ihl : Snd G prot cal sub lo) (ihh : Snd G prot cal sub hi) : Snd G prot cal sub (.sl a lo hi) := .mkE (fun {k c W X e} O h0 => by
  have h : (match asSub e with
    | some (l, r) => (match asSl r with
      | some (x, y) => chkE G a k l && (chkO G lo k x && chkO G hi k y)
      | none => false)
    | none => false) = true := h0
  clear h0
  split at h
  case h_2 => exact ff h
  rename_i l r hx
  obtain ⟨p, rfl⟩ := asSub_eq hx
  split at h
  case h_2 => exact ff h
  rename_i x y hx2
  obtain ⟨p2, rfl⟩ := asSl_eq hx2
  obtain ⟨h1, h⟩ := ands h
  obtain ⟨h2, h3⟩ := ands h
  exact .mk' (fun _ z => by cases z) rfl (r_sl O.hK (iha.e O h1).bo (ihl.o O h2) (ihh.o O h3))) (fun _ _ => rfl) (fun _ _ => rfl) (fun _ _ => rfl) (fun _ _ => rfl)
theorem all_tail {a : Expr} {r : List Expr} (h : (a :: r).all noStar = true) : noStar a = true ∧ r.all noStar = true := by
  rw [List.all_cons] at h
  exact ands h
theorem snd_call (f : Nat) (es : Ex) (ih : Snd G prot cal sub es) : Snd G prot cal sub (.call f es) := .mkE (fun {k c W X e} O h => by
  have h : (match asCall e with
    | some (x, y :: ys) => decide (G.fns[f]? = some x) && (glB k.sc x && (noDb x && (k.calm && chkL G es k (y :: ys))))
    | _ => false) = true := h
  split at h
  case h_2 => exact ff h
  rename_i x y ys hx
  obtain ⟨p, q, rfl⟩ := asCall_eq hx
  obtain ⟨h1, h⟩ := ands h
  obtain ⟨h2, h⟩ := ands h
  obtain ⟨h3, h⟩ := ands h
  obtain ⟨h5, h4⟩ := ands h
  obtain ⟨a1, a2, a3⟩ := ih.l O h4
  obtain ⟨s1, s2⟩ := all_tail a3
  obtain ⟨fa, fd, ps, n, kk, F, hr, hm, hk, hb, hg⟩ := (O.fns h5 f x (of_decide_eq_true h1)).ex
  have hd : (x == ("__debug__" : Str)) = false := by
    have := (ands h3).1
    simpa using this
  exact .mk' (fun _ z => by cases z) rfl (r_call F hr (O.gl h2) hm hk hb O.tk hg a2 hd (star_cons s1) (star_any s2))) (fun _ _ => rfl) (fun _ _ => rfl) (fun _ _ => rfl) (fun _ _ => rfl)
end
end Pv
set_option maxRecDepth 100000
set_option maxHeartbeats 4000000
namespace Pv
open PySem PySem.Spec PyProof.Rows L2
section
variable {G : Gx} {prot : Nat → Nat → Bool} {cal : Nat → List Sl → R Sl} {sub : Nat → Nat → Bool} {k : Ck} {c : Cn} {W : WX} {X : Cx}
theorem snd_tst (a : Ex) (iha : Snd G prot cal sub a) : Snd G prot cal sub (.tst a) where
  e := fun O h => ff h
  l := fun O h => ff h
  o := fun O h => ff h
  i := fun O h => ff h
  n := fun {k c W X e} O _ h pos => by
    have h : ((cmpL a || plainT e) && chkE G a k e) = true := h
    exact r_notv O.hK (iha.e O (ands h).2).bo
  t := fun {k c W X e} O h => by
    have h : ((cmpL a || plainT e) && chkE G a k e) = true := h
    obtain ⟨h1, h2⟩ := ands h
    have S := iha.e O h2
    cases hc : cmpL a with
    | true =>
      obtain ⟨q1, q2⟩ := S.pt hc
      have nv : ∀ i, a ≠ .var i := fun i z => by rw [z] at hc; cases hc
      have pt : PT X e (tTe c W (evT prot cal sub (.tst a))) := by
        have := bor_toT nv q2
        show PT X e (tTe c W fun s => (bor a s (evE prot cal sub a s)).bind fun x e1 => retD ((look e1 x).bind truthD) id e1)
        rw [this]
        exact q1
      refine ⟨pt, fun op vs p z => ?_⟩
      subst z
      cases a <;> first | (cases hc; done) | exact ff h2
    | false =>
      rw [hc, Bool.false_or] at h1
      refine ⟨t_tst O.hK h1 S.bo, fun op vs p z => ?_⟩
      subst z
      exact ff h1
theorem snd_not (a : Ex) (iha : Snd G prot cal sub a) : Snd G prot cal sub (.not a) where
  l := fun O h => ff h
  o := fun O h => ff h
  i := fun O h => ff h
  n := fun O h => ff h
  e := fun {k c W X e} O h => by
    have h : (match asUn e with
      | some (.Not, l) => isTst a && chkT G a k l
      | _ => false) = true := h
    split at h
    case h_2 => exact ff h
    rename_i l hx
    obtain ⟨p, rfl⟩ := asUn_eq hx
    obtain ⟨h1, h2⟩ := ands h
    exact .mk' (fun _ z => by cases z) rfl (iha.n O h1 h2 p)
  t := fun {k c W X e} O h => by
    have h : (match asUn e with
      | some (.Not, l) => chkT G a k l
      | _ => false) = true := h
    split at h
    case h_2 => exact ff h
    rename_i l hx
    obtain ⟨p, rfl⟩ := asUn_eq hx
    exact ⟨t_not (iha.t O h).1, fun op vs p z => by cases z⟩
theorem snd_and (a b : Ex) (iha : Snd G prot cal sub a) (ihb : Snd G prot cal sub b) : Snd G prot cal sub (.and a b) where
  l := fun O h => ff h
  o := fun O h => ff h
  i := fun O h => ff h
  n := fun O h => ff h
  e := fun {k c W X e} O h0 => by
    have h : (match asBool e with
      | some (.And, x :: y :: r, p) => chkE G a k x && (match r with
        | [] => chkE G b k y
        | _ => chkE G b k (.BoolOp .And (y :: r) p))
      | _ => false) = true := h0
    clear h0
    split at h
    case h_2 => exact ff h
    rename_i x y r p hx
    have := asBool_eq hx
    subst this
    obtain ⟨h1, h2⟩ := ands h
    clear h
    refine .mk' (fun _ z => by cases z) rfl (r_and (iha.e O h1).pe ?_)
    cases r with
    | nil => exact pe_one (ihb.e O h2).pe
    | cons z r => exact (ihb.e O h2).pe
  t := fun {k c W X e} O h0 => by
    have h : (match asBool e with
      | some (.And, x :: y :: r, p) => chkT G a k x && (match r with
        | [] => chkT G b k y
        | _ => chkT G b k (.BoolOp .And (y :: r) p))
      | _ => false) = true := h0
    clear h0
    split at h
    case h_2 => exact ff h
    rename_i x y r p hx
    have := asBool_eq hx
    subst this
    obtain ⟨h1, h2⟩ := ands h
    clear h
    have w : PW X (.BoolOp .And (x :: y :: r) p) (tTe c W (evT prot cal sub (.and a b))) := by
      refine t_and (iha.t O h1).1 ?_
      cases r with
      | nil => exact pw_and1 (ihb.t O h2).1
      | cons z r => exact (ihb.t O h2).2 _ _ _ rfl
    exact ⟨w.pt, fun op vs q z => w⟩
theorem snd_or (a b : Ex) (iha : Snd G prot cal sub a) (ihb : Snd G prot cal sub b) : Snd G prot cal sub (.or a b) where
  l := fun O h => ff h
  o := fun O h => ff h
  i := fun O h => ff h
  n := fun O h => ff h
  e := fun {k c W X e} O h0 => by
    have h : (match asBool e with
      | some (.Or, x :: y :: r, p) => chkE G a k x && (match r with
        | [] => chkE G b k y
        | _ => chkE G b k (.BoolOp .Or (y :: r) p))
      | _ => false) = true := h0
    clear h0
    split at h
    case h_2 => exact ff h
    rename_i x y r p hx
    have := asBool_eq hx
    subst this
    obtain ⟨h1, h2⟩ := ands h
    clear h
    refine .mk' (fun _ z => by cases z) rfl (r_or (iha.e O h1).pe ?_)
    cases r with
    | nil => exact pe_one (ihb.e O h2).pe
    | cons z r => exact (ihb.e O h2).pe
  t := fun {k c W X e} O h0 => by
    have h : (match asBool e with
      | some (.Or, x :: y :: r, p) => chkT G a k x && (match r with
        | [] => chkT G b k y
        | _ => chkT G b k (.BoolOp .Or (y :: r) p))
      | _ => false) = true := h0
    clear h0
    split at h
    case h_2 => exact ff h
    rename_i x y r p hx
    have := asBool_eq hx
    subst this
    obtain ⟨h1, h2⟩ := ands h
    clear h
    have w : PW X (.BoolOp .Or (x :: y :: r) p) (tTe c W (evT prot cal sub (.or a b))) := by
      refine t_or (iha.t O h1).1 ?_
      cases r with
      | nil => exact pw_or1 (ihb.t O h2).1
      | cons z r => exact (ihb.t O h2).2 _ _ _ rfl
    exact ⟨w.pt, fun op vs q z => w⟩
/-- the built-ins -/
theorem r_bi (O : Okx G prot cal k c W X) {b : Bi} {x : Str} {f : Es → R (List Bv)} {a : Expr} {r : List Expr} {p pos : Pos} (hb : bnm b = some x) (hg : Gl X x) (hc : (k.calm || !needCalm b) = true) (ha : PA X (a :: r) (tBs c W f)) (h1 : noStar a = true) (h2 : r.all noStar = true) :
    PE X (.Call (.Name x p) (a :: r) [] pos) (tE c W fun e => (f e).bind fun bs e1 => match looks e1 bs with
      | some ds => retD (biD b ds) id e1
      | none => .bad) := by
  have fin : PE X (.Call (.Name x p) (a :: r) [] pos) (tCB (rO1 X.K (biD b)) (tBs c W f)) := by
    cases b with
    | len => cases hb; exact pe_callB bi_len hg (O.blt _ (by decide +kernel)) rfl ha (by decide) (by decide) (star_cons h1) (star_any h2)
    | abs => cases hb; exact pe_callB bi_abs hg (O.blt _ (by decide +kernel)) rfl ha (by decide) (by decide) (star_cons h1) (star_any h2)
    | int => cases hb; exact pe_callTy bi_int hg (O.blt _ (by decide +kernel)) rfl ha (by decide) (by decide) (star_cons h1) (star_any h2)
    | list => cases hb; exact pe_callTy bi_list hg (O.blt _ (by decide +kernel)) rfl ha (by decide) (by decide) (star_cons h1) (star_any h2)
    | tuple => cases hb; exact pe_callTy bi_tuple hg (O.blt _ (by decide +kernel)) rfl ha (by decide) (by decide) (star_cons h1) (star_any h2)
    | sum => cases hb; exact pe_callB (bi_sum (O.calm (by simpa [needCalm] using hc))) hg (O.blt _ (by decide +kernel)) rfl ha (by decide) (by decide) (star_cons h1) (star_any h2)
    | max => cases hb; exact pe_callB (bi_max (O.calm (by simpa [needCalm] using hc))) hg (O.blt _ (by decide +kernel)) rfl ha (by decide) (by decide) (star_cons h1) (star_any h2)
    | min => cases hb; exact pe_callB (bi_min (O.calm (by simpa [needCalm] using hc))) hg (O.blt _ (by decide +kernel)) rfl ha (by decide) (by decide) (star_cons h1) (star_any h2)
    | sorted => cases hb; exact pe_callB bi_sorted hg (O.blt _ (by decide +kernel)) rfl ha (by decide) (by decide) (star_cons h1) (star_any h2)
    | all => cases hb; exact pe_callB (bi_all (O.calm (by simpa [needCalm] using hc))) hg (O.blt _ (by decide +kernel)) rfl ha (by decide) (by decide) (star_cons h1) (star_any h2)
    | any => cases hb; exact pe_callB (bi_any (O.calm (by simpa [needCalm] using hc))) hg (O.blt _ (by decide +kernel)) rfl ha (by decide) (by decide) (star_cons h1) (star_any h2)
    | _ => cases hb
  refine Pv.PE.imp fin fun σ H Q h => ?_
  rw [← O.hK]
  exact bs_imp h
theorem snd_bi (b : Bi) (es : Ex) (ih : Snd G prot cal sub es) : Snd G prot cal sub (.bi b es) := .mkE (fun {k c W X e} O h => by
  have h : (match asCall e with
    | some (x, y :: ys) => decide (bnm b = some x) && (glB k.sc x && ((k.calm || !needCalm b) && chkL G es k (y :: ys)))
    | _ => false) = true := h
  split at h
  case h_2 => exact ff h
  rename_i x y ys hx
  obtain ⟨p, q, rfl⟩ := asCall_eq hx
  obtain ⟨h1, h⟩ := ands h
  obtain ⟨h2, h⟩ := ands h
  obtain ⟨h3, h4⟩ := ands h
  obtain ⟨a1, a2, a3⟩ := ih.l O h4
  obtain ⟨s1, s2⟩ := all_tail a3
  exact .mk' (fun _ z => by cases z) rfl (r_bi O (of_decide_eq_true h1) (O.gl h2) h3 a2 s1 s2)) (fun _ _ => rfl) (fun _ _ => rfl) (fun _ _ => rfl) (fun _ _ => rfl)
theorem isi_mem : ("isinstance" : Str) ∈ bnames := by decide +kernel
theorem range_mem : ("range" : Str) ∈ bnames := by decide +kernel
theorem isi_one (O : Okx G prot cal k c W X) {a : Ex} {t : Ty} {y z : Expr} {p q : Pos} (iha : Snd G prot cal sub a) (h2 : glB k.sc "isinstance" = true) (h3 : noStar y = true) (h5 : chkTys k.sc [t] [z] = true) (h6 : chkE G a k y = true) :
    PE X (.Call (.Name "isinstance" p) [y, z] [] q) (tE c W (evE prot cal sub (.isi a [t]))) := by
  obtain ⟨q1, q2⟩ := tys_ok O h5
  exact r_isi1 O.hK (O.gl h2) (O.blt _ isi_mem) (iha.e O h6).bo q1 (star_cons h3) (star_any q2)
theorem isi_tup (O : Okx G prot cal k c W X) {a : Ex} {ts : List Ty} {y : Expr} {zs : List Expr} {j : Nat} {p q pt : Pos} (iha : Snd G prot cal sub a) (h2 : glB k.sc "isinstance" = true) (h3 : noStar y = true) (h4 : ts.length ≤ 100) (h5 : chkTys k.sc ts zs = true) (h6 : chkE G a k y = true) :
    PE X (.Call (.Name "isinstance" p) [y, .Tuple zs j pt] [] q) (tE c W (evE prot cal sub (.isi a ts))) := by
  obtain ⟨q1, q2⟩ := tys_ok O h5
  exact r_isiT O.hK h4 (O.gl h2) (O.blt _ isi_mem) (iha.e O h6).bo q1 (star_cons h3) rfl rfl
theorem snd_isi (a : Ex) (ts : List Ty) (iha : Snd G prot cal sub a) : Snd G prot cal sub (.isi a ts) := .mkE (fun {k c W X e} O h0 => by
  have tup : (match asCall e with
      | some (x, [y, z]) => (match asTup z with
        | some zs => decide (x = ("isinstance" : Str)) && (glB k.sc x && (noStar y && (decide (ts.length ≤ 100) && (chkTys k.sc ts zs && chkE G a k y))))
        | none => false)
      | _ => false) = true → SE prot cal sub c W X (.isi a ts) e := fun h => by
    clear h0
    split at h
    case h_2 => exact ff h
    rename_i x y z hx
    obtain ⟨p, q, rfl⟩ := asCall_eq hx
    split at h
    case h_2 => exact ff h
    rename_i zs hz
    obtain ⟨j, pt, rfl⟩ := asTup_eq hz
    obtain ⟨h1, h⟩ := ands h
    obtain ⟨h2, h⟩ := ands h
    obtain ⟨h3, h⟩ := ands h
    obtain ⟨h4, h⟩ := ands h
    obtain ⟨h5, h6⟩ := ands h
    cases of_decide_eq_true h1
    exact .mk' (fun _ z => by cases z) rfl (isi_tup O iha h2 h3 (of_decide_eq_true h4) h5 h6)
  match ts, h0, tup with
  | [], h0, tup => exact tup h0
  | [t], h0, tup =>
    have h : (match asCall e with
      | some (x, [y, z]) => decide (x = ("isinstance" : Str)) && (glB k.sc x && (noStar y && (noStar z && (chkTys k.sc [t] [z] && chkE G a k y))))
      | _ => false) = true := h0
    clear h0 tup
    split at h
    case h_2 => exact ff h
    rename_i x y z hx
    obtain ⟨p, q, rfl⟩ := asCall_eq hx
    obtain ⟨h1, h⟩ := ands h
    obtain ⟨h2, h⟩ := ands h
    obtain ⟨h3, h⟩ := ands h
    obtain ⟨h4, h⟩ := ands h
    obtain ⟨h5, h6⟩ := ands h
    cases of_decide_eq_true h1
    exact .mk' (fun _ z => by cases z) rfl (isi_one O iha h2 h3 h5 h6)
  | t :: t' :: ts, h0, tup => exact tup h0) (fun _ _ => rfl) (fun _ _ => rfl) (fun _ _ => rfl) (fun _ _ => rfl)
end
end Pv
set_option maxRecDepth 100000
set_option maxHeartbeats 4000000
namespace Pv
open PySem PySem.Spec PyProof.Rows L2
section
variable {G : Gx} {prot : Nat → Nat → Bool} {cal : Nat → List Sl → R Sl} {sub : Nat → Nat → Bool} {k : Ck} {c : Cn} {W : WX} {X : Cx}
theorem snd_nil : Snd G prot cal sub .nil where
  e := fun O h => ff h
  t := fun O h => ff h
  o := fun O h => ff h
  i := fun O h => ff h
  n := fun O h => ff h
  l := fun {k c W X es} O h => by
    cases es with
    | nil => exact ⟨v_nil, b_nil, rfl⟩
    | cons x xs => exact ff h
theorem snd_cons (a r : Ex) (iha : Snd G prot cal sub a) (ihr : Snd G prot cal sub r) : Snd G prot cal sub (.cons a r) where
  e := fun O h => ff h
  t := fun O h => ff h
  o := fun O h => ff h
  i := fun O h => ff h
  n := fun O h => ff h
  l := fun {k c W X es} O h => by
    cases es with
    | nil => exact ff h
    | cons x xs =>
      have h : (noStar x && (chkE G a k x && chkL G r k xs)) = true := h
      obtain ⟨h1, h⟩ := ands h
      obtain ⟨h2, h3⟩ := ands h
      obtain ⟨q1, q2, q3⟩ := ihr.l O h3
      have S := iha.e O h2
      refine ⟨v_cons (r_fz S.pe) q1 (star_cons h1), b_cons S.bo q2 (star_cons h1), ?_⟩
      rw [List.all_cons, h1, q3]
      rfl
theorem snd_onone : Snd G prot cal sub .no where
  e := fun O h => ff h
  t := fun O h => ff h
  l := fun O h => ff h
  i := fun O h => ff h
  n := fun O h => ff h
  o := fun {k c W X e} O h => by
    cases e with
    | none => exact o_none
    | some x => exact ff h
theorem snd_opt (a : Ex) (iha : Snd G prot cal sub a) : Snd G prot cal sub (.opt a) where
  e := fun O h => ff h
  t := fun O h => ff h
  l := fun O h => ff h
  i := fun O h => ff h
  n := fun O h => ff h
  o := fun {k c W X e} O h => by
    cases e with
    | none => exact ff h
    | some x => exact o_some (iha.e O (show chkE G a k x = true from h)).pe
theorem snd_range1 (a : Ex) (iha : Snd G prot cal sub a) : Snd G prot cal sub (.range1 a) where
  e := fun O h => ff h
  t := fun O h => ff h
  l := fun O h => ff h
  o := fun O h => ff h
  n := fun O h => ff h
  i := fun {k c W X e} O h0 tg _ => by
    have h : (match asCall e with
      | some (x, [y]) => decide (x = ("range" : Str)) && (glB k.sc x && (noStar y && chkE G a k y))
      | _ => false) = true := h0
    clear h0
    split at h
    case h_2 => exact ff h
    rename_i x y hx
    obtain ⟨p, q, rfl⟩ := asCall_eq hx
    obtain ⟨h1, h⟩ := ands h
    obtain ⟨h2, h⟩ := ands h
    obtain ⟨h3, h4⟩ := ands h
    cases of_decide_eq_true h1
    exact i_range1 (fun i z => by cases z) (O.gl h2) (O.blt _ range_mem) (iha.e O h4).pe (star_cons h3) (star_cons h3)
theorem snd_range2 (a b : Ex) (iha : Snd G prot cal sub a) (ihb : Snd G prot cal sub b) : Snd G prot cal sub (.range2 a b) where
  e := fun O h => ff h
  t := fun O h => ff h
  l := fun O h => ff h
  o := fun O h => ff h
  n := fun O h => ff h
  i := fun {k c W X e} O h0 tg _ => by
    have h : (match asCall e with
      | some (x, [y, z]) => decide (x = ("range" : Str)) && (glB k.sc x && (noStar y && (noStar z && (chkE G a k y && chkE G b k z))))
      | _ => false) = true := h0
    clear h0
    split at h
    case h_2 => exact ff h
    rename_i x y z hx
    obtain ⟨p, q, rfl⟩ := asCall_eq hx
    obtain ⟨h1, h⟩ := ands h
    obtain ⟨h2, h⟩ := ands h
    obtain ⟨h3, h⟩ := ands h
    obtain ⟨h4, h⟩ := ands h
    obtain ⟨h5, h6⟩ := ands h
    cases of_decide_eq_true h1
    have e2 : starEach [z] X.env = [(false, eval z X.env)] := star_cons h4
    exact i_range2 (O.gl h2) (O.blt _ range_mem) (iha.e O h5).pe (ihb.e O h6).pe (star_cons h3) (star_cons h4) (by rw [star_cons h3, e2]) e2
/-- a whole number of the module -/
theorem snd_gl (x : Str) (d : Pv.D) : Snd G prot cal sub (.gl x d) := .mkE (fun {k c W X e} O h => by
  cases d with
  | int i =>
    have h : (decide (asName e = some x) && (glB k.sc x && (noDb x && decide ((x, i) ∈ G.gls)))) = true := h
    obtain ⟨h1, h⟩ := ands h
    obtain ⟨h2, h⟩ := ands h
    obtain ⟨h3, h4⟩ := ands h
    obtain ⟨p, rfl⟩ := asName_eq (of_decide_eq_true h1)
    obtain ⟨t, hm⟩ := O.gls x i (of_decide_eq_true h4)
    have hd : (x == ("__debug__" : Str)) = false := by simpa using (ands h3).1
    exact se_con (d := .int i) (v := .int i) (fun _ z => by cases z) rfl (pe_glob (O.gl h2) hm ⟨t, rfl⟩ hd) (fun _ => rfl) fun Z H => mk_int i
  | _ => exact ff h) (fun _ _ => rfl) (fun _ _ => rfl) (fun _ _ => rfl) (fun _ _ => rfl)
theorem enum_mem : ("enumerate" : Str) ∈ bnames := by decide +kernel
theorem snd_enum (a : Ex) (iha : Snd G prot cal sub a) : Snd G prot cal sub (.enum a) where
  e := fun O h => ff h
  t := fun O h => ff h
  l := fun O h => ff h
  o := fun O h => ff h
  n := fun O h => ff h
  i := fun {k c W X e} O h0 tg ht => by
    have h : (match asCall e with
      | some (x, [y]) => decide (x = ("enumerate" : Str)) && (glB k.sc x && (noStar y && chkE G a k y))
      | _ => false) = true := h0
    clear h0
    split at h
    case h_2 => exact ff h
    rename_i x y hx
    obtain ⟨p, q, rfl⟩ := asCall_eq hx
    obtain ⟨h1, h⟩ := ands h
    obtain ⟨h2, h⟩ := ands h
    obtain ⟨h3, h4⟩ := ands h
    cases of_decide_eq_true h1
    have ht : isTupE tg = true := ht
    cases tg with
    | Tuple elts kk tpos => exact i_enum (O.gl h2) (O.blt _ enum_mem) O.hK (iha.e O h4).pe (star_cons h3) (star_cons h3)
    | _ => exact ff ht
theorem zip_mem : ("zip" : Str) ∈ bnames := by decide +kernel
theorem snd_zip (a b : Ex) (iha : Snd G prot cal sub a) (ihb : Snd G prot cal sub b) : Snd G prot cal sub (.zip a b) where
  e := fun O h => ff h
  t := fun O h => ff h
  l := fun O h => ff h
  o := fun O h => ff h
  n := fun O h => ff h
  i := fun {k c W X e} O h0 tg ht => by
    have h : (match asCall e with
      | some (x, [y, z]) => decide (x = ("zip" : Str)) && (glB k.sc x && (noStar y && (noStar z && (chkE G a k y && chkE G b k z))))
      | _ => false) = true := h0
    clear h0
    split at h
    case h_2 => exact ff h
    rename_i x y z hx
    obtain ⟨p, q, rfl⟩ := asCall_eq hx
    obtain ⟨h1, h⟩ := ands h
    obtain ⟨h2, h⟩ := ands h
    obtain ⟨h3, h⟩ := ands h
    obtain ⟨h4, h⟩ := ands h
    obtain ⟨h5, h6⟩ := ands h
    cases of_decide_eq_true h1
    have ht : isTupE tg = true := ht
    cases tg with
    | Tuple elts kk tpos => exact i_zip (O.gl h2) (O.blt _ zip_mem) O.hK (iha.e O h5).pe (ihb.e O h6).pe (star_cons h3) (star_cons h4) (star_any (by simp [h4]))
    | _ => exact ff ht
theorem snd_itv (a : Ex) (iha : Snd G prot cal sub a) : Snd G prot cal sub (.itv a) where
  e := fun O h => ff h
  t := fun O h => ff h
  l := fun O h => ff h
  o := fun O h => ff h
  n := fun O h => ff h
  i := fun {k c W X e} O h tg _ => by
    have h : chkE G a k e = true := h
    by_cases hv : ∃ i, a = .var i
    · obtain ⟨i, rfl⟩ := hv
      have h : (match asName e with
        | some x => nmOk k i x
        | none => false) = true := h
      split at h
      case h_2 => exact ff h
      rename_i x hx
      obtain ⟨p, rfl⟩ := asName_eq hx
      exact i_itvv O.hK (O.var h) prot cal sub
    · exact i_itv (fun i z => hv ⟨i, z⟩) O.hK (iha.e O h).pe
theorem snd_pop (i : Nat) : Snd G prot cal sub (.pop i) := .mkE (fun {k c W X e} O h0 => by
  have h : (match asMeth e with
    | some (x, n, []) => decide (n = ("pop" : Str)) && nmOk k i x
    | _ => false) = true := h0
  clear h0
  split at h
  case h_2 => exact ff h
  rename_i x n hx
  obtain ⟨r, p, q, rfl, hl⟩ := asMeth_eq hx
  obtain ⟨h1, h2⟩ := ands h
  cases of_decide_eq_true h1
  exact .mk' (fun _ z => by cases z) rfl (r_pop (pe_bm0 PySem.F.plainAttrs_list PySem.F.slot_list_pop PySem.F.type_list_pop mt_pop (O.var h2) rfl hl) prot cal sub)) (fun _ _ => rfl) (fun _ _ => rfl) (fun _ _ => rfl) (fun _ _ => rfl)
theorem few_one {x : Expr} {q : Pos} {env : PySem.Env} (h : noStar x = true) : ((backTo q (starEach [x] env)).all (fun x => !x.1) && (backToKw q (keywordEach [] env)).all (fun x => x.1.isSome) && decide ([x].length + ([] : List Keyword).length + (if ([] : List Keyword).isEmpty then 0 else 1) < 30)) = true := by
  rw [star_cons h]
  rfl
theorem snd_pop0 (i : Nat) (a : Ex) (iha : Snd G prot cal sub a) : Snd G prot cal sub (.pop0 i a) := .mkE (fun {k c W X e} O h0 => by
  have h : (match asMeth e with
    | some (x, n, [y]) => decide (n = ("pop" : Str)) && (nmOk k i x && (noStar y && chkE G a k y))
    | _ => false) = true := h0
  clear h0
  split at h
  case h_2 => exact ff h
  rename_i x n y hx
  obtain ⟨r, p, q, rfl, hl⟩ := asMeth_eq hx
  obtain ⟨h1, h⟩ := ands h
  obtain ⟨h2, h⟩ := ands h
  obtain ⟨h3, h4⟩ := ands h
  cases of_decide_eq_true h1
  exact .mk' (fun _ z => by cases z) rfl (r_pop0 (pe_bm PySem.F.plainAttrs_list PySem.F.slot_list_pop PySem.F.type_list_pop mt_popAt (O.var h2) (pa_cons (iha.e O h4).pe pa_nil (star_cons h3)) rfl (few_one h3) hl (star_cons h3) rfl))) (fun _ _ => rfl) (fun _ _ => rfl) (fun _ _ => rfl) (fun _ _ => rfl)
/-! comprehensions -/
theorem putT_is (tg : Tg) : (fun (x : D) (e : Es) => putT tg (.val x) e) = fun x e => (putT tg) (.val x) e := rfl
structure LcOk (c : Cn) (W : WX) (X : Cx) (tg' it' elt' : Expr) (ifs : List Expr) (sc : Scope) (own : List (Str × Nat)) (prot : Nat → Nat → Bool) (cal : Nat → List Sl → R Sl) (sub : Nat → Nat → Bool) (tg : Tg) (it cd elt : Ex) : Prop where
  ex : ∃ g, PI X tg' it' (tI c W it (evI prot cal sub it)) ∧ BlkOk X.N X.env.scope sc own ∧ GP c tg.ns g (putT tg) ∧ own.map (·.2) = tg.ns ∧
    (∀ (s : Shared) (H : Hp) (C : Addr) (cl : List (Str × Addr)) (fp : List Addr), PG (X.blk s H sc (compEnvC sc cl C X.env) fp) tg' g) ∧ (∀ (s : Shared) (H : Hp) (C : Addr) (cl : List (Str × Addr)) (fp : List Addr), PTs (X.blk s H sc (compEnvC sc cl C X.env) fp) ifs (tTe c W0 (evT prot cal sub cd))) ∧
    (∀ (s : Shared) (H : Hp) (C : Addr) (cl : List (Str × Addr)) (fp : List Addr), PE (X.blk s H sc (compEnvC sc cl C X.env) fp) elt' (tV c W0 fun e => (evE prot cal sub elt e).fz)) ∧ (∀ x, foldedSetIterable it' X.env x = pure x) ∧ X.calm = true
theorem PTs.imp {X : Cx} {es : List Expr} {t t' : TT} (h : PTs X es t) (i : ∀ σ H Q, t' σ H Q → t σ H Q) : PTs X es t' := ⟨fun pins s σ H Q I q => h.run pins s σ H Q I (i σ H Q q)⟩
theorem lc_ok (tg : Tg) (it cd elt : Ex) (ihi : Snd G prot cal sub it) (ihc : Snd G prot cal sub cd) (ihe : Snd G prot cal sub elt) (O : Okx G prot cal k c W X) {tg' it' elt' : Expr} {ifs : List Expr} {sc : Scope}
    (h : (k.calm && (noSet it' && (blkC k.N k.sc sc (ownN k tg.ns) && (decide ((ownN k tg.ns).map (·.2) = tg.ns) && (chkTg (k.blk sc) tg tg' && ((chkI G it k it' && tgOk it tg') && (condB cd ifs (fun t => chkT G cd (k.blk sc) t) && chkE G elt (k.blk sc) elt'))))))) = true) : LcOk c W X tg' it' elt' ifs sc (ownN k tg.ns) prot cal sub tg it cd elt := by
  obtain ⟨h1, h⟩ := ands h
  obtain ⟨h2, h⟩ := ands h
  obtain ⟨h3, h⟩ := ands h
  obtain ⟨h4, h⟩ := ands h
  obtain ⟨h5, h⟩ := ands h
  obtain ⟨h6, h⟩ := ands h
  obtain ⟨h7, h8⟩ := ands h
  have bk := fun (s : Shared) (H : Hp) (C : Addr) (cl : List (Str × Addr)) (fp : List Addr) => O.blk (s := s) (H := H) (C := C) (cl := cl) (fp := fp) h3
  -- one target's reading serves all blocks
  have tgs : ∃ g, (∀ (s : Shared) (H : Hp) (C : Addr) (cl : List (Str × Addr)) (fp : List Addr), PG (X.blk s H sc (compEnvC sc cl C X.env) fp) tg' g) ∧ GP c tg.ns g (putT tg) := by
    cases tg with
    | one i =>
      simp only [chkTg] at h5
      split at h5
      · rename_i x hx
        obtain ⟨p, rfl⟩ := asName_eq hx
        refine ⟨gName i, fun s H C cl fp => st_pg (bk s H C cl fp) h5, gp_one ?_⟩
        obtain ⟨_, h5⟩ := ands h5
        rw [O.pr]
        simpa [Ck.blk] using (ands h5).2
      · cases h5
    | tup is =>
      simp only [chkTg] at h5
      split at h5
      · rename_i es hx
        obtain ⟨j, p, rfl⟩ := asTup_eq hx
        obtain ⟨g1, g2⟩ := ands h5
        have pr : ∀ {is : List Nat} {es : List Expr}, chkNs (k.blk sc) is es = true → ∀ i ∈ is, c.pr i = false := by
          intro is
          induction is with
          | nil => intro es _ i hi; cases hi
          | cons j is ih =>
            intro es h i hi
            cases es with
            | nil => cases h
            | cons e es =>
              simp only [chkNs] at h
              split at h
              · obtain ⟨q1, q2⟩ := ands h
                rcases List.mem_cons.mp hi with z | hi
                · rw [z, O.pr]
                  have := (ands (ands q1).2).2
                  simpa [Ck.blk] using this
                · exact ih q2 i hi
              · cases h
        refine ⟨gTup c.K is.length (gNames is), fun s H C cl fp => ?_, gp_tup (pr g2)⟩
        obtain ⟨q1, q2, q3, _⟩ := names_ok (bk s H C cl fp) g2
        rw [O.hK]
        exact pg_tup (O.calm h1) q1 q2 q3
      · cases h5
  obtain ⟨g, tg1, tg2⟩ := tgs
  refine ⟨g, ihi.i O (ands h6).1 tg' (ands h6).2, ?_, tg2, of_decide_eq_true h4, tg1, fun s H C cl fp => ?_, fun s H C cl fp => r_fz (ihe.e (bk s H C cl fp) h8).pe, fold_no h2, O.calm h1⟩
  · rw [O.hN, O.sc]
    exact blkOk_by h3
  · have B := bk s H C cl fp
    have two : ∀ {t : Expr}, chkT G cd (k.blk sc) t = true → ifs = [t] → PTs (X.blk s H sc (compEnvC sc cl C X.env) fp) ifs (tTe c W0 (evT prot cal sub cd)) := fun {t} q z => by
      rw [z]
      exact pts_one (ihc.t B q).1
    cases ifs with
    | nil =>
      cases cd <;> first
        | exact ff h7
        | exact PTs.imp pts_nil fun σ H Q ⟨e, Z, E, p⟩ => Post.ok_now (show Post c W0 σ e Z H (.ok true e) _ from p) E
    | cons t r =>
      cases r with
      | nil => exact two h7 rfl
      | cons t2 r => exact ff h7
theorem snd_comp (tg : Tg) (it cd elt : Ex) (ihi : Snd G prot cal sub it) (ihc : Snd G prot cal sub cd) (ihe : Snd G prot cal sub elt) : Snd G prot cal sub (.comp tg it cd elt) := .mkE (fun {k c W X e} O h0 => by
  have h : (match asLc e with
    | some (elt', tg', it', ifs, sc) => k.calm && (noSet it' && (blkC k.N k.sc sc (ownN k tg.ns) && (decide ((ownN k tg.ns).map (·.2) = tg.ns) && (chkTg (k.blk sc) tg tg' && ((chkI G it k it' && tgOk it tg') && (condB cd ifs (fun t => chkT G cd (k.blk sc) t) && chkE G elt (k.blk sc) elt'))))))
    | none => false) = true := h0
  clear h0
  split at h
  case h_2 => exact ff h
  rename_i elt' tg' it' ifs sc hx
  obtain ⟨p, rfl⟩ := asLc_eq hx
  obtain ⟨g, q1, q2, q3, q4, q5, q6, q7, q8, q9⟩ := (lc_ok tg it cd elt ihi ihc ihe O h).ex
  refine .mk' (fun _ z => by cases z) rfl (Pv.PE.imp (pe_lc q9 O.nd q1 q2 q5 q6 q7 q8) fun σ H Q h => ?_)
  rw [q4]
  exact lc_imp q3 σ H Q h) (fun _ _ => rfl) (fun _ _ => rfl) (fun _ _ => rfl) (fun _ _ => rfl)
theorem snd_fld (i : Nat) : Snd G prot cal sub (.fld i) := .mkE (fun {k c W X e} O h0 => by
  have h : (match asAttr e with
    | some (x, n) => decide (k.xs = some (i, n)) && nmOk k i x
    | none => false) = true := h0
  clear h0
  split at h
  case h_2 => exact ff h
  rename_i x n hx
  obtain ⟨r, p, rfl⟩ := asAttr_eq hx
  obtain ⟨h1, h2⟩ := ands h
  have hv := O.var (p := r) h2
  obtain ⟨a, cl, dx, X0, oe, pn, rfl, q1, q2, q3, q4, q5, q6, q7, q8⟩ := (O.xs i n (of_decide_eq_true h1)).ex
  exact .mk' (fun _ z => by cases z) rfl (r_fld q4 q6 q2 q3 hv q1 q7 rfl prot cal sub)) (fun _ _ => rfl) (fun _ _ => rfl) (fun _ _ => rfl) (fun _ _ => rfl)
theorem snd_isx (i j : Nat) : Snd G prot cal G.sub (.isx i j) := .mkE (fun {k c W X e} O h0 => by
  have h : (match asCall e with
    | some (f, [y, z]) => (match asName y, asName z, k.xs with
      | some x, some w, some (i', _) => decide (f = ("isinstance" : Str)) && (glB k.sc f && (decide (i' = i) && (nmOk k i x && (decide (G.cls[j]? = some w) && (glB k.sc w && noDb w)))))
      | _, _, _ => false)
    | _ => false) = true := h0
  clear h0
  split at h
  case h_2 => exact ff h
  rename_i f y z hx
  obtain ⟨p, q, rfl⟩ := asCall_eq hx
  split at h
  case h_2 => exact ff h
  rename_i x w i' n hy hz hxs
  obtain ⟨r, rfl⟩ := asName_eq hy
  obtain ⟨r2, rfl⟩ := asName_eq hz
  obtain ⟨h1, h⟩ := ands h
  obtain ⟨h2, h⟩ := ands h
  obtain ⟨h3, h⟩ := ands h
  obtain ⟨h4, h⟩ := ands h
  obtain ⟨h5, h⟩ := ands h
  obtain ⟨h6, h7⟩ := ands h
  cases of_decide_eq_true h1
  cases of_decide_eq_true h3
  have hv := O.var (p := r) h4
  have hg := O.gl h2
  have hw := O.gl h6
  have hm := O.blt _ isi_mem
  obtain ⟨a, cl, dx, X0, oe, pn, rfl, q1, q2, q3, q4, q5, q6, q7, q8⟩ := (O.xs _ n hxs).ex
  obtain ⟨k1, k2⟩ := q8 j w (of_decide_eq_true h5)
  have hd : (w == ("__debug__" : Str)) = false := by simpa using (ands h7).1
  exact .mk' (fun _ z => by cases z) rfl (r_isx q5 q2 q3 k1 hg hm hv (pe_glob hw k2 rfl hd) q1 rfl rfl rfl prot cal)) (fun _ _ => rfl) (fun _ _ => rfl) (fun _ _ => rfl) (fun _ _ => rfl)
/-- THE EXPRESSIONS -/
theorem snd : ∀ x : Ex, Snd G prot cal G.sub x
  | .var i => snd_var i
  | .int i => snd_int i
  | .bl b => snd_bl b
  | .non => snd_non
  | .str s => snd_str s
  | .gl x d => snd_gl x d
  | .bin o a b => snd_bin o a b (snd a) (snd b)
  | .neg a => snd_neg a (snd a)
  | .not a => snd_not a (snd a)
  | .and a b => snd_and a b (snd a) (snd b)
  | .or a b => snd_or a b (snd a) (snd b)
  | .cmp o a b => snd_cmp o a b (snd a) (snd b)
  | .cmp2 o o' a b d => snd_cmp2 o o' a b d (snd a) (snd b) (snd d)
  | .cmp3 .. => .no (fun _ _ => rfl) (fun _ _ => rfl) (fun _ _ => rfl) (fun _ _ => rfl) (fun _ _ => rfl)
  | .isC n q a => snd_isC n q a (snd a)
  | .ite t a b => snd_ite t a b (snd t) (snd a) (snd b)
  | .nil => snd_nil
  | .cons a r => snd_cons a r (snd a) (snd r)
  | .tup es => snd_tup es (snd es)
  | .lst es => snd_lst es (snd es)
  | .ix a b => snd_ix a b (snd a) (snd b)
  | .sl a lo hi => snd_sl a lo hi (snd a) (snd lo) (snd hi)
  | .no => snd_onone
  | .call f es => snd_call f es (snd es)
  | .bi b es => snd_bi b es (snd es)
  | .isi a ts => snd_isi a ts (snd a)
  | .comp tg it cd elt => snd_comp tg it cd elt (snd it) (snd cd) (snd elt)
  | .comp2 .. => .no (fun _ _ => rfl) (fun _ _ => rfl) (fun _ _ => rfl) (fun _ _ => rfl) (fun _ _ => rfl)
  | .yes => .no (fun _ _ => rfl) (fun _ _ => rfl) (fun _ _ => rfl) (fun _ _ => rfl) (fun _ _ => rfl)
  | .tst a => snd_tst a (snd a)
  | .opt a => snd_opt a (snd a)
  | .itv a => snd_itv a (snd a)
  | .pop i => snd_pop i
  | .pop0 i a => snd_pop0 i a (snd a)
  | .fld i => snd_fld i
  | .isx i j => snd_isx i j
  | .range1 a => snd_range1 a (snd a)
  | .range2 a b => snd_range2 a b (snd a) (snd b)
  | .range3 .. => .no (fun _ _ => rfl) (fun _ _ => rfl) (fun _ _ => rfl) (fun _ _ => rfl) (fun _ _ => rfl)
  | .enum a => snd_enum a (snd a)
  | .zip a b => snd_zip a b (snd a) (snd b)
end
end Pv
set_option maxRecDepth 100000
set_option maxHeartbeats 4000000
namespace Pv
open PySem PySem.Spec PyProof.Rows L2
/-! ## Statements against the tree -/
def noTup : Expr → Bool
  | .Tuple .. => false
  | _ => true
theorem stores_no {e t : Expr} {env : PySem.Env} (h : noTup e = true) : swappedStores [t] e env = pure none := by
  cases e <;> first | (cases h; done) | (cases t <;> rfl)
theorem stores_sub {a i e : Expr} {p : Pos} {env : PySem.Env} : swappedStores [.Subscript a i p] e env = pure none := by
  cases e <;> rfl
/-- no pair's or triple's stores in a row: by the value, by the target, by constants -/
def foldT : Expr → Bool
  | .Tuple vs _ _ => vs.all (foldedForSure 8) && vs.all noStar
  | _ => false
def noSwap (t e : Expr) : Bool := noTup e || ((asName t).isSome || foldT e)
theorem stores_ns {e t : Expr} {env : PySem.Env} (h : noSwap t e = true) : swappedStores [t] e env = pure none := by
  rcases Bool.or_eq_true_iff.mp h with h | h
  · exact stores_no h
  · rcases Bool.or_eq_true_iff.mp h with h | h
    · cases t <;> first | rfl | cases h
    · cases e with
      | Tuple vs q p =>
        obtain ⟨h1, h2⟩ := Bool.and_eq_true_iff.mp (show (vs.all (foldedForSure 8) && vs.all noStar) = true from h)
        have go : ∀ ts : List Expr, (do
            if !(ts.length == 2 || ts.length == 3) || vs.length != ts.length || env.blockKind != .function then return none
            if vs.any fun | .Starred .. => true | _ => false then return none
            let line := (ts.head?.map (·.pos.line)).getD 0
            let names := ts.filterMap fun
              | .Name id pos => if env.kindOf id == some .local && pos.line == line then some id else none
              | _ => none
            if names.length != ts.length || names.eraseDups.length != names.length then return none
            if vs.all (foldedForSure 8) then return none
            if vs.all (constantsAlone 8) then unsupported "assign.tuple-of-constant-expressions:order-of-the-stores"
            return some names : Sem (Option (List Str))) = pure none := fun ts => by
          simp only [h1, if_true]
          repeat' split
          all_goals rfl
        cases t with
        | Tuple ts _ _ => exact go ts
        | List ts _ => exact go ts
        | _ => rfl
      | _ => cases h
theorem asn_one {t : Expr} {env : PySem.Env} (h : noStar t = true) : (assignEach [t] env).map (·.2) = [assign t env] := by
  cases t <;> first | rfl | cases h
theorem asn_sub {o i : Expr} {pos : Pos} {env : PySem.Env} (h : noSlice i = true) : ∀ v, assign (.Subscript o i pos) env v = (do
      let ov ← holding [v] (eval o env)
      let iv ← holding [v, ov] (eval i env)
      standAt pos
      holding [v, ov, iv] (setItem ov iv v)
      release [v, ov, iv] []) := by
  intro v
  cases i <;> first | rfl | cases h
def isVarX : Ex → Bool
  | .var _ => true
  | _ => false
def augOp : Bop → Option Operator
  | .add => some .Add
  | .sub => some .Sub
  | _ => none
/-- name = [..] -/
def chkAsgLc (G : Gx) (k : Ck) (i : Nat) (tg : Tg) (it c elt : Ex) (t e : Expr) : Bool := match t, e with
  | .Name y py, .ListComp elt' [⟨tg', it', ifs, 0⟩] sc pos => stB k i y && ((py.line == pos.line) && (!(sc.names.any fun (n, q) => n == y && (q == .local || q == .cell)) && chkE G (.comp tg it c elt) k e))
  | _, _ => false
/-- .. a cell's -/
def chkAsgCe (G : Gx) (k : Ck) (i : Nat) (a : Ex) (t e : Expr) : Bool := match t, e with
  | .Name y _, .ListComp .. => stC k i y && (decide (k.sc.names.lookup y = some .cell) && chkE G a k e)
  | _, _ => false
def kX (k : Ck) (i : Nat) (n : Str) : Ck := { k with calm := false, xs := some (i, n) }
def kU (k : Ck) : Ck := { k with calm := false, xs := none }
/-- the one field of all classes that clause c catches -/
def fldOf (G : Gx) (c : Nat) : Option Str := match (List.range G.cls.length).filter fun i => G.sub i c with
  | [] => none
  | i :: r => match G.fld[i]? with
    | some n => if r.all (fun j => decide (G.fld[j]? = some n)) then some n else none
    | none => none
/-- plain local names of one row, things that are no constants alone -/
def parN (k : Ck) (l : Nat) : List Nat → List (Str × Pos) → Bool
  | [], [] => true
  | i :: is, (x, p) :: xs => stB k i x && ((p.line == l) && parN k l is xs)
  | _, _ => false
def parB (k : Ck) (is : List Nat) (xs : List (Str × Pos)) (l : Nat) (es : List Expr) : Bool := k.calm && (decide is.Nodup && (decide (xs.map (·.1)).Nodup && (parN k l is xs && (es.all noStar && (!(es.all (foldedForSure 8)) && !(es.all (constantsAlone 8)))))))
section
variable (G : Gx)
mutual
def chkS : Sta → Ck → Stmt → Bool
  | .nop, _, s => (match s with
    | .Pass _ => true
    | _ => false)
  | .asg tg a, k, s => (match s with
    | .Assign [t] e _ => (match a, tg with
      | .comp tg' it c elt, .one i => chkAsgLc G k i tg' it c elt t e || chkAsgCe G k i (.comp tg' it c elt) t e
      | _, _ => chkTg k tg t && (noStar t && (noLC e && (noSwap t e && chkE G a k e))))
    | _ => false)
  | .setIx i b a, k, s => (match s with
    | .Assign [.Subscript (.Name x _) ix _] e _ => nmOk k i x && (noSlice ix && (noLC e && (chkE G a k e && chkE G b k ix)))
    | _ => false)
  | .aug i o a, k, s => (match s with
    | .AugAssign (.Name x _) op e _ => stC k i x && (decide (augOp o = some op) && chkE G a k e)
    | _ => false)
  | .par is es, k, s => (match is, s with
    | [i, j], .Assign [.Tuple [.Name x px, .Name y py] _ _] (.Tuple [e, e'] _ _) _ => parB k [i, j] [(x, px), (y, py)] px.line [e, e'] && chkL G es k [e, e']
    | [i, j, l], .Assign [.Tuple [.Name x px, .Name y py, .Name z pz] _ _] (.Tuple [e, e', e2] _ _) _ => parB k [i, j, l] [(x, px), (y, py), (z, pz)] px.line [e, e', e2] && chkL G es k [e, e', e2]
    | _, _ => false)
  | .expr a, k, s => (match s with
    | .Expr e _ => noLC e && chkE G a k e
    | _ => false)
  | .append i a, k, s => (match s with
    | .Expr e _ => (match asMeth e with
      | some (x, n, [y]) => decide (n = ("append" : Str)) && (nmOk k i x && (noStar y && chkE G a k y))
      | _ => false)
    | _ => false)
  | .reverse i, k, s => (match s with
    | .Expr e _ => (match asMeth e with
      | some (x, n, []) => decide (n = ("reverse" : Str)) && nmOk k i x
      | _ => false)
    | _ => false)
  | .ite c a b, k, s => (match s with
    | .If t x y _ => chkT G c k t && (chkB a k x && chkB b k y)
    | _ => false)
  | .for_ tg it b, k, s => (match s with
    | .For t i x [] _ => k.calm && (noSet i && (chkTg k tg t && ((chkI G it k i && tgOk it t) && chkB b k x)))
    | _ => false)
  | .while_ c b, k, s => (match s with
    | .While t x [] _ => chkT G c k t && chkB b k x
    | _ => false)
  | .ret a, k, s => (match s with
    | .Return (some e) _ => chkE G a k e
    | _ => false)
  | .ret0, _, s => (match s with
    | .Return none _ => true
    | _ => false)
  | .raise c a, k, s => (match s with
    | .Raise (some (.Call (.Name x _) [y] [] _)) none _ => k.calm && (decide (G.cls[c]? = some x) && (glB k.sc x && (noDb x && (noStar y && (G.rs.contains c && chkE G a k y)))))
    | _ => false)
  | .brk, _, s => (match s with
    | .Break _ => true
    | _ => false)
  | .cont, _, s => (match s with
    | .Continue _ => true
    | _ => false)
  | .try_ b h, k, s => (match s with
    | .Try x (h0 :: hs) [] [] _ => k.calm && (decide (k.xs = none) && (chkB b k x && chkH h k (h0 :: hs)))
    | _ => false)
  | _, _, _ => false
def chkB : Sta → Ck → List Stmt → Bool
  | .nop, _, ss => (match ss with
    | [] => true
    | _ => false)
  | .seq a b, k, ss => (match ss with
    | s :: r => chkS a k s && chkB b k r
    | [] => false)
  | _, _, _ => false
def chkH : Sta → Ck → List ExceptHandler → Bool
  | .hnil, _, hs => (match hs with
    | [] => true
    | _ => false)
  | .hcons c n b r, k, hs => (match hs with
    | .ExceptHandler (some (.Name x _)) nm (s0 :: ss) _ :: hs' => decide (G.cls[c]? = some x) && (glB k.sc x && (noDb x && ((match n, nm with
        | none, none => chkB b (kU k) (s0 :: ss)
        | some i, some y => stB k i y && (match fldOf G c with
          | some f => chkB b (kX k i f) (s0 :: ss)
          | none => false)
        | _, _ => false) && chkH r k hs')))
    | _ => false)
  | _, _, _ => false
end
end
end Pv
set_option maxRecDepth 100000
set_option maxHeartbeats 4000000
namespace Pv
open PySem PySem.Spec PyProof.Rows L2
structure OkS (G : Gx) (prot : Nat → Nat → Bool) (cal : Nat → List Sl → R Sl) (mkd : Nat → Pv.D → Option Pv.D) (k : Ck) (c : Cn) (W : WX) (X : Cx) : Prop where
  o : Okx G prot cal k c W X
  pass : PassesOwn (model X.prog X.w) X.A X.env X.xe
  st : X.stack = X.env :: X.outer
  fr : X.env.frame = some X.env.locals
  cls : k.calm = true → ∀ (i : Nat) (x : Str), G.cls[i]? = some x → G.rs.contains i = true → ClsOk c X i x (mkd i)
  exm : ∀ i j, PySem.W.exmOne X.K (.ref (c.clA i)) (.ref (c.clA j)) = some (G.sub i j)
  mgc : ∀ (i : Nat) (x : Str), G.cls[i]? = some x → X.mg x = some (.ref (c.clA i))
  xfc : ∀ i, XfC X.K (c.clA i) ∧ XisC X.K (c.clA i)
  fld : ∀ (i : Nat) (n : Str), i < G.cls.length → G.fld[i]? = some n → c.fld i = n ∧ PySem.W.findIn X.K (.ref (c.clA i)) n = some none
  kit : ∀ (i j : Nat) (x : Str), G.cls[j]? = some x → PySem.W.kitOne X.K (.ref (c.clA i)) (.ref (c.clA j)) = some (G.sub i j)
  clip : ∀ i, ∃ i', i' < G.cls.length ∧ c.clA i = c.clA i' ∧ c.fld i = c.fld i' ∧ ∀ j, G.sub i j = G.sub i' j
structure SndS (G : Gx) (prot : Nat → Nat → Bool) (cal : Nat → List Sl → R Sl) (mkd : Nat → Pv.D → Option Pv.D) (fuel : Nat) (x : Sta) : Prop where
  s : ∀ {k c W X} {st : Stmt}, OkS G prot cal mkd k c W X → chkS G x k st = true → PS X st (tS c W fun e => exec prot cal mkd G.sub c.np fuel x e)
  b : ∀ {k c W X} {st : List Stmt}, OkS G prot cal mkd k c W X → chkB G x k st = true → PSs X st (tS c W fun e => exec prot cal mkd G.sub c.np fuel x e)
  h : ∀ {k c W X} {hs : List ExceptHandler}, OkS G prot cal mkd k c W X → chkH G x k hs = true → ∃ l, Hds X hs l ∧ HL c G.sub (exec prot cal mkd G.sub c.np fuel) x l
section
variable {G : Gx} {prot : Nat → Nat → Bool} {cal : Nat → List Sl → R Sl} {mkd : Nat → Pv.D → Option Pv.D} {fuel : Nat} {k : Ck} {c : Cn} {W : WX} {X : Cx}
theorem SndS.mkS {x : Sta} (hs : ∀ {k c W X} {st : Stmt}, OkS G prot cal mkd k c W X → chkS G x k st = true → PS X st (tS c W fun e => exec prot cal mkd G.sub c.np fuel x e)) (hb : ∀ k e, chkB G x k e = false) (hh : ∀ k e, chkH G x k e = false) : SndS G prot cal mkd fuel x :=
  ⟨hs, fun O h => ff ((hb _ _).symm.trans h), fun O h => ff ((hh _ _).symm.trans h)⟩
theorem OkS.tr (O : OkS G prot cal mkd k c W X) (hx : k.xs = none) {W' : WX} {pn : List (Addr × Obj)} {xe : Value → Shared → Prop} (tk : Takes (X.tr pn xe) W') (ps : PassesOwn (model X.prog X.w) X.A X.env xe) : OkS G prot cal mkd k c W' (X.tr pn xe) where
  o := ⟨O.o.hK, O.o.hu, O.o.hN, O.o.nd, O.o.sc, O.o.kd, O.o.calm, tk, fun q i x h => ⟨(O.o.fns q i x h).ex⟩, O.o.blt, O.o.pr, (fun i n h => by rw [hx] at h; cases h), O.o.cel, O.o.gls⟩
  pass := ps
  st := O.st
  fr := O.fr
  cls := fun q i x h r => ⟨(O.cls q i x h r).oex, (O.cls q i x h r).mg, (O.cls q i x h r).ini⟩
  exm := O.exm
  mgc := O.mgc
  xfc := O.xfc
  fld := O.fld
  kit := O.kit
  clip := O.clip
theorem OkS.suU (O : OkS G prot cal mkd k c W X) {a : Addr} {pn : List (Addr × Obj)} : OkS G prot cal mkd (kU k) c W0 (X.suite a pn) where
  o := ⟨O.o.hK, O.o.hu, O.o.hN, O.o.nd, O.o.sc, O.o.kd, (fun h => by cases h), takes_none5, (fun h => by cases h), O.o.blt, O.o.pr, (fun i n h => by cases h), O.o.cel, O.o.gls⟩
  pass := PassesOwn.never
  st := O.st
  fr := O.fr
  cls := fun h => by cases h
  exm := O.exm
  mgc := O.mgc
  xfc := O.xfc
  fld := O.fld
  kit := O.kit
  clip := O.clip
theorem fldOf_ok {n : Str} {j i : Nat} (h : fldOf G j = some n) (hl : i < G.cls.length) (hs : G.sub i j = true) : G.fld[i]? = some n := by
  have mem : i ∈ (List.range G.cls.length).filter fun i => G.sub i j := List.mem_filter.mpr ⟨List.mem_range.mpr hl, hs⟩
  unfold fldOf at h
  split at h
  · rename_i e
    rw [e] at mem
    cases mem
  · rename_i i0 r e
    rw [e] at mem
    split at h
    · rename_i m hm
      split at h
      · rename_i hall
        cases h
        rcases List.mem_cons.mp mem with z | z
        · rw [z]; exact hm
        · exact of_decide_eq_true (List.all_eq_true.mp hall i z)
      · cases h
    · cases h
theorem OkS.suite (O : OkS G prot cal mkd k c W X) {i j cl : Nat} {n : Str} {a : Addr} {oe : Obj} {dx : Option Addr} {pn : List (Addr × Obj)} (hz : Zc (.ref (c.clA cl)) dx oe) (hf : ∃ vs, oe.data = .fields vs) (hn : fldOf G j = some n) (hs : G.sub cl j = true) : ∀ (i' : Nat) (n' : Str), (kX k i n).xs = some (i', n') → SuiteOk G (c.sx a cl dx) (X.suite a ((a, oe) :: pn)) n' := by
  intro i' n' h
  cases h
  obtain ⟨cl', q1, q2, q3, q4⟩ := O.clip cl
  obtain ⟨k1, k2⟩ := O.fld cl' n q1 (fldOf_ok hn q1 ((q4 j).symm.trans hs))
  refine ⟨a, cl, dx, X, oe, pn, rfl, rfl, hz, hf, (O.xfc cl).1, (O.xfc cl).2, ?_, q3.trans k1, fun j' x h => ⟨O.kit cl j' x h, O.mgc j' x h⟩⟩
  show PySem.W.findIn X.K (.ref (c.clA cl)) n = some none
  rw [q2]
  exact k2
theorem OkS.suX (O : OkS G prot cal mkd k c W X) {i j cl : Nat} {n : Str} {a : Addr} {oe : Obj} {dx : Option Addr} {pn : List (Addr × Obj)} (hz : Zc (.ref (c.clA cl)) dx oe) (hf : ∃ vs, oe.data = .fields vs) (hn : fldOf G j = some n) (hs : G.sub cl j = true) : OkS G prot cal mkd (kX k i n) (c.sx a cl dx) W0 (X.suite a ((a, oe) :: pn)) where
  o := ⟨O.o.hK, O.o.hu, O.o.hN, O.o.nd, O.o.sc, O.o.kd, (fun h => by cases h), takes_none5, (fun h => by cases h), O.o.blt, O.o.pr, O.suite hz hf hn hs, O.o.cel, O.o.gls⟩
  pass := PassesOwn.never
  st := O.st
  fr := O.fr
  cls := fun h => by cases h
  exm := O.exm
  mgc := O.mgc
  xfc := O.xfc
  fld := O.fld
  kit := O.kit
  clip := O.clip
theorem e_of {x : Ex} (O : OkS G prot cal mkd k c W X) {e : Expr} (h : chkE G x k e = true) : PE X e (tE c W (evE prot cal G.sub x)) := ((snd x).e O.o h).pe
theorem ss_nop : SndS G prot cal mkd fuel .nop where
  s := fun {k c W X st} O h => by
    cases st <;> first | exact s_pass | exact ff h
  b := fun {k c W X st} O h => by
    cases st with
    | nil => exact s_nop
    | cons a r => exact ff h
  h := fun O h => ff h
theorem ss_seq (a b : Sta) (iha : SndS G prot cal mkd fuel a) (ihb : SndS G prot cal mkd fuel b) : SndS G prot cal mkd fuel (.seq a b) where
  s := fun O h => ff h
  h := fun O h => ff h
  b := fun {k c W X st} O h => by
    cases st with
    | nil => exact ff h
    | cons s r =>
      have h : (chkS G a k s && chkB G b k r) = true := h
      exact s_seq (iha.s O (ands h).1) (ihb.b O (ands h).2)
theorem ss_brk : SndS G prot cal mkd fuel .brk := .mkS (fun {k c W X st} O h => by cases st <;> first | exact s_brk | exact ff h) (fun _ _ => rfl) (fun _ _ => rfl)
theorem ss_cont : SndS G prot cal mkd fuel .cont := .mkS (fun {k c W X st} O h => by cases st <;> first | exact s_cont | exact ff h) (fun _ _ => rfl) (fun _ _ => rfl)
theorem ss_ret0 : SndS G prot cal mkd fuel .ret0 := .mkS (fun {k c W X st} O h0 => by
  have h : (match (generalizing := false) st with
    | .Return none _ => true
    | _ => false) = true := h0
  clear h0
  split at h
  case h_2 => exact ff h
  exact s_ret0) (fun _ _ => rfl) (fun _ _ => rfl)
theorem ss_ret (a : Ex) : SndS G prot cal mkd fuel (.ret a) := .mkS (fun {k c W X st} O h0 => by
  have h : (match (generalizing := false) st with
    | .Return (some e) _ => chkE G a k e
    | _ => false) = true := h0
  clear h0
  split at h
  case h_2 => exact ff h
  rename_i e p
  by_cases hv : ∃ i, a = .var i
  · obtain ⟨i, rfl⟩ := hv
    have h : (match asName e with
      | some x => nmOk k i x
      | none => false) = true := h
    split at h
    case h_2 => exact ff h
    rename_i x hx
    obtain ⟨q, rfl⟩ := asName_eq hx
    exact s_retv (O.o.var h) prot cal G.sub
  · have q := s_ret (pos := p) (e_of O h)
    refine Pv.PS.imp q fun D σ H h => ?_
    obtain ⟨e, Z, E, p⟩ := h
    have p : PostS c W D σ e Z H (retS c.np a e (evE prot cal G.sub a e)) := p
    rw [retS_no (fun i z => hv ⟨i, z⟩)] at p
    exact ⟨e, Z, E, p⟩) (fun _ _ => rfl) (fun _ _ => rfl)
theorem ss_expr (a : Ex) : SndS G prot cal mkd fuel (.expr a) := .mkS (fun {k c W X st} O h0 => by
  have h : (match (generalizing := false) st with
    | .Expr e _ => noLC e && chkE G a k e
    | _ => false) = true := h0
  clear h0
  split at h
  case h_2 => exact ff h
  exact s_expr (e_of O (ands h).2) (swap_no (ands h).1)) (fun _ _ => rfl) (fun _ _ => rfl)
theorem ss_append (i : Nat) (a : Ex) : SndS G prot cal mkd fuel (.append i a) := .mkS (fun {k c W X st} O h0 => by
  have h : (match (generalizing := false) st with
    | .Expr e _ => (match asMeth e with
      | some (x, n, [y]) => decide (n = ("append" : Str)) && (nmOk k i x && (noStar y && chkE G a k y))
      | _ => false)
    | _ => false) = true := h0
  clear h0
  split at h
  case h_2 => exact ff h
  split at h
  case h_2 => exact ff h
  rename_i x n y hx
  obtain ⟨r, p, q, rfl, hl⟩ := asMeth_eq hx
  obtain ⟨h1, h⟩ := ands h
  obtain ⟨h2, h⟩ := ands h
  obtain ⟨h3, h4⟩ := ands h
  cases of_decide_eq_true h1
  exact s_append (ps_expr (pe_bm PySem.F.plainAttrs_list PySem.F.slot_list_append PySem.F.type_list_append mt_append (O.o.var h2) (pa_cons (r_fz (e_of O h4)) pa_nil (star_cons h3)) rfl (few_one h3) hl (star_cons h3) rfl) rfl)) (fun _ _ => rfl) (fun _ _ => rfl)
theorem ss_reverse (i : Nat) : SndS G prot cal mkd fuel (.reverse i) := .mkS (fun {k c W X st} O h0 => by
  have h : (match (generalizing := false) st with
    | .Expr e _ => (match asMeth e with
      | some (x, n, []) => decide (n = ("reverse" : Str)) && nmOk k i x
      | _ => false)
    | _ => false) = true := h0
  clear h0
  split at h
  case h_2 => exact ff h
  split at h
  case h_2 => exact ff h
  rename_i x n hx
  obtain ⟨r, p, q, rfl, hl⟩ := asMeth_eq hx
  obtain ⟨h1, h2⟩ := ands h
  cases of_decide_eq_true h1
  exact s_reverse (ps_expr (pe_bm0 PySem.F.plainAttrs_list PySem.F.slot_list_reverse PySem.F.type_list_reverse mt_reverse (O.o.var h2) rfl hl) rfl)) (fun _ _ => rfl) (fun _ _ => rfl)
theorem ss_ite (t : Ex) (a b : Sta) (iha : SndS G prot cal mkd fuel a) (ihb : SndS G prot cal mkd fuel b) : SndS G prot cal mkd fuel (.ite t a b) := .mkS (fun {k c W X st} O h0 => by
  have h : (match (generalizing := false) st with
    | .If t' x y _ => chkT G t k t' && (chkB G a k x && chkB G b k y)
    | _ => false) = true := h0
  clear h0
  split at h
  case h_2 => exact ff h
  obtain ⟨h1, h⟩ := ands h
  obtain ⟨h2, h3⟩ := ands h
  exact s_if ((snd t).t O.o h1).1 (iha.b O h2) (ihb.b O h3)) (fun _ _ => rfl) (fun _ _ => rfl)
theorem ss_while (t : Ex) (b : Sta) (ihb : SndS G prot cal mkd fuel b) : SndS G prot cal mkd fuel (.while_ t b) := .mkS (fun {k c W X st} O h0 => by
  have h : (match (generalizing := false) st with
    | .While t' x [] _ => chkT G t k t' && chkB G b k x
    | _ => false) = true := h0
  clear h0
  split at h
  case h_2 => exact ff h
  obtain ⟨h1, h2⟩ := ands h
  exact s_while fuel O.pass ((snd t).t O.o h1).1 (ihb.b O h2)) (fun _ _ => rfl) (fun _ _ => rfl)
theorem ss_for (tg : Tg) (it : Ex) (b : Sta) (ihb : SndS G prot cal mkd fuel b) : SndS G prot cal mkd fuel (.for_ tg it b) := .mkS (fun {k c W X st} O h0 => by
  have h : (match (generalizing := false) st with
    | .For t i x [] _ => k.calm && (noSet i && (chkTg k tg t && ((chkI G it k i && tgOk it t) && chkB G b k x)))
    | _ => false) = true := h0
  clear h0
  split at h
  case h_2 => exact ff h
  obtain ⟨h1, h⟩ := ands h
  obtain ⟨h2, h⟩ := ands h
  obtain ⟨h3, h⟩ := ands h
  obtain ⟨h4, h5⟩ := ands h
  obtain ⟨g, g1, g2⟩ := tg_ok O.o h3
  exact s_for O.pass (O.o.calm h1) ((snd it).i O.o (ands h4).1 _ (ands h4).2) g1 g2 (ihb.b O h5) (fold_no h2)) (fun _ _ => rfl) (fun _ _ => rfl)
theorem ss_raise (j : Nat) (a : Ex) : SndS G prot cal mkd fuel (.raise j a) := .mkS (fun {k c W X st} O h0 => by
  have h : (match (generalizing := false) st with
    | .Raise (some (.Call (.Name x _) [y] [] _)) none _ => k.calm && (decide (G.cls[j]? = some x) && (glB k.sc x && (noDb x && (noStar y && (G.rs.contains j && chkE G a k y)))))
    | _ => false) = true := h0
  clear h0
  split at h
  case h_2 => exact ff h
  rename_i x _ y _ _
  obtain ⟨h1, h⟩ := ands h
  obtain ⟨h2, h⟩ := ands h
  obtain ⟨h3, h⟩ := ands h
  obtain ⟨h4, h⟩ := ands h
  obtain ⟨h5, h⟩ := ands h
  obtain ⟨h7, h6⟩ := ands h
  have hd : (x == ("__debug__" : Str)) = false := by simpa using (ands h4).1
  exact s_raise (O.o.calm h1) O.o.tk (O.cls h1 j x (of_decide_eq_true h2) h7) (O.o.gl h3) (r_fz (e_of O h6)) hd (star_cons h5) rfl) (fun _ _ => rfl) (fun _ _ => rfl)
end
end Pv
set_option maxRecDepth 100000
set_option maxHeartbeats 4000000
namespace Pv
open PySem PySem.Spec PyProof.Rows L2
section
variable {G : Gx} {prot : Nat → Nat → Bool} {cal : Nat → List Sl → R Sl} {mkd : Nat → Pv.D → Option Pv.D} {fuel : Nat} {k : Ck} {c : Cn} {W : WX} {X : Cx}
theorem ss_aug (i : Nat) (o : Bop) (a : Ex) : SndS G prot cal mkd fuel (.aug i o a) := .mkS (fun {k c W X st} O h0 => by
  have h : (match (generalizing := false) st with
    | .AugAssign (.Name x _) op e _ => stC k i x && (decide (augOp o = some op) && chkE G a k e)
    | _ => false) = true := h0
  clear h0
  split at h
  case h_2 => exact ff h
  obtain ⟨h1, h⟩ := ands h
  obtain ⟨h2, h3⟩ := ands h
  obtain ⟨q1, q2, q2', q3⟩ := stC_ok O.o h1
  have h2 := of_decide_eq_true h2
  cases o with
  | add => cases h2; exact s_aug (ps_aug O.o.nd q1 q2 (e_of O h3) ipB_add q2') q3
  | sub => cases h2; exact s_aug (ps_aug O.o.nd q1 q2 (e_of O h3) ipB_sub q2') q3
  | _ => cases h2) (fun _ _ => rfl) (fun _ _ => rfl)
theorem swap1 {t e : Expr} {l : Nat} {env : PySem.Env} (h : noLC e = true) : swapsWithSole [t] e l env = pure false := swap_no h
theorem ss_setIx (i : Nat) (b a : Ex) : SndS G prot cal mkd fuel (.setIx i b a) := .mkS (fun {k c W X st} O h0 => by
  have h : (match (generalizing := false) st with
    | .Assign [.Subscript (.Name x _) ix _] e _ => nmOk k i x && (noSlice ix && (noLC e && (chkE G a k e && chkE G b k ix)))
    | _ => false) = true := h0
  clear h0
  split at h
  case h_2 => exact ff h
  obtain ⟨h1, h⟩ := ands h
  obtain ⟨h2, h⟩ := ands h
  obtain ⟨h3, h⟩ := ands h
  obtain ⟨h5, h6⟩ := ands h
  exact s_setIx (ps_asg (r_fz (e_of O h5)) (pg_sub (O.o.var h1) (e_of O h6) set_list (asn_sub h2)) (swap1 h3) stores_sub (asn_one rfl))) (fun _ _ => rfl) (fun _ _ => rfl)
/-- a store that is no comprehension's -/
theorem asg_plain (O : OkS G prot cal mkd k c W X) {tg : Tg} {a : Ex} {t e : Expr} {pos : Pos} (h : (chkTg k tg t && (noStar t && (noLC e && (noSwap t e && chkE G a k e)))) = true) :
    PS X (.Assign [t] e pos) (tS c W fun s => exec prot cal mkd G.sub c.np fuel (.asg tg a) s) := by
  obtain ⟨h1, h⟩ := ands h
  obtain ⟨h2, h⟩ := ands h
  obtain ⟨h3, h⟩ := ands h
  obtain ⟨h4, h5⟩ := ands h
  obtain ⟨g, g1, g2⟩ := tg_ok O.o h1
  exact s_asgI (te := tC .non) (ps_asg (e_of O h5) g1 (swap1 h3) (stores_ns h4) (asn_one h2)) g2
theorem asg_lc (O : OkS G prot cal mkd k c W X) {i : Nat} {tg : Tg} {it cd elt : Ex} {t e : Expr} {pos : Pos} (h : chkAsgLc G k i tg it cd elt t e = true) :
    PS X (.Assign [t] e pos) (tS c W fun s => exec prot cal mkd G.sub c.np fuel (.asg (.one i) (.comp tg it cd elt)) s) := by
  unfold chkAsgLc at h
  split at h
  case h_2 => exact ff h
  rename_i y py elt' tg' it' ifs sc p
  obtain ⟨h1, h⟩ := ands h
  obtain ⟨h2, h⟩ := ands h
  obtain ⟨h3, h4⟩ := ands h
  obtain ⟨q1, q2, q3⟩ := stB_ok O.o h1
  obtain ⟨g, w1, w2, w3, w4, w5, w6, w7, w8, w9⟩ := (lc_ok tg it cd elt (snd it) (snd cd) (snd elt) O.o (show _ = true from h4)).ex
  have kd : X.env.scope.kind = .function := by rw [O.o.sc]; exact O.o.kd
  have sw := sw_true (elt := elt') (gs := [⟨tg', it', ifs, 0⟩]) (l := pos.line) kd q2 h2 (by simpa using h3)
  have q := ps_setLc (spos := pos) w9 O.o.nd q1 q2 sw w1 w2 w5 w6 w7 w8
  refine s_asgI (te := tC .non) (g := gName i) (Pv.PS.imp q fun D σ H h => ?_) (gp_one q3)
  show tLc _ _ _ _ _ σ H _
  rw [w4]
  exact lc_imp w3 σ H _ h
theorem swap_cell {e : Expr} {y : Str} {py : Pos} {l : Nat} {env : PySem.Env} (h : env.scope.names.lookup y = some .cell) : swapsWith e (some (.Name y py)) l env = pure false := by
  have ky : env.kindOf y = some .cell := h
  cases e <;> first | rfl | (unfold swapsWith; simp [ky, show (NameKind.cell == NameKind.local) = false from by decide])
theorem asg_ce (O : OkS G prot cal mkd k c W X) {i : Nat} {a : Ex} {t e : Expr} {pos : Pos} (h : chkAsgCe G k i a t e = true) :
    PS X (.Assign [t] e pos) (tS c W fun s => exec prot cal mkd G.sub c.np fuel (.asg (.one i) a) s) := by
  unfold chkAsgCe at h
  split at h
  case h_2 => exact ff h
  obtain ⟨h1, h⟩ := ands h
  obtain ⟨h2, h3⟩ := ands h
  obtain ⟨q1, q2, q3, q4⟩ := stC_ok O.o h1
  have hy := of_decide_eq_true h2
  rw [← O.o.sc] at hy
  exact s_asgI (te := tC .non) (ps_set O.o.nd q1 q2 (e_of O h3) (swap_cell hy) q3) (gp_one q4)
theorem ss_asg (tg : Tg) (a : Ex) : SndS G prot cal mkd fuel (.asg tg a) := .mkS (fun {k c W X st} O h0 => by
  have h : (match (generalizing := false) st with
    | .Assign [t] e _ => (match (generalizing := false) a, tg with
      | .comp tg' it c elt, .one i => chkAsgLc G k i tg' it c elt t e || chkAsgCe G k i (.comp tg' it c elt) t e
      | _, _ => chkTg k tg t && (noStar t && (noLC e && (noSwap t e && chkE G a k e))))
    | _ => false) = true := h0
  clear h0
  split at h
  case h_2 => exact ff h
  split at h
  · rcases Bool.or_eq_true_iff.mp h with h | h
    · exact asg_lc O h
    · exact asg_ce O h
  · exact asg_plain O h) (fun _ _ => rfl) (fun _ _ => rfl)
theorem any_star {es : List Expr} (h : es.all noStar = true) : (es.any fun e => match e with | .Starred .. => true | _ => false) = false := by
  rw [List.any_eq_false]
  intro e he
  have := List.all_eq_true.mp h e he
  cases e <;> first | exact Bool.false_ne_true | exact absurd this Bool.false_ne_true
theorem sw_two {x y : Str} {px py pt pt2 : Pos} {kt k2} {e e' : Expr} {env : PySem.Env} (hk : env.scope.kind = .function) (hx : env.scope.names.lookup x = some .local) (hy : env.scope.names.lookup y = some .local) (hn : x ≠ y) (hl : py.line = px.line)
    (n1 : ([e, e'] : List Expr).all noStar = true) (f1 : ([e, e'] : List Expr).all (foldedForSure 8) = false) (f2 : ([e, e'] : List Expr).all (constantsAlone 8) = false) :
    swappedStores [.Tuple [.Name x px, .Name y py] kt pt] (.Tuple [e, e'] k2 pt2) env = pure (some [x, y]) := by
  have kx : env.kindOf x = some .local := hx
  have ky : env.kindOf y = some .local := hy
  have kb : env.blockKind = .function := by unfold Env.blockKind; rw [hk]; rfl
  have ne : (y == x) = false := by simpa using Ne.symm hn
  unfold swappedStores
  simp only [any_star n1, f1, f2, kb, kx, ky, List.filterMap_cons, List.filterMap_nil, List.length_cons, List.length_nil, List.head?_cons, Option.map_some, Option.getD_some, Expr.pos, hl]
  simp [List.eraseDups_cons, ne]
  obtain ⟨s1, s2⟩ : noStar e = true ∧ noStar e' = true := by simpa using n1
  rintro (h | h)
  · cases e <;> first | exact absurd s1 Bool.false_ne_true | exact absurd h Bool.false_ne_true
  · cases e' <;> first | exact absurd s2 Bool.false_ne_true | exact absurd h Bool.false_ne_true
theorem sw_three {x y z : Str} {px py pz pt pt2 : Pos} {kt k2} {e e' e2 : Expr} {env : PySem.Env} (hk : env.scope.kind = .function) (hx : env.scope.names.lookup x = some .local) (hy : env.scope.names.lookup y = some .local) (hz : env.scope.names.lookup z = some .local) (hn : x ≠ y) (hn2 : x ≠ z) (hn3 : y ≠ z) (hl : py.line = px.line) (hl2 : pz.line = px.line)
    (n1 : ([e, e', e2] : List Expr).all noStar = true) (f1 : ([e, e', e2] : List Expr).all (foldedForSure 8) = false) (f2 : ([e, e', e2] : List Expr).all (constantsAlone 8) = false) :
    swappedStores [.Tuple [.Name x px, .Name y py, .Name z pz] kt pt] (.Tuple [e, e', e2] k2 pt2) env = pure (some [x, y, z]) := by
  have kx : env.kindOf x = some .local := hx
  have ky : env.kindOf y = some .local := hy
  have kz : env.kindOf z = some .local := hz
  have kb : env.blockKind = .function := by unfold Env.blockKind; rw [hk]; rfl
  have ne : (y == x) = false := by simpa using Ne.symm hn
  have ne2 : (z == x) = false := by simpa using Ne.symm hn2
  have ne3 : (z == y) = false := by simpa using Ne.symm hn3
  unfold swappedStores
  simp only [any_star n1, f1, f2, kb, kx, ky, kz, List.filterMap_cons, List.filterMap_nil, List.length_cons, List.length_nil, List.head?_cons, Option.map_some, Option.getD_some, Expr.pos, hl, hl2]
  simp [List.eraseDups_cons, ne, ne2, ne3]
  obtain ⟨s1, s2, s3⟩ : noStar e = true ∧ noStar e' = true ∧ noStar e2 = true := by simpa using n1
  rintro (h | h | h)
  · cases e <;> first | exact absurd s1 Bool.false_ne_true | exact absurd h Bool.false_ne_true
  · cases e' <;> first | exact absurd s2 Bool.false_ne_true | exact absurd h Bool.false_ne_true
  · cases e2 <;> first | exact absurd s3 Bool.false_ne_true | exact absurd h Bool.false_ne_true
/-- three plain local names: stored from the right -/
def tPar3 (i j l : Nat) (ta : TA) : TS := fun D σ H => ta σ H fun vs H1 => ∃ v w u, vs = [v, w, u] ∧ D.nx (((σ.set i (some v)).set j (some w)).set l (some u)) H1
theorem ps_par3 {i j l : Nat} {x y z : Str} {a b d : Expr} {ta : TA} {px py pz pt : Pos} {kt k2 pt2} {pos : Pos} (hc : X.calm = true) (hN : X.N.Nodup) (hi : X.N[i]? = some x) (hj : X.N[j]? = some y) (hl : X.N[l]? = some z) (hij : i ≠ j) (hil : i ≠ l) (hjl : j ≠ l)
    (hx : X.env.scope.names.lookup x = some .local) (hy : X.env.scope.names.lookup y = some .local) (hz : X.env.scope.names.lookup z = some .local) (ha : PA X [a, b, d] ta)
    (hw : swappedStores [.Tuple [.Name x px, .Name y py, .Name z pz] kt pt] (.Tuple [a, b, d] k2 pt2) X.env = pure (some [x, y, z])) :
    PS X (.Assign [.Tuple [.Name x px, .Name y py, .Name z pz] kt pt] (.Tuple [a, b, d] k2 pt2) pos) (tPar3 i j l ta) := by
  refine ⟨fun pins s σ H D I h => ?_⟩
  have hs : swapsWithSole [.Tuple [.Name x px, .Name y py, .Name z pz] kt pt] (.Tuple [a, b, d] k2 pt2) pos.line X.env = pure false := rfl
  rw [exec_Assign_arm]
  refine wpAny_bind (wpAny_standAt ?_)
  rw [hs]
  refine wpAny_bind (wpAny_pure ?_)
  rw [if_neg (by decide)]
  refine wpAny_bind (Tuple_ (thn (ha.run _ pins s σ H _ I h) fun us s1 ⟨vs, H1, I1, r1, v, w, u, e1, q1⟩ => ?_))
  subst e1
  obtain ⟨u1, u2, u3, rfl, rv, rw', ru⟩ : ∃ u1 u2 u3, us = [u1, u2, u3] ∧ RelV v u1 ∧ RelV w u2 ∧ RelV u u3 := by
    cases r1 with
    | cons p q =>
      cases q with
      | cons p' q' =>
        cases q' with
        | cons p2 q2 =>
          cases q2
          exact ⟨_, _, _, rfl, p, p', p2⟩
  refine wpAny_newObj_type ?_ (by show 3 ≤ sizeLine; decide)
  have I2 : Inv X pins σ H1 { s1 with heap := s1.heap.push { cls := .type "tuple", data := .seq [u1, u2, u3].toArray } } := I1.kept (t' := s1.toks) fun b o e => Heap.get?_push_of_some _ e
  rw [hw]
  refine wpAny_bind (wpAny_pure ?_)
  show wpAny (model X.prog X.w) X.A (do rule "assign.swapped-stores"; let items ← unpackItems (.ref s1.heap.objs.size) 3 none; assignInOrder [fun v => bindName X.env z v, fun v => bindName X.env y v, fun v => bindName X.env x v] items.reverse; pure PySem.Flow.next) _ _ _
  refine wpAny_bind (wpAny_rule (wpAny_bind (unpackItems_tuple (items := #[u1, u2, u3]) (I.ok.hd hc) (IsTup.new s1.heap _) fun h' hx' => ?_)))
  have I3 := I2.kept (h' := h') (t' := s1.toks) fun b o e => hx' b o (Nat.ne_of_lt (Heap.lt_size e)) e
  show wpAny _ _ (assignInOrder [fun v => bindName X.env z v, fun v => bindName X.env y v, fun v => bindName X.env x v] [u3, u2, u1] >>= fun _ => pure PySem.Flow.next) _ _ _
  refine wpAny_bind (assignInOrder_cons (wpAny_bindName (store_ok I3 hN hl (.inl hz) ru (fun s2 I4 => ?_) (.inr hz))))
  refine assignInOrder_cons (wpAny_bindName (store_ok I4 hN hj (.inl hy) rw' (fun s3 I5 => ?_) (.inr hy)))
  refine assignInOrder_cons (wpAny_bindName (store_ok I5 hN hi (.inl hx) rv (fun s4 I6 => assignInOrder_nil (wpAny_pure ?_)) (.inr hx)))
  have es : ((σ.set l (some u)).set j (some w)).set i (some v) = ((σ.set i (some v)).set j (some w)).set l (some u) := by
    rw [List.set_comm (some u) (some w) (Ne.symm hjl), List.set_comm (some u) (some v) (Ne.symm hil), List.set_comm (some w) (some v) (Ne.symm hij)]
  rw [es] at I6
  exact ⟨_, H1, I6, q1⟩
theorem ss_par (is : List Nat) (es : Ex) : SndS G prot cal mkd fuel (.par is es) := .mkS (fun {k c W X st} O h0 => by
  have h : (match (generalizing := false) is, st with
    | [i, j], .Assign [.Tuple [.Name x px, .Name y py] _ _] (.Tuple [e, e'] _ _) _ => parB k [i, j] [(x, px), (y, py)] px.line [e, e'] && chkL G es k [e, e']
    | [i, j, l], .Assign [.Tuple [.Name x px, .Name y py, .Name z pz] _ _] (.Tuple [e, e', e2] _ _) _ => parB k [i, j, l] [(x, px), (y, py), (z, pz)] px.line [e, e', e2] && chkL G es k [e, e', e2]
    | _, _ => false) = true := h0
  clear h0
  have kd : X.env.scope.kind = .function := by rw [O.o.sc]; exact O.o.kd
  split at h
  · rename_i i j x px y py kt pt e e' k2 pt2 pos
    obtain ⟨h1, h2⟩ := ands h
    obtain ⟨c1, h1⟩ := ands h1
    obtain ⟨c2, h1⟩ := ands h1
    obtain ⟨c3, h1⟩ := ands h1
    obtain ⟨c4, h1⟩ := ands h1
    obtain ⟨c5, h1⟩ := ands h1
    obtain ⟨c6, c7⟩ := ands h1
    obtain ⟨a1, c4⟩ := ands c4
    obtain ⟨a2, c4⟩ := ands c4
    obtain ⟨b1, c4⟩ := ands c4
    obtain ⟨b2, c4⟩ := ands c4
    obtain ⟨q1, q2, q3⟩ := stB_ok O.o a1
    obtain ⟨r1, r2, r3⟩ := stB_ok O.o b1
    have ne : i ≠ j := by simpa using of_decide_eq_true c2
    have nx : x ≠ y := by simpa using of_decide_eq_true c3
    have sw := sw_two (px := px) (py := py) (pt := pt) (pt2 := pt2) (kt := kt) (k2 := k2) kd q2 r2 nx (by simpa using b2) c5 (by rw [← Bool.not_eq_true']; exact c6) (by rw [← Bool.not_eq_true']; exact c7)
    have va := ((snd es).l O.o h2).2.1
    refine Pv.PS.imp (ps_par (pos := pos) (O.o.calm c1) O.o.nd q1 r1 ne q2 r2 va sw) fun D σ H ⟨ee, Z, E, p⟩ => ?_
    refine ⟨ee, Z, E, (PostS.bind0 p).imp fun ds e1 Z1 H1 t E1 p vs r => ?_⟩
    split at p
    · rename_i e2 hp
      obtain ⟨v, r', rfl, w, r'', rfl, rfl, q⟩ := gp_bvs (ns := [i, j]) (is := [i, j]) (Q := D.nx) (fun z hz => by
        rcases List.mem_cons.mp hz with rfl | hz
        · exact ⟨q3, List.mem_cons_self⟩
        · rw [List.mem_singleton.mp hz]
          exact ⟨r3, List.mem_cons_of_mem _ List.mem_cons_self⟩) E t.s E1 r hp (fun σ2 t2 E2 => p σ2 Z1 H1 t2 E2)
      exact ⟨v, w, rfl, q⟩
    · exact p.elim
  · rename_i i j l x px y py z pz kt pt e e' e2 k2 pt2 pos
    obtain ⟨h1, h2⟩ := ands h
    obtain ⟨c1, h1⟩ := ands h1
    obtain ⟨c2, h1⟩ := ands h1
    obtain ⟨c3, h1⟩ := ands h1
    obtain ⟨c4, h1⟩ := ands h1
    obtain ⟨c5, h1⟩ := ands h1
    obtain ⟨c6, c7⟩ := ands h1
    obtain ⟨a1, c4⟩ := ands c4
    obtain ⟨a2, c4⟩ := ands c4
    obtain ⟨b1, c4⟩ := ands c4
    obtain ⟨b2, c4⟩ := ands c4
    obtain ⟨d1, c4⟩ := ands c4
    obtain ⟨d2, c4⟩ := ands c4
    obtain ⟨q1, q2, q3⟩ := stB_ok O.o a1
    obtain ⟨r1, r2, r3⟩ := stB_ok O.o b1
    obtain ⟨t1, t2, t3⟩ := stB_ok O.o d1
    have ne : (i ≠ j ∧ i ≠ l) ∧ j ≠ l := by simpa using of_decide_eq_true c2
    have nx : (x ≠ y ∧ x ≠ z) ∧ y ≠ z := by simpa using of_decide_eq_true c3
    have sw := sw_three (px := px) (py := py) (pz := pz) (pt := pt) (pt2 := pt2) (kt := kt) (k2 := k2) kd q2 r2 t2 nx.1.1 nx.1.2 nx.2 (by simpa using b2) (by simpa using d2) c5 (by rw [← Bool.not_eq_true']; exact c6) (by rw [← Bool.not_eq_true']; exact c7)
    have va := ((snd es).l O.o h2).2.1
    refine Pv.PS.imp (ps_par3 (pos := pos) (O.o.calm c1) O.o.nd q1 r1 t1 ne.1.1 ne.1.2 ne.2 q2 r2 t2 va sw) fun D σ H ⟨ee, Z, E, p⟩ => ?_
    refine ⟨ee, Z, E, (PostS.bind0 p).imp fun ds e1 Z1 H1 t E1 p vs r => ?_⟩
    split at p
    · rename_i e2 hp
      obtain ⟨v, r', rfl, w, r'', rfl, u, r3', rfl, rfl, q⟩ := gp_bvs (ns := [i, j, l]) (is := [i, j, l]) (Q := D.nx) (fun z hz => by
        rcases List.mem_cons.mp hz with rfl | hz
        · exact ⟨q3, List.mem_cons_self⟩
        · rcases List.mem_cons.mp hz with rfl | hz
          · exact ⟨r3, List.mem_cons_of_mem _ List.mem_cons_self⟩
          · rw [List.mem_singleton.mp hz]
            exact ⟨t3, List.mem_cons_of_mem _ (List.mem_cons_of_mem _ List.mem_cons_self)⟩) E t.s E1 r hp (fun σ2 t2 E2 => p σ2 Z1 H1 t2 E2)
      exact ⟨v, w, u, rfl, q⟩
    · exact p.elim
  · exact ff h) (fun _ _ => rfl) (fun _ _ => rfl)
theorem ss_try (b h : Sta) (ihb : SndS G prot cal mkd fuel b) (ihh : SndS G prot cal mkd fuel h) : SndS G prot cal mkd fuel (.try_ b h) := .mkS (fun {k c W X st} O h0 => by
  have h : (match (generalizing := false) st with
    | .Try x (h0 :: hs) [] [] _ => k.calm && (decide (k.xs = none) && (chkB G b k x && chkH G h k (h0 :: hs)))
    | _ => false) = true := h0
  clear h0
  split at h
  case h_2 => exact ff h
  obtain ⟨h1, h⟩ := ands h
  obtain ⟨h2, h⟩ := ands h
  obtain ⟨h3, h4⟩ := ands h
  obtain ⟨l, q1, q2⟩ := ihh.h O h4
  exact s_try O.st O.fr O.o.nd O.o.tk O.exm (fun W pn xe tk ps => ihb.b (O.tr (of_decide_eq_true h2) tk ps) h3) q1 q2) (fun _ _ => rfl) (fun _ _ => rfl)
theorem ss_hnil : SndS G prot cal mkd fuel .hnil where
  s := fun O h => ff h
  b := fun O h => ff h
  h := fun {k c W X hs} O h => by
    cases hs with
    | nil => exact ⟨[], .nil, .nil⟩
    | cons a r => exact ff h
theorem ss_hcons (j : Nat) (n : Option Nat) (b r : Sta) (ihb : SndS G prot cal mkd fuel b) (ihr : SndS G prot cal mkd fuel r) : SndS G prot cal mkd fuel (.hcons j n b r) where
  s := fun O h => ff h
  b := fun O h => ff h
  h := fun {k c W X hs} O h0 => by
    have h : (match (generalizing := false) hs with
      | .ExceptHandler (some (.Name x _)) nm (s0 :: ss) _ :: hs' => decide (G.cls[j]? = some x) && (glB k.sc x && (noDb x && ((match (generalizing := false) n, nm with
          | none, none => chkB G b (kU k) (s0 :: ss)
          | some i, some y => stB k i y && (match fldOf G j with
            | some f => chkB G b (kX k i f) (s0 :: ss)
            | none => false)
          | _, _ => false) && chkH G r k hs')))
      | _ => false) = true := h0
    clear h0
    split at h
    case h_2 => exact ff h
    rename_i x _ nm s0 ss _ hs'
    obtain ⟨h1, h⟩ := ands h
    obtain ⟨h2, h⟩ := ands h
    obtain ⟨h3, h⟩ := ands h
    obtain ⟨h4, h5⟩ := ands h
    clear h
    obtain ⟨l, q1, q2⟩ := ihr.h O h5
    have hd : (x == ("__debug__" : Str)) = false := by simpa using (ands h3).1
    have nms : Names X x (.ref (c.clA j)) := ⟨O.o.gl h2, hd, .inl (O.mgc j x (of_decide_eq_true h1))⟩
    split at h4
    · refine ⟨_, .no nms (fun a oe cls d pn hz hf => ⟨fun pins s σ H D I ⟨cl, e1, e2, q⟩ => ?_⟩) q1, .cons (fun i z => by cases z) q2⟩
      exact (ihb.b O.suU h4).run pins s σ H D I q
    · rename_i i y
      obtain ⟨h6, h7⟩ := ands h4
      obtain ⟨w1, w2, w3⟩ := stB_ok O.o h6
      split at h7
      · rename_i f hf
        refine ⟨_, .as nms w1 w2 (fun a oe cls d pn hz hfl => ⟨fun pins s σ H D I ⟨cl, e1, e2, q⟩ => ?_⟩) q1, .cons (fun i' z => by cases z; exact w3) q2⟩
        subst e1
        exact (ihb.b (O.suX hz hfl hf e2) h7).run pins s σ H D I q
      · exact ff h7
    · exact ff h4
/-- THE STATEMENTS -/
theorem sndS : ∀ s : Sta, SndS G prot cal mkd fuel s
  | .nop => ss_nop
  | .seq a b => ss_seq a b (sndS a) (sndS b)
  | .asg tg a => ss_asg tg a
  | .par is es => ss_par is es
  | .setIx i b a => ss_setIx i b a
  | .aug i o a => ss_aug i o a
  | .expr a => ss_expr a
  | .append i a => ss_append i a
  | .reverse i => ss_reverse i
  | .ite t a b => ss_ite t a b (sndS a) (sndS b)
  | .for_ tg it b => ss_for tg it b (sndS b)
  | .while_ t b => ss_while t b (sndS b)
  | .ret a => ss_ret a
  | .ret0 => ss_ret0
  | .raise j a => ss_raise j a
  | .brk => ss_brk
  | .cont => ss_cont
  | .try_ b h => ss_try b h (sndS b) (sndS h)
  | .hnil => ss_hnil
  | .hcons j n b r => ss_hcons j n b r (sndS b) (sndS r)
end
end Pv
set_option maxRecDepth 100000
set_option maxHeartbeats 4000000
namespace Pv
open PySem PySem.Spec PyProof.Rows L2
/-! ## Defs -/
/-- a def's own constants, behind its entry at H -/
def Cn.fn (c : Cn) (H : Hp) (np : Nat) (pr : Nat → Bool) : Cn := { c with B := fun a => H a ≠ none, np := np, xa := none, pr := pr }
def stepR (np nl : Nat) (ex : Es → R Flow) (ss : List Sl) : R Sl := if ss.length = np then
    (match ex (ss.map some ++ List.replicate (nl - np) none) with
    | .ok (.ret s) e => .ok s e
    | .ok .next e => .ok (.val .non) e
    | .exc c d e => .exc c d e
    | _ => .bad)
  else .bad
section
variable {c : Cn} {Z Z' : Addr → Prop} {H H' : Hp} {vs : List V} {ss : List Sl} {np nl : Nat} {pr : Nat → Bool}
theorem entry_get {α : Type} {xs : List α} {n i : Nat} {x : α} (h : (xs.map some ++ List.replicate n none)[i]? = some (some x)) : xs[i]? = some x ∧ i < xs.length := by
  by_cases hi : i < xs.length
  · rw [List.getElem?_append_left (by simpa using hi)] at h
    obtain ⟨y, h1, h2⟩ := map_get h
    cases h2
    exact ⟨h1, hi⟩
  · rw [List.getElem?_append_right (by simpa using hi)] at h
    have := List.mem_of_getElem? h
    rw [List.mem_replicate] at this
    cases this.2
theorem get_entry {α : Type} {xs : List α} {n i : Nat} {x : α} (h : xs[i]? = some x) : (xs.map some ++ List.replicate n none)[i]? = some (some x) := by
  have hi : i < xs.length := (List.getElem?_eq_some_iff.mp h).1
  rw [List.getElem?_append_left (by simpa using hi), List.getElem?_map, h]
  rfl
theorem held_entry {n m i : Nat} {a : Addr} (h : HeldAt (vs.map some ++ List.replicate n none) (ss.map some ++ List.replicate m none) i a) : HeldAt (vs.map some) (ss.map some) i a ∧ i < ss.length := by
  obtain ⟨ds, h1, h2⟩ := h
  obtain ⟨q2, _⟩ := entry_get h2
  have e2 : (vs.map some)[i]? = some (some (V.ref a)) := by rw [List.getElem?_map, q2]; rfl
  rcases h1 with h1 | h1
  · obtain ⟨q1, q3⟩ := entry_get h1
    exact ⟨⟨ds, .inl (by rw [List.getElem?_map, q1]; rfl), e2⟩, q3⟩
  · obtain ⟨q1, q3⟩ := entry_get h1
    exact ⟨⟨ds, .inr (by rw [List.getElem?_map, q1]; rfl), e2⟩, q3⟩
theorem own_entry {n m : Nat} {a : Addr} : OwnA (vs.map some ++ List.replicate n none) (ss.map some ++ List.replicate m none) a ↔ OwA vs ss a := by
  constructor
  · intro ⟨i, ds, h1, h2⟩
    obtain ⟨q1, _⟩ := entry_get h1
    obtain ⟨q2, _⟩ := entry_get h2
    exact ⟨i, ds, by rw [List.getElem?_map, q1]; rfl, by rw [List.getElem?_map, q2]; rfl⟩
  · intro ⟨i, ds, h1, h2⟩
    obtain ⟨x, q1, e1⟩ := map_get h1
    obtain ⟨y, q2, e2⟩ := map_get h2
    cases e1
    cases e2
    exact ⟨i, ds, get_entry q1, get_entry q2⟩
theorem slot_arg {s : Sl} {o : Option (Option V)} (h : SlotR c.arg Z H s o) : SlotR (c.fn H' np pr) Z H s o := by
  cases s with
  | exc cl d =>
    obtain ⟨_, _, _, z, _⟩ := h
    cases z
  | val d => exact h
  | own ds => exact h
  | lck ds => exact h
theorem arg_slot {s : Sl} {o : Option (Option V)} {H₀ : Hp} (h : SlotR (c.fn H₀ np pr) Z H s o) : SlotR c.arg Z H s o := by
  cases s with
  | exc cl d =>
    obtain ⟨_, _, _, z, _⟩ := h
    cases z
  | val d => exact h
  | own ds => exact h
  | lck ds => exact h
/-- a def's entry -/
theorem entry_ok (A : Arg c Z H vs ss) (hs : ss.length = np) (hn : np ≤ nl) : EnvR (c.fn H np pr) Z H (vs.map some ++ List.replicate (nl - vs.length) none) (ss.map some ++ List.replicate (nl - np) none) := by
  have hl : vs.length = ss.length := by
    have := A.len
    simpa using this
  refine ⟨by simp [hl, hs], fun i s h => ?_, fun i j a h1 h2 => A.inj i j a (held_entry h1).1 (held_entry h2).1, fun i a hn h => ?_, fun a h => h, A.zt⟩
  · obtain ⟨q1, q2⟩ := entry_get h
    have := A.slot i s (by rw [List.getElem?_map, q1]; rfl)
    have hi : i < (vs.map some).length := by rw [List.length_map, hl]; exact q2
    rw [List.getElem?_append_left hi]
    exact slot_arg this
  · have := (held_entry h).2
    have hn : np ≤ i := hn
    omega
/-- a def's end -/
theorem exit_ok {σ' : L2.St} {e' : Es} (A : Arg c Z H vs ss) (hs : ss.length = np) (t : TrS (c.fn H np pr) (vs.map some ++ List.replicate (nl - vs.length) none) (ss.map some ++ List.replicate (nl - np) none) Z H σ' e' Z' H') (E : EnvR (c.fn H np pr) Z' H' σ' e') :
    FT Z H (OwA vs ss) Z' H' ∧ Outs c pr Z' H' vs ss e' := by
  refine ⟨⟨fun a o h1 h2 => t.tr.keep a o h1 fun w => h2 (own_entry.mp w), t.tr.zle, fun a h => ?_, t.tr.here⟩, fun i s s' hp h1 h2 h3 => ?_⟩
  · rcases t.tr.znew a h with z | z | z
    · exact .inl z
    · exact .inr (.inl z)
    · exact .inr (.inr (own_entry.mp z))
  · have hl : vs.length = ss.length := by
      have := A.len
      simpa using this
    have hi : i < vs.length := by rw [hl]; exact (List.getElem?_eq_some_iff.mp h1).1
    obtain ⟨v, hv⟩ : ∃ v, vs[i]? = some v := ⟨vs[i], by simp [hi]⟩
    have e1 : σ'[i]? = some (some v) := by
      have := t.fix i hp
      rw [get_entry hv] at this
      exact this
    have e3 := getS_some.mp h3
    refine ⟨v, hv, ?_, fun ⟨ds, hd⟩ => ?_⟩
    · rw [← e1]
      exact arg_slot (E.slot i s' e3)
    · subst hd
      obtain ⟨_, ds', q⟩ := t.tr.lk i ds (get_entry h1)
      rw [e3] at q
      cases q
      exact ⟨ds', rfl⟩
theorem not_none {H : Hp} {a : Addr} (h : ¬ H a ≠ none) : H a = none := by
  cases q : H a with
  | none => rfl
  | some o => exact absurd (by rw [q]; exact fun z => by cases z) h
/-- a def's body, asked as its calls are -/
theorem body_post {ex : Es → R Flow} {Q : VK} {E : XK} (A : Arg c Z H vs ss) (hs : ss.length = np) (hn : np ≤ nl) (p : PostF c pr Z H vs ss (stepR np nl ex ss) Q E) :
    tS (c.fn H np pr) (fun cls d _ H' => E cls d H') ex { nx := fun _ H' => Q .non H', rt := Q } (vs.map some ++ List.replicate (nl - vs.length) none) H := by
  refine ⟨_, Z, entry_ok A hs hn, ?_⟩
  unfold stepR at p
  rw [if_pos hs] at p
  cases q : ex (ss.map some ++ List.replicate (nl - np) none) with
  | bad => rw [q] at p; exact p
  | exc cl d e' =>
    rw [q] at p
    intro σ' Z' H' dx t E' x
    obtain ⟨f, o⟩ := exit_ok A hs t E'
    exact p dx Z' H' f E'.zt o x
  | ok fl e' =>
    rw [q] at p
    intro σ' Z' H' t E'
    obtain ⟨f, o⟩ := exit_ok A hs t E'
    cases fl with
    | next => exact p .non Z' H' f E'.zt o (mk_non (K := c.K) (Z := Z') (H := H'))
    | brk => exact p.elim
    | cont => exact p.elim
    | ret s =>
      intro v r
      refine p v Z' H' f E'.zt o ?_
      cases s with
      | val d => exact r
      | own ds =>
        obtain ⟨a, xs, e1, e2, e3, e4, e5⟩ := r
        exact ⟨a, xs, e1, not_none e2, e3, e4, e5⟩
      | lck ds => exact r.elim
      | exc _ _ => exact r.elim
end
end Pv
set_option maxRecDepth 100000
set_option maxHeartbeats 4000000
namespace Pv
open PySem PySem.Spec PyProof.Rows L2
/-! ## The program -/
def protL (P : Prog) (i np : Nat) : List Nat := (List.range np).filter (P.prot i)
structure FnD (G : Gx) (P : Prog) (K : PySem.W.Frag) (mg : Str → Option Value) (i : Nat) (x : Str) : Prop where
  ex : ∃ f fd qual params body scope N ps cc, FunD K x qual params body scope [] [] f fd ∧ FnScope N ps scope ∧ mg x = some (.ref f) ∧ Binds K fd ps [] ∧ P.fns[i]? = some cc ∧ cc.np = ps.length ∧ cc.nl = N.length ∧ ps.length ≤ N.length ∧
    chkB G cc.body ⟨N, scope, protL P i cc.np, true, none, true⟩ body = true
/-- what an __init__ stores: its argument, or what a def makes of it -/
def iniX : Option Nat → Ex
  | none => .var 1
  | some f => .call f (.cons (.var 1) .nil)
structure ClD (G : Gx) (P : Prog) (K : PySem.W.Frag) (mg : Str → Option Value) (c : Cn) (i : Nat) : Prop where
  oex : OexC K (c.clA i)
  no : PySem.W.findIn K (.ref (c.clA i)) (c.fld i) = some none
  ex : ∃ f fd qual params scope x0 x1 e p0 p1 pos q, FunD K "__init__" qual params [.Assign [.Attribute (.Name x0 p0) (c.fld i) p1] e pos] scope [] [] f fd ∧ FnScope [x0, x1] [x0, x1] scope ∧ Binds K fd [x0, x1] [] ∧ PySem.W.findIn K (.ref (c.clA i)) "__init__" = some (some (.ref f)) ∧
    PySem.W.typeIn K (.ref f) = some (.type "function") ∧ P.cls[i]? = some q ∧ chkE G (iniX q) ⟨[x0, x1], scope, [], true, none, true⟩ e = true ∧ nmOk ⟨[x0, x1], scope, [], true, none, true⟩ 0 x0 = true ∧ noLC e = true
structure Facts (G : Gx) (P : Prog) (K : PySem.W.Frag) (mg : Str → Option Value) (c : Cn) : Prop where
  hK : c.K = K
  fns : ∀ (i : Nat) (x : Str), G.fns[i]? = some x → FnD G P K mg i x
  blt : ∀ x ∈ bnames, mg x = none
  cld : ∀ (i : Nat) (x : Str), G.cls[i]? = some x → G.rs.contains i = true → ClD G P K mg c i
  exm : ∀ i j, PySem.W.exmOne K (.ref (c.clA i)) (.ref (c.clA j)) = some (G.sub i j)
  mgc : ∀ (i : Nat) (x : Str), G.cls[i]? = some x → mg x = some (.ref (c.clA i))
  xfc : ∀ i, XfC K (c.clA i) ∧ XisC K (c.clA i)
  fld : ∀ (i : Nat) (n : Str), i < G.cls.length → G.fld[i]? = some n → c.fld i = n ∧ PySem.W.findIn K (.ref (c.clA i)) n = some none
  kit : ∀ (i j : Nat) (x : Str), G.cls[j]? = some x → PySem.W.kitOne K (.ref (c.clA i)) (.ref (c.clA j)) = some (G.sub i j)
  clip : ∀ i, ∃ i', i' < G.cls.length ∧ c.clA i = c.clA i' ∧ c.fld i = c.fld i' ∧ ∀ j, G.sub i j = G.sub i' j
  sub : P.sub = G.sub
  gls : ∀ x i, (x, i) ∈ G.gls → ∃ t, mg x = some (.int i t)
section
variable {G : Gx} {P : Prog} {p : Program} {w : World} {K : PySem.W.Frag} {mg : Str → Option Value} {base : Heap} {c : Cn}
theorem protL_ok {i j : Nat} {cc : FnC} (h : P.fns[i]? = some cc) : P.prot i j = (protL P i cc.np).contains j := by
  have key : P.prot i j = true → j < cc.np := fun q => by
    unfold Prog.prot at q
    rw [h] at q
    exact of_decide_eq_true (ands q).1
  cases q : P.prot i j with
  | true =>
    symm
    simp only [protL, List.contains_iff_mem, List.mem_filter, List.mem_range]
    exact ⟨key q, q⟩
  | false =>
    symm
    rw [Bool.eq_false_iff]
    intro z
    simp only [protL, List.contains_iff_mem, List.mem_filter, List.mem_range] at z
    rw [q] at z
    exact Bool.false_ne_true z.2
theorem run_step {n i : Nat} {cc : FnC} (h : P.fns[i]? = some cc) (ss : List Sl) : run P (n + 1) i ss = stepR cc.np cc.nl (fun e => exec P.prot (run P n) (mkD P (run P n)) P.sub cc.np P.fuel cc.body e) ss := by
  simp only [run, h]
  rfl
/-- the calls of level n -/
structure Lv (G : Gx) (P : Prog) (p : Program) (w : World) (K : PySem.W.Frag) (mg : Str → Option Value) (base : Heap) (c : Cn) (n : Nat) (i : Nat) (x : Str) : Prop where
  ex : ∃ f fd ps, FnOk p w K mg base (L2.CX p w) (3 * n) f fd ps (spF c (P.prot i) ps.length (run P n i)) ∧ mg x = some (.ref f) ∧ PySem.W.keepIn K (.ref f) = true ∧ Binds K fd ps [] ∧ ∀ ss, ss.length ≠ ps.length → run P n i ss = .bad
theorem okx_of (F : Facts G P K mg c) {n kk : Nat} (L : ∀ (i : Nat) (x : Str), G.fns[i]? = some x → Lv G P p w K mg base c n i x) {N ps : List Str} {scope : Scope} (S : FnScope N ps scope) {pl : List Nat} {np : Nat} {pr : Nat → Bool} (hp : ∀ j, pr j = pl.contains j)
    {qual : Str} {f : Addr} {cd : Value} {A : Around} {outer : List PySem.Env} {s : Shared} {H : Hp} {E : XK} (hr : Room kk (A.deeper (envOfC qual scope s.heap.objs.size f cd))) (hk : 3 * n ≤ kk) :
    Okx G P.prot (run P n) ⟨N, scope, pl, true, none, true⟩ (c.fn H np pr) (fun cls d _ H' => E cls d H') (cxOf (L2.CX p w) p w K mg base N qual scope f cd A outer s H E) where
  hK := F.hK
  hu := by
    have := hr.un
    show (A.deeper (envOfC qual scope s.heap.objs.size f cd)).units + 64 < cLine
    omega
  hN := rfl
  nd := S.nd
  sc := rfl
  kd := S.kind
  calm := fun _ => rfl
  tk := takes_of rfl rfl rfl rfl
  fns := fun _ i x h => by
    obtain ⟨f, fd, ps, q1, q2, q3, q4, q5⟩ := (L i x h).ex
    exact ⟨⟨f, fd, ps, ps.length, 3 * n, q1, hr.mono hk, q2, q3, q4, q5⟩⟩
  blt := F.blt
  pr := hp
  xs := fun i n h => by cases h
  cel := fun _ _ => rfl
  gls := F.gls
theorem ini_val {sub : Nat → Nat → Bool} {n : Nat} {i : Nat} {q : Option Nat} {d d' : D} (hq : P.cls[i]? = some q) (h : mkD P (run P n) i d = some d') : ∃ e', (evE P.prot (run P n) sub (iniX q) [none, some (.val d)]).fz = .ok d' e' := by
  unfold mkD at h
  rw [hq] at h
  cases q with
  | none =>
    cases h
    exact ⟨_, rfl⟩
  | some f =>
    have e1 : evE P.prot (run P n) sub (iniX (some f)) [none, some (.val d)] = callR (P.prot f) (run P n f) [.val d] [none, some (.val d)] := rfl
    rw [e1]
    have e2 : callR (P.prot f) (run P n f) [.val d] [none, some (.val d)] = callN (run P n f) [.val d] [none, some (.val d)] := rfl
    rw [e2]
    unfold callN
    simp only [argSs, argS]
    cases r : run P n f [.val d] with
    | bad => simp only [r] at h; cases h
    | exc _ _ _ => simp only [r] at h; cases h
    | ok s ce =>
      simp only [r] at h
      cases s with
      | val v => cases h; exact ⟨_, rfl⟩
      | own vs => cases h; exact ⟨_, rfl⟩
      | lck _ => cases h
      | exc _ _ => cases h
theorem init_ok (F : Facts G P K mg c) {n : Nat} (L : ∀ (i : Nat) (x : Str), G.fns[i]? = some x → Lv G P p w K mg base c n i x) {i : Nat} (C : ClD G P K mg c i) :
    ∃ fI fd ps, PySem.W.findIn K (.ref (c.clA i)) "__init__" = some (some (.ref fI)) ∧ PySem.W.typeIn K (.ref fI) = some (.type "function") ∧ FnOk p w K mg base (L2.CX p w) (3 * n + 1) fI fd ps (spI c (c.fld i) (c.clA i) (mkD P (run P n) i)) ∧ Binds K fd ps [] := by
  obtain ⟨f, fd, qual, params, scope, x0, x1, e, p0, p1, pos, q, Fd, S, hb, h1, h2, hq, hc, h0, hl⟩ := C.ex
  refine ⟨f, fd, [x0, x1], h1, h2, Fd.ok S (fun vs H Q E h => ?_) (fun cdv A outer s H vs Q E hr h => ?_), hb⟩
  · obtain ⟨a, v, d, d', Z, rfl, _⟩ := h
    rfl
  · obtain ⟨a, v, d, d', Z, rfl, ha, hg, rd, hz, fin⟩ := h
    have O := okx_of F L (p := p) (w := w) (base := base) S (pl := []) (np := 2) (pr := fun _ => false) (fun _ => rfl) (f := f) (cd := cdv) (outer := outer) (s := s) (H := H) (E := E) hr (Nat.le_refl _)
    have pe := r_fz ((snd (iniX q)).e O hc).pe
    refine ⟨_, pss_one (ps_ost (O.var h0) pe (swap_no hl)), ?_⟩
    obtain ⟨e', he⟩ := ini_val (sub := G.sub) hq hg
    have Ev : EnvR (c.fn H 2 fun _ => false) Z H [some (.ref a), some v] [none, some (.val d)] := by
      have nh : ∀ {j : Nat} {b : Addr}, ¬ HeldAt [some (V.ref a), some v] [none, some (.val d)] j b := fun {j b} ⟨ds, h1, _⟩ => by
        rcases j with _ | _ | j <;> rcases h1 with h1 | h1 <;> simp at h1
      refine ⟨rfl, fun j s' hj => ?_, fun j k b h1 _ => absurd h1 nh, fun j b _ h1 => absurd h1 nh, fun b h => h, hz⟩
      rcases j with _ | _ | j
      · simp at hj
      · have hj : some (Sl.val d) = some s' := by simpa using hj
        cases hj
        exact ⟨v, rfl, rd⟩
      · simp at hj
    refine ⟨_, Z, Ev, ?_⟩
    show Post _ _ _ _ Z H (evE P.prot (run P n) G.sub (iniX q) [none, some (.val d)]).fz _
    rw [he]
    intro Z' H' t E' y ry
    have no : ∀ b, ¬ OwnA [some (V.ref a), some v] [none, some (.val d)] b := fun b ⟨j, ds, h1, _⟩ => by
      rcases j with _ | _ | j <;> simp at h1
    have ea : H' a = some (exo a (c.clA i) none) := t.keep a _ ha (no a)
    refine ⟨.ref a, rfl, a, c.clA i, rfl, C.oex, C.no, .inl ⟨ea, fun dx hx nx => ?_⟩⟩
    exact fin y Z' H' dx ⟨fun b o h _ => t.keep b o h (no b), t.zle, fun b z => by
      rcases t.znew b z with z | z | z
      · exact .inl z
      · exact .inr (.inl z)
      · exact absurd z (no b), t.here⟩ E'.zt ry hx nx
/-- THE CALLS, level by level -/
theorem levels (F : Facts G P K mg c) : ∀ (n i : Nat) (x : Str), G.fns[i]? = some x → Lv G P p w K mg base c n i x := by
  intro n
  induction n with
  | zero =>
    intro i x hx
    obtain ⟨f, fd, qual, params, body, scope, N, ps, cc, Fd, S, hm, hb, hc, h1, h2, h3, h4⟩ := (F.fns i x hx).ex
    refine ⟨⟨f, fd, ps, ⟨fun vs H Q E h => h.1, fun A outer s H args us vs Q E hr he hbt r h => ?_⟩, hm, Fd.kp, hb, fun ss _ => rfl⟩⟩
    obtain ⟨_, Z, ss, _, p⟩ := h
    exact p.elim
  | succ n ih =>
    intro i x hx
    obtain ⟨f, fd, qual, params, body, scope, N, ps, cc, Fd, S, hm, hb, hc, h1, h2, h3, h4⟩ := (F.fns i x hx).ex
    refine ⟨⟨f, fd, ps, ?_, hm, Fd.kp, hb, fun ss hs => ?_⟩⟩
    · have k3 : 3 * (n + 1) = (3 * n + 2) + 1 := by omega
      rw [k3]
      refine Fd.ok S (fun vs H Q E h => h.1) (fun cdv A outer s H vs Q E hr h => ?_)
      obtain ⟨hl, Z, ss, Ar, po⟩ := h
      have O := okx_of F ih (p := p) (w := w) (base := base) S (pl := protL P i cc.np) (np := cc.np) (pr := P.prot i) (fun j => protL_ok hc) (f := f) (cd := cdv) (outer := outer) (s := s) (H := H) (E := E) hr (by omega)
      have OS : OkS G P.prot (run P n) (mkD P (run P n)) ⟨N, scope, protL P i cc.np, true, none, true⟩ (c.fn H cc.np (P.prot i)) (fun cls d _ H' => E cls d H') (cxOf (L2.CX p w) p w K mg base N qual scope f cdv A outer s H E) :=
        { o := O, pass := passes_of rfl, st := rfl, fr := rfl, exm := F.exm, mgc := F.mgc, xfc := F.xfc, fld := F.fld, kit := F.kit, clip := F.clip
          cls := fun _ j y hy hr' => by
            have C := F.cld j y hy hr'
            obtain ⟨fI, fdI, psI, q1, q2, q3, q4⟩ := init_ok F ih C
            exact ⟨C.oex, F.mgc j y hy, fI, fdI, 3 * n + 1, psI, q1, q2, q3, hr, q4⟩ }
      have hs : ss.length = cc.np := by
        have := Ar.len
        have e : vs.length = ss.length := by simpa using this
        rw [← e, hl, h1]
      refine ⟨_, (sndS (fuel := P.fuel) cc.body).b OS h4, ?_⟩
      have po : PostF c (P.prot i) Z H vs ss (stepR cc.np cc.nl (fun e => exec P.prot (run P n) (mkD P (run P n)) P.sub cc.np P.fuel cc.body e) ss) Q E := by
        rw [← run_step hc]
        exact po
      have := body_post (nl := cc.nl) Ar hs (by rw [h1, h2]; exact h3) po
      rw [F.sub, h2] at this
      exact this
    · rw [run_step hc]
      unfold stepR
      rw [if_neg (by rw [h1]; exact hs)]
end
end Pv
namespace Pv
open PySem
structure Dat where
  fns : List Str
  cls : List Str
  fld : List Str
  ups : List (List Nat)
  rs : List Nat
  gls : List (Str × Int)
def clip (n i : Nat) : Nat := if i < n then i else 0
def Dat.sub (d : Dat) (i j : Nat) : Bool := (d.ups.getD (clip d.cls.length i) []).contains (clip d.cls.length j)
end Pv
set_option maxRecDepth 100000
set_option maxHeartbeats 4000000
namespace Pv
open PySem PySem.Spec PyProof.Rows L2
/-! ## The head's facts -/
def Dat.G (d : Dat) : Gx := ⟨d.fns, d.cls, d.fld, d.sub, d.rs, d.gls⟩
def Dat.nm (d : Dat) (i : Nat) : Str := d.cls.getD (clip d.cls.length i) Str.empty
def Dat.c (d : Dat) (K : PySem.W.Frag) : Cn := ⟨K, fun _ => False, 0, fun i => He.ga K (d.nm i), fun i => d.fld.getD (clip d.cls.length i) Str.empty, none, fun _ => false⟩
/-- an own hook: facts of He, and one more Bool -/
def obsP (n : Nat) (xB : PySem.W.Frag → Bool) (fa : List He.Fa) (fn : List He.DefD) (g : Addr → Option Obj) : He.AlD := ((He.obsD fa fn (He.frG g (He.asD g n))).1 && xB (He.frG g (He.asD g n)), (He.obsD fa fn (He.frG g (He.asD g n))).2)
def SaysP (xB : PySem.W.Frag → Bool) (fa : List He.Fa) (fn : List He.DefD) (K : PySem.W.Frag) : Prop := ((He.obsD fa fn K).1 && xB K, (He.obsD fa fn K).2) = He.valD fn
theorem SaysP.d {xB : PySem.W.Frag → Bool} {fa : List He.Fa} {fn : List He.DefD} {K : PySem.W.Frag} (h : SaysP xB fa fn K) : He.SaysD fa fn K ∧ xB K = true := by
  have h0 : (((He.obsD fa fn K).1 && xB K, (He.obsD fa fn K).2) : He.AlD) = (true, fn.map He.DefD.val) := h
  obtain ⟨h1, h2⟩ := Prod.mk.inj h0
  obtain ⟨q1, q2⟩ := ands h1
  exact ⟨Prod.ext q1 h2, q2⟩
def hookP (n : Nat) (xB : PySem.W.Frag → Bool) (fa : List He.Fa) (fn : List He.DefD) : PySem.W.Hook where
  α := He.AlD
  obs := fun s => obsP n xB fa fn s.heap.get?
  val := fun _ => He.valD fn
  says := fun _ h => ∃ K : PySem.W.Frag, K.In h ∧ SaysP xB fa fn K
  of := fun _ _ e => ⟨_, He.frG_in, e⟩
  keeps := fun _ _ _ ⟨K, hK, c⟩ k => ⟨K, PySem.W.Frag.In.keeps hK k, c⟩
theorem obsP_eq {n : Nat} {xB : PySem.W.Frag → Bool} {fa : List He.Fa} {fn : List He.DefD} {g : Addr → Option Obj} {s : Shared} (h : ∀ a, g a = s.heap.get? a) : obsP n xB fa fn g = (hookP n xB fa fn).obs s := by
  rw [show g = s.heap.get? from funext h]
  rfl
/-! the classes -/
def oexB (K : PySem.W.Frag) (C : Addr) : Bool := (match K.lookup C with
  | some ⟨.type t, dd, .cls cd, sl⟩ => (match cd.mro, sl.toList with
    | .ref C' :: bm, [k0, k1, k2, k3, some (.builtin b), k5] => decide (t = "type") && (decide (C' = C) && (cd.hasDict && (PySem.HandSPX.refsVE bm && (decide (b = "ValueError.__new__") && !cd.hasDel))))
    | _, _ => false)
  | _ => false) && (decide (PySem.W.findIn K (.ref C) "__setattr__" = some (some (.builtin "object.__setattr__"))) && (decide (PySem.W.subIn K (.ref C) (.type "BaseException") = some true) && (decide (PySem.W.typeIn K (.ref C) = some (.type "type")) && PySem.W.keepIn K (.ref C))))
def xisB (K : PySem.W.Frag) (D : Addr) : Bool := (PySem.W.clsIn K D).isSome && (decide (PySem.W.findIn K (.ref D) "__getattribute__" = some (some (.builtin "BaseException.__getattribute__"))) && (decide (PySem.W.findIn K (.ref D) "__getattr__" = some none) && (decide (PySem.W.subIn K (.ref D) (.type "BaseException") = some true) &&
  (decide (PySem.W.findIn K (.ref D) "__class__" = some (some (.builtin "object.__class__"))) && (decide (PySem.W.specialIn K (.builtin "object.__class__") "__get__" = some (some (.builtin "getset_descriptor.__get__"))) && (decide (PySem.W.takesIn K (.builtin "object.__class__") = some true) && decide (PySem.W.mroIn K D (.type "object") = some true)))))))
theorem xisB_ok {K : PySem.W.Frag} {D : Addr} (h : xisB K D = true) : XisC K D := by
  obtain ⟨h1, h⟩ := ands h
  obtain ⟨h2, h⟩ := ands h
  obtain ⟨h3, h⟩ := ands h
  obtain ⟨h4, h⟩ := ands h
  obtain ⟨h5, h⟩ := ands h
  obtain ⟨h6, h⟩ := ands h
  obtain ⟨h7, h8⟩ := ands h
  exact ⟨h1, of_decide_eq_true h2, of_decide_eq_true h3, of_decide_eq_true h4, of_decide_eq_true h5, of_decide_eq_true h6, of_decide_eq_true h7, of_decide_eq_true h8⟩
theorem oexB_ok {K : PySem.W.Frag} {C : Addr} (h : oexB K C = true) : OexC K C := by
  obtain ⟨h1, h⟩ := ands h
  obtain ⟨h2, h⟩ := ands h
  obtain ⟨h3, h⟩ := ands h
  obtain ⟨h4, h5⟩ := ands h
  refine ⟨?_, of_decide_eq_true h2, of_decide_eq_true h3, of_decide_eq_true h4, h5⟩
  split at h1
  · rename_i t dd cd sl hl
    split at h1
    · rename_i C' bm k0 k1 k2 k3 b k5 hm hs
      obtain ⟨g1, h1⟩ := ands h1
      obtain ⟨g2, h1⟩ := ands h1
      obtain ⟨g3, h1⟩ := ands h1
      obtain ⟨g4, h1⟩ := ands h1
      obtain ⟨g5, g6⟩ := ands h1
      have e1 := of_decide_eq_true g1
      have e2 := of_decide_eq_true g2
      have e5 := of_decide_eq_true g5
      subst e1 e2 e5
      obtain ⟨sl⟩ := sl
      have hs : sl = [k0, k1, k2, k3, some (.builtin "ValueError.__new__"), k5] := hs
      subst hs
      obtain ⟨nm, bs, mro, ns, qn, hd, sn, sub, ab, col, del⟩ := cd
      have w1 : mro = .ref C' :: bm := hm
      have w2 : hd = true := g3
      have w3 : del = false := by simpa using g6
      clear hm g3 g6
      subst w1
      subst w2
      subst w3
      exact ⟨nm, qn, ns, bs, bm, sn, sub, ab, col, dd, k0, k1, k2, k3, k5, hl, g4⟩
    · cases h1
  · cases h1
/-! all classes' facts -/
def fI (K : PySem.W.Frag) (d : Dat) (i : Nat) : Addr := He.ma K (He.ga K (d.nm i)) "__init__"
def clsB (d : Dat) (K : PySem.W.Frag) : Bool := (decide (0 < d.cls.length) && decide (d.fld.length = d.cls.length)) && (List.range d.cls.length).all fun i =>
  xfB K (He.ga K (d.nm i)) && (xisB K (He.ga K (d.nm i)) && (decide (PySem.W.nsIn K mainGlobals (d.nm i) = some (some (.ref (He.ga K (d.nm i))))) && (decide (PySem.W.findIn K (.ref (He.ga K (d.nm i))) (d.fld.getD i Str.empty) = some none) &&
  (((List.range d.cls.length).all fun j => decide (PySem.W.exmOne K (.ref (He.ga K (d.nm i))) (.ref (He.ga K (d.nm j))) = some (d.sub i j)) && decide (PySem.W.kitOne K (.ref (He.ga K (d.nm i))) (.ref (He.ga K (d.nm j))) = some (d.sub i j))) &&
  (!(d.rs.contains i) || (oexB K (He.ga K (d.nm i)) && (decide (PySem.W.findIn K (.ref (He.ga K (d.nm i))) "__init__" = some (some (.ref (fI K d i)))) && decide (PySem.W.typeIn K (.ref (fI K d i)) = some (.type "function")))))))))
theorem clip_id {n i : Nat} (h : i < n) : clip n i = i := if_pos h
theorem clip_lt {n i : Nat} (h : 0 < n) : clip n i < n := by
  unfold clip
  split
  · assumption
  · exact h
theorem nm_clip (d : Dat) (i : Nat) (h : 0 < d.cls.length) : d.nm (clip d.cls.length i) = d.nm i := by
  unfold Dat.nm
  rw [clip_id (clip_lt h)]
theorem sub_clip (d : Dat) (i j : Nat) (h : 0 < d.cls.length) : d.sub (clip d.cls.length i) (clip d.cls.length j) = d.sub i j := by
  unfold Dat.sub
  rw [clip_id (clip_lt h), clip_id (clip_lt h)]
theorem nm_get {d : Dat} {i : Nat} {x : Str} (h : d.cls[i]? = some x) : d.nm i = x ∧ i < d.cls.length := by
  have hi := (List.getElem?_eq_some_iff.mp h).1
  unfold Dat.nm
  rw [clip_id hi, List.getD_eq_getElem?_getD, h]
  exact ⟨rfl, hi⟩
/-- the facts of a program, from its defs' and classes' -/
theorem facts_of {d : Dat} {P : Prog} {K : PySem.W.Frag} {h : Heap} {mg : Str → Option Value} (X : K.In h) (G : h.Ns mainGlobals mg) (hB : clsB d K = true) (hs : P.sub = d.sub) (fns : ∀ (i : Nat) (x : Str), d.fns[i]? = some x → FnD d.G P K mg i x) (blt : ∀ x ∈ bnames, mg x = none) (gls : ∀ x i, (x, i) ∈ d.gls → ∃ t, mg x = some (.int i t))
    (cld : ∀ (i : Nat) (x : Str), d.cls[i]? = some x → d.rs.contains i = true → OexC K (He.ga K (d.nm i)) → PySem.W.findIn K (.ref (He.ga K (d.nm i))) (d.fld.getD i Str.empty) = some none → PySem.W.findIn K (.ref (He.ga K (d.nm i))) "__init__" = some (some (.ref (fI K d i))) → PySem.W.typeIn K (.ref (fI K d i)) = some (.type "function") → ClD d.G P K mg (d.c K) i) : Facts d.G P K mg (d.c K) := by
  obtain ⟨h0, hB⟩ := ands hB
  obtain ⟨h00, h01⟩ := ands h0
  have n0 : 0 < d.cls.length := of_decide_eq_true h00
  have nf : d.fld.length = d.cls.length := of_decide_eq_true h01
  have all : ∀ i, i < d.cls.length → _ := fun i hi => List.all_eq_true.mp hB i (List.mem_range.mpr hi)
  have two : ∀ i, i < d.cls.length → ∀ j, j < d.cls.length → PySem.W.exmOne K (.ref (He.ga K (d.nm i))) (.ref (He.ga K (d.nm j))) = some (d.sub i j) ∧ PySem.W.kitOne K (.ref (He.ga K (d.nm i))) (.ref (He.ga K (d.nm j))) = some (d.sub i j) := fun i hi j hj => by
    have q := (ands (ands (ands (ands (ands (all i hi)).2).2).2).2).1
    have := ands (List.all_eq_true.mp q j (List.mem_range.mpr hj))
    exact ⟨of_decide_eq_true this.1, of_decide_eq_true this.2⟩
  have fl : ∀ i, i < d.cls.length → (d.c K).fld i = d.fld.getD i Str.empty := fun i hi => by
    show d.fld.getD (clip d.cls.length i) Str.empty = _
    rw [clip_id hi]
  have mgc : ∀ i, i < d.cls.length → mg (d.nm i) = some (.ref (He.ga K (d.nm i))) := fun i hi => PySem.W.mg_of X G (of_decide_eq_true (ands (ands (ands (all i hi)).2).2).1)
  have noat : ∀ i, i < d.cls.length → PySem.W.findIn K (.ref (He.ga K (d.nm i))) (d.fld.getD i Str.empty) = some none := fun i hi => of_decide_eq_true (ands (ands (ands (ands (all i hi)).2).2).2).1
  exact {
    hK := rfl
    fns := fns
    blt := blt
    gls := gls
    cld := fun i x hx hr => by
      obtain ⟨e1, hi⟩ := nm_get hx
      have q := (ands (ands (ands (ands (ands (all i hi)).2).2).2).2).2
      have hr : d.rs.contains i = true := hr
      rw [hr] at q
      have q : (oexB K (He.ga K (d.nm i)) && (decide (PySem.W.findIn K (.ref (He.ga K (d.nm i))) "__init__" = some (some (.ref (fI K d i)))) && decide (PySem.W.typeIn K (.ref (fI K d i)) = some (.type "function")))) = true := q
      obtain ⟨q1, q⟩ := ands q
      obtain ⟨q2, q3⟩ := ands q
      exact cld i x hx hr (oexB_ok q1) (noat i hi) (of_decide_eq_true q2) (of_decide_eq_true q3)
    exm := fun i j => by
      have := (two (clip d.cls.length i) (clip_lt n0) (clip d.cls.length j) (clip_lt n0)).1
      rw [nm_clip d i n0, nm_clip d j n0, sub_clip d i j n0] at this
      exact this
    mgc := fun i x hx => by
      obtain ⟨e1, hi⟩ := nm_get hx
      have := mgc i hi
      rw [e1] at this
      show mg x = some (.ref (He.ga K (d.nm i)))
      rw [e1]
      exact this
    xfc := fun i => by
      have q := all (clip d.cls.length i) (clip_lt n0)
      have q1 := (ands q).1
      have q2 := (ands (ands q).2).1
      rw [nm_clip d i n0] at q1 q2
      exact ⟨xfB_ok q1, xisB_ok q2⟩
    fld := fun i n hi hn => by
      have hi : i < d.cls.length := hi
      have hn : d.fld[i]? = some n := hn
      have e : d.fld.getD i Str.empty = n := by rw [List.getD_eq_getElem?_getD, hn]; rfl
      have q := noat i hi
      rw [e] at q
      exact ⟨(fl i hi).trans e, q⟩
    kit := fun i j x hx => by
      obtain ⟨e1, hj⟩ := nm_get hx
      have := (two (clip d.cls.length i) (clip_lt n0) j hj).2
      rw [nm_clip d i n0] at this
      have e := sub_clip d i j n0
      rw [clip_id hj] at e
      rw [e] at this
      exact this
    clip := fun i => ⟨clip d.cls.length i, clip_lt n0, by show He.ga K (d.nm i) = He.ga K (d.nm (clip d.cls.length i)); rw [nm_clip d i n0], by show d.fld.getD (clip d.cls.length i) Str.empty = d.fld.getD (clip d.cls.length (clip d.cls.length i)) Str.empty; rw [clip_id (clip_lt n0)], fun j => by
      show d.sub i j = d.sub (clip d.cls.length i) j
      unfold Dat.sub
      rw [clip_id (clip_lt n0)]⟩
    sub := hs }
end Pv
set_option maxRecDepth 100000
set_option maxHeartbeats 4000000
namespace Pv
open PySem PySem.Spec PyProof.Rows L2
section
variable {G : Gx} {P : Prog} {p : Program} {w : World} {K : PySem.W.Frag} {mg : Str → Option Value} {base : Heap} {c : Cn}
/-- one def at its level -/
theorem fn_level (F : Facts G P K mg c) (n : Nat) {i : Nat} {x : Str} {f : Addr} {fd : FuncData} {qual : Str} {params : Arguments} {body : List Stmt} {scope : Scope} {N ps : List Str} {cc : FnC} (Fd : FunD K x qual params body scope [] [] f fd) (S : FnScope N ps scope)
    (hc : P.fns[i]? = some cc) (h1 : cc.np = ps.length) (h2 : cc.nl = N.length) (h3 : ps.length ≤ N.length) (h4 : chkB G cc.body ⟨N, scope, protL P i cc.np, true, none, true⟩ body = true) :
    FnOk p w K mg base (L2.CX p w) (3 * (n + 1)) f fd ps (spF c (P.prot i) ps.length (run P (n + 1) i)) := by
  have k3 : 3 * (n + 1) = (3 * n + 2) + 1 := by omega
  rw [k3]
  have ih := fun i x h => levels (p := p) (w := w) (base := base) F n i x h
  refine Fd.ok S (fun vs H Q E h => h.1) (fun cdv A outer s H vs Q E hr h => ?_)
  obtain ⟨hl, Z, ss, Ar, po⟩ := h
  have O := okx_of F ih (p := p) (w := w) (base := base) S (pl := protL P i cc.np) (np := cc.np) (pr := P.prot i) (fun j => protL_ok hc) (f := f) (cd := cdv) (outer := outer) (s := s) (H := H) (E := E) hr (by omega)
  have OS : OkS G P.prot (run P n) (mkD P (run P n)) ⟨N, scope, protL P i cc.np, true, none, true⟩ (c.fn H cc.np (P.prot i)) (fun cls d _ H' => E cls d H') (cxOf (L2.CX p w) p w K mg base N qual scope f cdv A outer s H E) :=
    { o := O, pass := passes_of rfl, st := rfl, fr := rfl, exm := F.exm, mgc := F.mgc, xfc := F.xfc, fld := F.fld, kit := F.kit, clip := F.clip
      cls := fun _ j y hy hr' => by
        have C := F.cld j y hy hr'
        obtain ⟨fI, fdI, psI, q1, q2, q3, q4⟩ := init_ok F ih C
        exact ⟨C.oex, F.mgc j y hy, fI, fdI, 3 * n + 1, psI, q1, q2, q3, hr, q4⟩ }
  have hs : ss.length = cc.np := by
    have := Ar.len
    have e : vs.length = ss.length := by simpa using this
    rw [← e, hl, h1]
  refine ⟨_, (sndS (fuel := P.fuel) cc.body).b OS h4, ?_⟩
  have po : PostF c (P.prot i) Z H vs ss (stepR cc.np cc.nl (fun e => exec P.prot (run P n) (mkD P (run P n)) P.sub cc.np P.fuel cc.body e) ss) Q E := by
    rw [← run_step hc]
    exact po
  have := body_post (nl := cc.nl) Ar hs (by rw [h1, h2]; exact h3) po
  rw [F.sub, h2] at this
  exact this
theorem rps_int {Z : Addr → Prop} {H : Hp} : ∀ ns : List Int, Rps K Z H (ns.map D.int) (ns.map V.int)
  | [] => rps_nil
  | n :: ns => rps_cons (mk_int n) (rps_int ns)
/-- the script goes in, True comes out -/
theorem law_in {pr : Nat → Bool} {g : List Sl → R Sl} {H : Hp} {a : Addr} {ns : List Int} {ce : Es} (hc : c.K = K) (hO : Only H) (hS : SqL K H a (ns.map V.int)) (hg : g [.val (.lst (ns.map D.int))] = .ok (.val (.bl true)) ce) :
    spF c pr 1 g [.ref a] H (fun v _ => v = .bl true) fun _ _ _ => False := by
  have sq : SqZ K (fun _ => False) H a (ns.map V.int) := by
    rcases hS with h | h
    · rcases h with h | ⟨o, h⟩
      · rcases hO a with q | ⟨o, xs, q⟩
        · rw [q] at h; cases h
        · rw [q] at h; cases h
      · exact .inr (.inl ⟨o, h⟩)
    · exact .inr (.inr h)
  refine ⟨rfl, fun _ => False, [.val (.lst (ns.map D.int))], ⟨rfl, fun i s h => ?_, fun i j b h => ?_, fun i b _ h => ?_, fun b h => h.elim, fun b h => h.elim⟩, ?_⟩
  · rcases i with _ | i
    · have h : some (Sl.val (.lst (ns.map D.int))) = some s := by simpa using h
      cases h
      refine ⟨.ref a, rfl, ?_⟩
      show Rp c.K _ H _ _
      rw [hc]
      exact mk_lst sq (rps_int ns)
    · simp at h
  · obtain ⟨ds, h1, _⟩ := h
    rcases i with _ | i <;> rcases h1 with h1 | h1 <;> simp at h1
  · obtain ⟨ds, h1, _⟩ := h
    rcases i with _ | i <;> rcases h1 with h1 | h1 <;> simp at h1
  · rw [hg]
    intro v Z' H' _ _ _ r
    exact rp_bl (K := c.K) (Z := Z') (H := H') r
/-- an __init__ of one store -/
def iniC (G : Gx) (q : Option Nat) (x0 x1 : Str) (scope : Scope) (fld : Str) (b : List Stmt) : Bool := match b with
  | [.Assign [.Attribute (.Name y _) n _] e _] => decide (y = x0) && (decide (n = fld) && (chkE G (iniX q) ⟨[x0, x1], scope, [], true, none, true⟩ e && (nmOk ⟨[x0, x1], scope, [], true, none, true⟩ 0 x0 && noLC e)))
  | _ => false
theorem clD_of {i : Nat} {f : Addr} {fd : FuncData} {qual x0 x1 fl : Str} {params : Arguments} {b : List Stmt} {scope : Scope} {q : Option Nat} (h1 : OexC K (c.clA i)) (hf : c.fld i = fl) (h2 : PySem.W.findIn K (.ref (c.clA i)) fl = some none) (Fd : FunD K "__init__" qual params b scope [] [] f fd) (S : FnScope [x0, x1] [x0, x1] scope) (hb : Binds K fd [x0, x1] [])
    (h3 : PySem.W.findIn K (.ref (c.clA i)) "__init__" = some (some (.ref f))) (h4 : PySem.W.typeIn K (.ref f) = some (.type "function")) (hq : P.cls[i]? = some q) (h : iniC G q x0 x1 scope fl b = true) : ClD G P K mg c i := by
  subst hf
  unfold iniC at h
  split at h
  case h_2 => exact ff h
  rename_i y p0 n p1 e pos
  obtain ⟨g1, h⟩ := ands h
  obtain ⟨g2, h⟩ := ands h
  obtain ⟨g3, h⟩ := ands h
  obtain ⟨g4, g5⟩ := ands h
  have e1 := of_decide_eq_true g1
  have e2 := of_decide_eq_true g2
  subst e1
  subst e2
  exact ⟨h1, h2, f, fd, qual, params, scope, y, x1, e, p0, p1, pos, q, Fd, S, hb, h3, h4, hq, g3, g4, g5⟩
/-- what may leave a def, whatever the world -/
def CXw (p : Program) : CXT := fun outer H s E u s' => ∃ w, L2.CX p w outer H s E u s'
theorem FnOk.any {k : Nat} {f : Addr} {fd : FuncData} {ps : List Str} {sp : Sp} (F : FnOk p w K mg base (L2.CX p w) k f fd ps sp) : FnOk p w K mg base (CXw p) k f fd ps sp :=
  ⟨F.len, fun A outer s H args us vs Q E hr he hb r h => codeAny_mono (F.run A outer s H args us vs Q E hr he hb r h) fun r s' q => by
    cases r with
    | error e => exact ⟨w, q⟩
    | ok fl =>
      cases fl with
      | ret u => exact q
      | next => exact q
      | brk => exact q
      | cont => exact q⟩
theorem cxw_no (H : Hp) (s : Shared) (e : Value) (s' : Shared) (h : CXw p [] H s (fun _ _ _ => False) e s') : False := by
  obtain ⟨w, a, B, H', cls, d, _, _, _, _, _, _, _, q⟩ := h
  exact q
end
end Pv
namespace Pv.Pq
open PySem
@[simp] theorem bind_ok {α β : Type} (a : α) (e : Es) (k : α → Es → R β) : (R.ok a e).bind k = k a e := id rfl
@[simp] theorem bind_exc {α β : Type} (c : Nat) (d : D) (e : Es) (k : α → Es → R β) : (R.exc c d e : R α).bind k = .exc c d e := id rfl
@[simp] theorem bind_bad {α β : Type} (k : α → Es → R β) : (R.bad : R α).bind k = .bad := id rfl
/-- a slot of which nothing is known but that it is not locked -/
inductive Fr where
  | non | val (d : D) | own (ds : List D) | exc (c : Nat) (d : D)
def Fr.sl : Fr → Option Sl
  | .non => none
  | .val d => some (.val d)
  | .own ds => some (.own ds)
  | .exc c d => some (.exc c d)
theorem fr_non : (none : Option Sl) = Fr.sl .non := id rfl
theorem fr_val (d : D) : some (Sl.val d) = Fr.sl (.val d) := id rfl
theorem fr_own (d : List D) : some (Sl.own d) = Fr.sl (.own d) := id rfl
theorem fr_exc (c : Nat) (d : D) : some (Sl.exc c d) = Fr.sl (.exc c d) := id rfl
/-! sealed continuations -/
def putK (t : Option (Option Sl)) (e : Es) (i : Nat) (s : Sl) : Option Es := match t with
  | some (some (.lck _)) => none
  | some _ => some (e.set i (some s))
  | none => none
@[simp] theorem putS_k (e : Es) (i : Nat) (s : Sl) : putS e i s = putK (e[i]?) e i s := by
  unfold putS putK
  cases e[i]? with
  | none => rfl
  | some t =>
    cases t with
    | none => rfl
    | some t => cases t <;> rfl
@[simp] theorem putK_none (e i s) : putK (some none) e i s = some (e.set i (some s)) := id rfl
@[simp] theorem putK_val (d e i s) : putK (some (some (.val d))) e i s = some (e.set i (some s)) := id rfl
@[simp] theorem putK_own (d e i s) : putK (some (some (.own d))) e i s = some (e.set i (some s)) := id rfl
@[simp] theorem putK_exc (c d e i s) : putK (some (some (.exc c d))) e i s = some (e.set i (some s)) := id rfl
@[simp] theorem putK_fr (t : Fr) (e i s) : putK (some t.sl) e i s = some (e.set i (some s)) := by cases t <;> rfl
def varK (i : Nat) (e : Es) (t : Option (Option Sl)) : R Sl := match t with
    | some (some (.val d)) => .ok (.val d) e
    | some (some (.own ds)) => .ok (.val (.lst ds)) (e.set i (some (.val (.lst ds))))
    | _ => .bad
@[simp] theorem varK_val (i e d) : varK i e (some (some (.val d))) = .ok (.val d) e := id rfl
@[simp] theorem varK_own (i e ds) : varK i e (some (some (.own ds))) = .ok (.val (.lst ds)) (e.set i (some (.val (.lst ds)))) := id rfl
def borK (s : Sl) (e : Es) : R Bv := match s with
    | .val d => .ok (.val d) e
    | .own ds => .ok (.tmp ds) e
    | _ => .bad
@[simp] theorem borK_val (d e) : borK (.val d) e = .ok (.val d) e := id rfl
@[simp] theorem borK_own (d e) : borK (.own d) e = .ok (.tmp d) e := id rfl
def borV (i : Nat) (e : Es) (t : Option (Option Sl)) (r : R Sl) : R Bv := match t with
    | some (some (.own _)) => .ok (.slot i) e
    | some (some (.lck _)) => .ok (.slot i) e
    | _ => r.bind borK
@[simp] theorem borV_val (i e d r) : borV i e (some (some (.val d))) r = r.bind borK := id rfl
@[simp] theorem borV_own (i e d r) : borV i e (some (some (.own d))) r = .ok (.slot i) e := id rfl
@[simp] theorem borV_lck (i e d r) : borV i e (some (some (.lck d))) r = .ok (.slot i) e := id rfl
@[simp] theorem bor_var (i e r) : bor (.var i) e r = borV i e (e[i]?) r := id rfl
def lookK (t : Option (Option Sl)) : Option D := match t with
    | some (some (.own ds)) => some (.lst ds)
    | some (some (.lck ds)) => some (.lst ds)
    | _ => none
@[simp] theorem lookK_own (d) : lookK (some (some (.own d))) = some (.lst d) := id rfl
@[simp] theorem lookK_lck (d) : lookK (some (some (.lck d))) = some (.lst d) := id rfl
@[simp] theorem look_val (e d) : look e (.val d) = some d := id rfl
@[simp] theorem look_tmp (e d) : look e (.tmp d) = some (.lst d) := id rfl
@[simp] theorem look_slot (e i) : look e (.slot i) = lookK (e[i]?) := id rfl
@[simp] theorem retD_some {α β : Type} (a : α) (f : α → β) (e) : retD (some a) f e = .ok (f a) e := id rfl
@[simp] theorem looks_nil (e) : looks e [] = some [] := id rfl
def looksK2 (d : D) (t : Option (List D)) : Option (List D) := match t with
  | some ds => some (d :: ds)
  | none => none
@[simp] theorem looksK2_some (d ds) : looksK2 d (some ds) = some (d :: ds) := id rfl
def looksK (e : Es) (bs : List Bv) (t : Option D) : Option (List D) := match t with
  | some d => looksK2 d (looks e bs)
  | none => none
@[simp] theorem looksK_some (e bs d) : looksK e bs (some d) = looksK2 d (looks e bs) := id rfl
@[simp] theorem looks_cons (e b bs) : looks e (b :: bs) = looksK e bs (look e b) := id rfl
def argK (t : Option (Option Sl)) : Option Sl := match t with
    | some (some (.own ds)) => some (.own ds)
    | some (some (.lck ds)) => some (.lck ds)
    | _ => none
@[simp] theorem argK_own (d) : argK (some (some (.own d))) = some (.own d) := id rfl
@[simp] theorem argK_lck (d) : argK (some (some (.lck d))) = some (.lck d) := id rfl
@[simp] theorem argS_val (e d) : argS e (.val d) = some (.val d) := id rfl
@[simp] theorem argS_tmp (e d) : argS e (.tmp d) = some (.own d) := id rfl
@[simp] theorem argS_slot (e i) : argS e (.slot i) = argK (e[i]?) := id rfl
@[simp] theorem argSs_nil (e) : argSs e [] = some [] := id rfl
def argSsK2 (d : Sl) (t : Option (List Sl)) : Option (List Sl) := match t with
  | some ds => some (d :: ds)
  | none => none
@[simp] theorem argSsK2_some (d ds) : argSsK2 d (some ds) = some (d :: ds) := id rfl
def argSsK (e : Es) (bs : List Bv) (t : Option Sl) : Option (List Sl) := match t with
  | some d => argSsK2 d (argSs e bs)
  | none => none
@[simp] theorem argSsK_some (e bs d) : argSsK e bs (some d) = argSsK2 d (argSs e bs) := id rfl
@[simp] theorem argSs_cons (e b bs) : argSs e (b :: bs) = argSsK e bs (argS e b) := id rfl
@[simp] theorem lent_nil : lent [] = [] := id rfl
@[simp] theorem lent_slot (i r) : lent (.slot i :: r) = i :: lent r := id rfl
@[simp] theorem lent_val (i r) : lent (.val i :: r) = lent r := id rfl
@[simp] theorem lent_tmp (i r) : lent (.tmp i :: r) = lent r := id rfl
@[simp] theorem give_nil (ce p e) : giveBack ce p [] e = some e := by cases p <;> rfl
@[simp] theorem give_val (ce p d r e) : giveBack ce p (.val d :: r) e = giveBack ce (p + 1) r e := id rfl
@[simp] theorem give_tmp (ce p d r e) : giveBack ce p (.tmp d :: r) e = giveBack ce (p + 1) r e := id rfl
def giveK (ce : Es) (p i : Nat) (r : List Bv) (e : Es) (t : Option Sl) : Option Es := match t with
  | some s => giveBack ce (p + 1) r (e.set i (some s))
  | none => none
@[simp] theorem giveK_some (ce p i r e s) : giveK ce p i r e (some s) = giveBack ce (p + 1) r (e.set i (some s)) := id rfl
@[simp] theorem give_slot (ce p i r e) : giveBack ce p (.slot i :: r) e = giveK ce p i r e (getS ce p) := id rfl
def getK (t : Option (Option Sl)) : Option Sl := match t with
  | some s => s
  | none => none
@[simp] theorem getK_some (s) : getK (some s) = s := id rfl
@[simp] theorem getS_k (e i) : getS e i = getK (e[i]?) := id rfl
def prepK (b : Bv) (t : Option (List Bv × Es)) : Option (List Bv × Es) := match t with
  | some (r', e') => some (b :: r', e')
  | none => none
@[simp] theorem prepK_some (b r e) : prepK b (some (r, e)) = some (b :: r, e) := id rfl
@[simp] theorem prep_nil (pr p e) : prep pr p [] e = some ([], e) := id rfl
@[simp] theorem prep_val (pr p d r e) : prep pr p (.val d :: r) e = prepK (.val d) (prep pr (p + 1) r e) := id rfl
@[simp] theorem prep_tmp (pr p d r e) : prep pr p (.tmp d :: r) e = prepK (.tmp d) (prep pr (p + 1) r e) := id rfl
def prepOwn (pr : Nat → Bool) (p i : Nat) (r : List Bv) (e : Es) (t : Option (Option Sl)) : Option (List Bv × Es) := match t with
  | some (some (.own ds)) => prepK (.val (.lst ds)) (prep pr (p + 1) r (e.set i (some (.val (.lst ds)))))
  | _ => none
@[simp] theorem prepOwn_own (pr p i r e ds) : prepOwn pr p i r e (some (some (.own ds))) = prepK (.val (.lst ds)) (prep pr (p + 1) r (e.set i (some (.val (.lst ds))))) := id rfl
def prepS (pr : Nat → Bool) (p i : Nat) (r : List Bv) (e : Es) (b : Bool) : Option (List Bv × Es) := if b then prepK (.slot i) (prep pr (p + 1) r e) else prepOwn pr p i r e (e[i]?)
@[simp] theorem prepS_true (pr p i r e) : prepS pr p i r e true = prepK (.slot i) (prep pr (p + 1) r e) := id rfl
@[simp] theorem prepS_false (pr p i r e) : prepS pr p i r e false = prepOwn pr p i r e (e[i]?) := id rfl
@[simp] theorem prep_slot (pr p i r e) : prep pr p (.slot i :: r) e = prepS pr p i r e (pr p) := by
  cases h : pr p with
  | true => simp only [prep, prepS, h]; rfl
  | false =>
    simp only [prep, prepS, h]
    unfold prepOwn
    cases e[i]? with
    | none => rfl
    | some t =>
      cases t with
      | none => rfl
      | some t => cases t <;> rfl
def callK3 (s : Sl) (t : Option Es) : R Sl := match t with
  | some e' => .ok s e'
  | none => .bad
@[simp] theorem callK3_some (s e) : callK3 s (some e) = .ok s e := id rfl
def callK4 (c : Nat) (d : D) (t : Option Es) : R Sl := match t with
  | some e' => .exc c d e'
  | none => .bad
@[simp] theorem callK4_some (c d e) : callK4 c d (some e) = .exc c d e := id rfl
def callK2 (bs : List Bv) (e : Es) (r : R Sl) : R Sl := match r with
  | .ok s ce => callK3 s (giveBack ce 0 bs e)
  | .exc c d ce => callK4 c d (giveBack ce 0 bs e)
  | .bad => .bad
@[simp] theorem callK2_ok (bs e s ce) : callK2 bs e (.ok s ce) = callK3 s (giveBack ce 0 bs e) := id rfl
@[simp] theorem callK2_exc (bs e c d ce) : callK2 bs e (.exc c d ce) = callK4 c d (giveBack ce 0 bs e) := id rfl
def callK1 (g : List Sl → R Sl) (bs : List Bv) (e : Es) (t : Option (List Sl)) : R Sl := match t with
  | some ss => callK2 bs e (g ss)
  | none => .bad
@[simp] theorem callK1_some (g bs e ss) : callK1 g bs e (some ss) = callK2 bs e (g ss) := id rfl
@[simp] theorem callN_k (g bs e) : callN g bs e = callK1 g bs e (argSs e bs) := by
  unfold callN callK1
  cases argSs e bs with
  | none => rfl
  | some ss =>
    show (match g ss with | .ok s ce => _ | .exc c d ce => _ | .bad => _) = callK2 bs e (g ss)
    cases g ss <;> rfl
def callK0 (g : List Sl → R Sl) (t : Option (List Bv × Es)) : R Sl := match t with
  | some (bs', e1) => if (lent bs').Nodup then callN g bs' e1 else .bad
  | none => .bad
@[simp] theorem callK0_some (g bs e) : callK0 g (some (bs, e)) = if (lent bs).Nodup then callN g bs e else .bad := id rfl
@[simp] theorem callR_k (pr g bs e) : callR pr g bs e = callK0 g (prep pr 0 bs e) := id rfl
def fzK (s : Sl) (e : Es) : R D := match s with
  | .val d => .ok d e
  | .own ds => .ok (.lst ds) e
  | _ => .bad
@[simp] theorem fz_k (r : R Sl) : r.fz = r.bind fzK := id rfl
@[simp] theorem fzK_val (d e) : fzK (.val d) e = .ok d e := id rfl
@[simp] theorem fzK_own (d e) : fzK (.own d) e = .ok (.lst d) e := id rfl
@[simp] theorem nox_ok {α : Type} (a : α) (e) : (R.ok a e).nox = .ok a e := id rfl
@[simp] theorem nox_bad {α : Type} : (R.bad : R α).nox = .bad := id rfl
@[simp] theorem nox_exc {α : Type} (c d e) : (R.exc c d e : R α).nox = .bad := id rfl
@[simp] theorem mapE_ok {α : Type} (g) (a : α) (e) : (R.ok a e).mapE g = .ok a (g e) := id rfl
@[simp] theorem mapE_exc {α : Type} (g) (c d e) : (R.exc c d e : R α).mapE g = .exc c d (g e) := id rfl
@[simp] theorem putT_one_val (i d e) : putT (.one i) (.val d) e = putS e i (.val d) := id rfl
@[simp] theorem putT_one_own (i d e) : putT (.one i) (.own d) e = putS e i (.own d) := id rfl
@[simp] theorem putT_tup (is ds e) : putT (.tup is) (.val (.tup ds)) e = putAll is ds e := id rfl
@[simp] theorem putAll_nil (e) : putAll [] [] e = some e := id rfl
def putAllK (is : List Nat) (ds : List D) (t : Option Es) : Option Es := match t with
    | some e1 => putAll is ds e1
    | none => none
@[simp] theorem putAllK_some (is ds e) : putAllK is ds (some e) = putAll is ds e := id rfl
@[simp] theorem putAll_cons (i is d ds e) : putAll (i :: is) (d :: ds) e = putAllK is ds (putS e i (.val d)) := id rfl
@[simp] theorem parS_nil (e) : parS [] [] e = some e := id rfl
def parK2 (is : List Nat) (bs : List Bv) (t : Option Es) : Option Es := match t with
    | some e1 => parS is bs e1
    | none => none
@[simp] theorem parK2_some (is bs e) : parK2 is bs (some e) = parS is bs e := id rfl
@[simp] theorem parS_val (i is d bs e) : parS (i :: is) (.val d :: bs) e = parK2 is bs (putS e i (.val d)) := id rfl
@[simp] theorem parS_tmp (i is d bs e) : parS (i :: is) (.tmp d :: bs) e = parK2 is bs (putS e i (.own d)) := id rfl
@[simp] theorem wipe_nil (e) : wipeE e [] = e := id rfl
@[simp] theorem wipe_cons (e i is) : wipeE e (i :: is) = (wipeE e is).set i none := id rfl
@[simp] theorem back_nil (e e') : backE e e' [] = e' := id rfl
@[simp] theorem back_cons (e e' i is) : backE e e' (i :: is) = (backE e e' is).set i (getS e i) := id rfl
@[simp] theorem tg_one (i) : (Tg.one i).ns = [i] := id rfl
@[simp] theorem tg_tup (i) : (Tg.tup i).ns = i := id rfl
section
variable (P : Nat → Nat → Bool) (C : Nat → List Sl → R Sl) (S : Nat → Nat → Bool)
def lookBin (o : Bop) (e : Es) (x y : Option D) : R Sl := match x, y with
    | some d, some d' => retD (binD o d d') id e
    | _, _ => .bad
@[simp] theorem lookBin_some (o e d d') : lookBin o e (some d) (some d') = retD (binD o d d') id e := id rfl
def binK2 (o : Bop) (x : Bv) (y : Bv) (e2 : Es) : R Sl := lookBin o e2 (look e2 x) (look e2 y)
@[simp] theorem binK2_e (o x y e) : binK2 o x y e = lookBin o e (look e x) (look e y) := id rfl
def binK1 (o : Bop) (b : Ex) (x : Bv) (e1 : Es) : R Sl := (bor b e1 (evE P C S b e1)).bind (binK2 o x)
@[simp] theorem binK1_e (o b x e) : binK1 P C S o b x e = (bor b e (evE P C S b e)).bind (binK2 o x) := id rfl
def bl? (b : Bool) : Sl := .val (.bl b)
@[simp] theorem bl_e (b) : bl? b = .val (.bl b) := id rfl
def lookCmp (o : Cop) (e : Es) (x y : Option D) : R Sl := match x, y with
    | some d, some d' => retD (cmpD o d d') bl? e
    | _, _ => .bad
@[simp] theorem lookCmp_some (o e d d') : lookCmp o e (some d) (some d') = retD (cmpD o d d') bl? e := id rfl
def cmpK2 (o : Cop) (x : Bv) (y : Bv) (e2 : Es) : R Sl := lookCmp o e2 (look e2 x) (look e2 y)
@[simp] theorem cmpK2_e (o x y e) : cmpK2 o x y e = lookCmp o e (look e x) (look e y) := id rfl
def cmpK1 (o : Cop) (b : Ex) (x : Bv) (e1 : Es) : R Sl := (bor b e1 (evE P C S b e1)).bind (cmpK2 o x)
@[simp] theorem cmpK1_e (o b x e) : cmpK1 P C S o b x e = (bor b e (evE P C S b e)).bind (cmpK2 o x) := id rfl
def negK (s : Sl) (e1 : Es) : R Sl := match s with
    | .val (.int i) => .ok (.val (.int (-i))) e1
    | _ => .bad
@[simp] theorem negK_e (i e) : negK (.val (.int i)) e = .ok (.val (.int (-i))) e := id rfl
def notK (b : Bool) (e1 : Es) : R Sl := .ok (.val (.bl (!b))) e1
@[simp] theorem notK_e (b e) : notK b e = .ok (.val (.bl (!b))) e := id rfl
def andK (b : Ex) (s : Sl) (e1 : Es) : R Sl := match s with
    | .val (.bl true) => evE P C S b e1
    | .val (.bl false) => .ok (.val (.bl false)) e1
    | _ => .bad
@[simp] theorem andK_e (b t e) : andK P C S b (.val (.bl t)) e = if t then evE P C S b e else .ok (.val (.bl false)) e := by cases t <;> rfl
def orK (b : Ex) (s : Sl) (e1 : Es) : R Sl := match s with
    | .val (.bl true) => .ok (.val (.bl true)) e1
    | .val (.bl false) => evE P C S b e1
    | _ => .bad
@[simp] theorem orK_e (b t e) : orK P C S b (.val (.bl t)) e = if t then .ok (.val (.bl true)) e else evE P C S b e := by cases t <;> rfl
def cmp2K4 (o' : Cop) (d' : D) (z : Sl) (e3 : Es) : R Sl := match z with
        | .val d'' => retD (cmpD o' d' d'') bl? e3
        | _ => .bad
@[simp] theorem cmp2K4_e (o' d' d'' e) : cmp2K4 o' d' (.val d'') e = retD (cmpD o' d' d'') bl? e := id rfl
def cmp2K3 (o' : Cop) (c : Ex) (d' : D) (e2 : Es) (t : Option Bool) : R Sl := match t with
      | some true => (evE P C S c e2).bind (cmp2K4 o' d')
      | some false => .ok (.val (.bl false)) e2
      | none => .bad
@[simp] theorem cmp2K3_e (o' c d' e b) : cmp2K3 P C S o' c d' e (some b) = if b then (evE P C S c e).bind (cmp2K4 o' d') else .ok (.val (.bl false)) e := by cases b <;> rfl
def cmp2K2 (o o' : Cop) (c : Ex) (x y : Sl) (e2 : Es) : R Sl := match x, y with
    | .val d, .val d' => cmp2K3 P C S o' c d' e2 (cmpD o d d')
    | _, _ => .bad
@[simp] theorem cmp2K2_e (o o' c d d' e) : cmp2K2 P C S o o' c (.val d) (.val d') e = cmp2K3 P C S o' c d' e (cmpD o d d') := id rfl
def cmp2K1 (o o' : Cop) (b c : Ex) (x : Sl) (e1 : Es) : R Sl := (evE P C S b e1).bind (cmp2K2 P C S o o' c x)
@[simp] theorem cmp2K1_e (o o' b c x e) : cmp2K1 P C S o o' b c x e = (evE P C S b e).bind (cmp2K2 P C S o o' c x) := id rfl
def isbl (n : Bool) (c : Option Bool) (d : D) : Sl := .val (.bl (isD c d != n))
@[simp] theorem isbl_e (n c d) : isbl n c d = .val (.bl (isD c d != n)) := id rfl
def isCK (n : Bool) (c : Option Bool) (x : Bv) (e1 : Es) : R Sl := retD (look e1 x) (isbl n c) e1
@[simp] theorem isCK_e (n c x e) : isCK n c x e = retD (look e x) (isbl n c) e := id rfl
def iteK (a b : Ex) (t : Bool) (e1 : Es) : R Sl := if t then evE P C S a e1 else evE P C S b e1
@[simp] theorem iteK_e (a b t e) : iteK P C S a b t e = if t then evE P C S a e else evE P C S b e := id rfl
def tupK (ds : List D) (e1 : Es) : R Sl := if ds.length ≤ sizeMax then .ok (.val (.tup ds)) e1 else .bad
@[simp] theorem tupK_e (ds e) : tupK ds e = if ds.length ≤ sizeMax then .ok (.val (.tup ds)) e else .bad := id rfl
def lstK (ds : List D) (e1 : Es) : R Sl := if ds.length ≤ sizeMax then .ok (.own ds) e1 else .bad
@[simp] theorem lstK_e (ds e) : lstK ds e = if ds.length ≤ sizeMax then .ok (.own ds) e else .bad := id rfl
def ixK3 (y : Sl) (e2 : Es) (x : Option D) : R Sl := match x, y with
    | some d, .val i => retD (ixD d i) .val e2
    | _, _ => .bad
@[simp] theorem ixK3_e (i e d) : ixK3 (.val i) e (some d) = retD (ixD d i) .val e := id rfl
def ixK2 (x : Bv) (y : Sl) (e2 : Es) : R Sl := ixK3 y e2 (look e2 x)
@[simp] theorem ixK2_e (x y e) : ixK2 x y e = ixK3 y e (look e x) := id rfl
def ixK1 (b : Ex) (x : Bv) (e1 : Es) : R Sl := (evE P C S b e1).bind (ixK2 x)
@[simp] theorem ixK1_e (b x e) : ixK1 P C S b x e = (evE P C S b e).bind (ixK2 x) := id rfl
def slK4 (l h : Option Int) (e3 : Es) (x : Option D) : R Sl := match x with
    | some d => retD (slD d l h) id e3
    | none => .bad
@[simp] theorem slK4_e (l h e d) : slK4 l h e (some d) = retD (slD d l h) id e := id rfl
def slK3 (x : Bv) (l h : Option Int) (e3 : Es) : R Sl := slK4 l h e3 (look e3 x)
@[simp] theorem slK3_e (x l h e) : slK3 x l h e = slK4 l h e (look e x) := id rfl
def slK2 (hi : Ex) (x : Bv) (l : Option Int) (e2 : Es) : R Sl := (evO P C S hi e2).bind (slK3 x l)
@[simp] theorem slK2_e (hi x l e) : slK2 P C S hi x l e = (evO P C S hi e).bind (slK3 x l) := id rfl
def slK1 (lo hi : Ex) (x : Bv) (e1 : Es) : R Sl := (evO P C S lo e1).bind (slK2 P C S hi x)
@[simp] theorem slK1_e (lo hi x e) : slK1 P C S lo hi x e = (evO P C S lo e).bind (slK2 P C S hi x) := id rfl
def callK (f : Nat) (bs : List Bv) (e1 : Es) : R Sl := callR (P f) (C f) bs e1
@[simp] theorem callK_e (f bs e) : callK P C f bs e = callR (P f) (C f) bs e := id rfl
def biK2 (b : Bi) (e1 : Es) (t : Option (List D)) : R Sl := match t with
    | some ds => retD (biD b ds) id e1
    | none => .bad
@[simp] theorem biK2_e (b e ds) : biK2 b e (some ds) = retD (biD b ds) id e := id rfl
def biK (b : Bi) (bs : List Bv) (e1 : Es) : R Sl := biK2 b e1 (looks e1 bs)
@[simp] theorem biK_e (b bs e) : biK b bs e = biK2 b e (looks e bs) := id rfl
def tybl (ts : List Ty) (d : D) : Sl := .val (.bl (ts.any (hasTy d)))
@[simp] theorem tybl_e (ts d) : tybl ts d = .val (.bl (ts.any (hasTy d))) := id rfl
def isiK (ts : List Ty) (x : Bv) (e1 : Es) : R Sl := retD (look e1 x) (tybl ts) e1
@[simp] theorem isiK_e (ts x e) : isiK ts x e = retD (look e x) (tybl ts) e := id rfl
def compK2 (tg : Tg) (it : Ex) (e1 : Es) (r : R (List D)) : R Sl := match r with
    | .ok ds e2 => .ok (.own ds) (unlockE it e1 (backE (lockE it e1) e2 tg.ns))
    | _ => .bad
@[simp] theorem compK2_ok (tg it e ds e2) : compK2 tg it e (.ok ds e2) = .ok (.own ds) (unlockE it e (backE (lockE it e) e2 tg.ns)) := id rfl
def compK (tg : Tg) (it c elt : Ex) (xs : List D) (e1 : Es) : R Sl := compK2 tg it e1 (compGo (fun x e => putT tg (.val x) e) (fun e => wipeE e tg.ns) (evT P C S c) (fun e => (evE P C S elt e).fz) xs (wipeE (lockE it e1) tg.ns) [])
def popK (i : Nat) (e : Es) (t : Option (Option Sl)) : R Sl := match t with
    | some (some (.own ds)) => (match ds.getLast? with
      | some d => .ok (.val d) (e.set i (some (.own ds.dropLast)))
      | none => .bad)
    | _ => .bad
@[simp] theorem popK_app (i e ds d) : popK i e (some (some (.own (ds ++ [d])))) = .ok (.val d) (e.set i (some (.own ds))) := by
  simp [popK]
@[simp] theorem popK_one (i e d) : popK i e (some (some (.own [d]))) = .ok (.val d) (e.set i (some (.own []))) := id rfl
def fldK (e : Es) (t : Option (Option Sl)) : R Sl := match t with
    | some (some (.exc _ d)) => .ok (.val d) e
    | _ => .bad
@[simp] theorem fldK_e (e c d) : fldK e (some (some (.exc c d))) = .ok (.val d) e := id rfl
def isxK (S : Nat → Nat → Bool) (c : Nat) (e : Es) (t : Option (Option Sl)) : R Sl := match t with
    | some (some (.exc c' _)) => .ok (.val (.bl (S c' c))) e
    | _ => .bad
@[simp] theorem isxK_e (c e c' d) : isxK S c e (some (some (.exc c' d))) = .ok (.val (.bl (S c' c))) e := id rfl
def andT (b : Ex) (t : Bool) (e1 : Es) : R Bool := if t then evT P C S b e1 else .ok false e1
@[simp] theorem andT_e (b t e) : andT P C S b t e = if t then evT P C S b e else .ok false e := id rfl
def orT (b : Ex) (t : Bool) (e1 : Es) : R Bool := if t then .ok true e1 else evT P C S b e1
@[simp] theorem orT_e (b t e) : orT P C S b t e = if t then .ok true e else evT P C S b e := id rfl
def notT (t : Bool) (e1 : Es) : R Bool := .ok (!t) e1
@[simp] theorem notT_e (t e) : notT t e = .ok (!t) e := id rfl
def tstK2 (e1 : Es) (t : Option D) : R Bool := retD (t.bind truthD) id e1
@[simp] theorem tstK2_e (e d) : tstK2 e (some d) = retD (truthD d) id e := id rfl
def tstK (x : Bv) (e1 : Es) : R Bool := tstK2 e1 (look e1 x)
@[simp] theorem tstK_e (x e) : tstK x e = tstK2 e (look e x) := id rfl
def vK2 (d : D) (ds : List D) (e2 : Es) : R (List D) := .ok (d :: ds) e2
@[simp] theorem vK2_e (d ds e) : vK2 d ds e = .ok (d :: ds) e := id rfl
def vK1 (r : Ex) (d : D) (e1 : Es) : R (List D) := (evV P C S r e1).bind (vK2 d)
@[simp] theorem vK1_e (r d e) : vK1 P C S r d e = (evV P C S r e).bind (vK2 d) := id rfl
def aK2 (d : Bv) (ds : List Bv) (e2 : Es) : R (List Bv) := .ok (d :: ds) e2
@[simp] theorem aK2_e (d ds e) : aK2 d ds e = .ok (d :: ds) e := id rfl
def aK1 (r : Ex) (d : Bv) (e1 : Es) : R (List Bv) := (evA P C S r e1).bind (aK2 d)
@[simp] theorem aK1_e (r d e) : aK1 P C S r d e = (evA P C S r e).bind (aK2 d) := id rfl
def optK (s : Sl) (e1 : Es) : R (Option Int) := match s with
    | .val (.int i) => .ok (some i) e1
    | _ => .bad
@[simp] theorem optK_e (i e) : optK (.val (.int i)) e = .ok (some i) e := id rfl
def r1K (s : Sl) (e1 : Es) : R (List D) := match s with
    | .val (.int n) => if -(2 ^ 62) ≤ n ∧ n < 2 ^ 62 then .ok (rangeL 0 n) e1 else .bad
    | _ => .bad
def okR (n : Int) : Prop := -(2 ^ 62) ≤ n ∧ n < 2 ^ 62
instance (n : Int) : Decidable (okR n) := inferInstanceAs (Decidable (_ ∧ _))
theorem okR_of {n : Int} (h : -1000000000 ≤ n ∧ n ≤ 1000000000) : okR n := by
  unfold okR
  omega
theorem okR_nat {n : Nat} (h : n ≤ 1000000000) : okR n := okR_of (by omega)
@[simp] theorem okR_0 : okR 0 := okR_of (by omega)
@[simp] theorem okR_1 : okR 1 := okR_of (by omega)
@[simp] theorem okR_lit {n : Int} (h1 : -1000000000 ≤ n) (h2 : n ≤ 1000000000) : okR n := okR_of ⟨h1, h2⟩
@[simp] theorem r1K_e (n e) : r1K (.val (.int n)) e = if okR n then .ok (rangeL 0 n) e else .bad := id rfl
def r2K2 (s t : Sl) (e2 : Es) : R (List D) := match s, t with
    | .val (.int i), .val (.int j) => if (-(2 ^ 62) ≤ i ∧ i < 2 ^ 62) ∧ -(2 ^ 62) ≤ j ∧ j < 2 ^ 62 then .ok (rangeL i j) e2 else .bad
    | _, _ => .bad
@[simp] theorem r2K2_e (i j e) : r2K2 (.val (.int i)) (.val (.int j)) e = if okR i ∧ okR j then .ok (rangeL i j) e else .bad := id rfl
def r2K1 (b : Ex) (s : Sl) (e1 : Es) : R (List D) := (evE P C S b e1).bind (r2K2 s)
@[simp] theorem r2K1_e (b s e) : r2K1 P C S b s e = (evE P C S b e).bind (r2K2 s) := id rfl
def zipK2 (s t : D) (e2 : Es) : R (List D) := match s, t with
    | .lst xs, .lst ys => .ok (zipL xs ys) e2
    | .tup xs, .tup ys => .ok (zipL xs ys) e2
    | _, _ => .bad
@[simp] theorem zipK2_lst (xs ys e) : zipK2 (.lst xs) (.lst ys) e = .ok (zipL xs ys) e := id rfl
@[simp] theorem zipK2_tup (xs ys e) : zipK2 (.tup xs) (.tup ys) e = .ok (zipL xs ys) e := id rfl
def zipK1 (b : Ex) (s : D) (e1 : Es) : R (List D) := (evE P C S b e1).fz.bind (zipK2 s)
@[simp] theorem zipK1_e (b s e) : zipK1 P C S b s e = (evE P C S b e).fz.bind (zipK2 s) := id rfl
def enumK (d : D) (e1 : Es) : R (List D) := match d with
    | .lst xs => .ok (enumL xs) e1
    | .tup xs => .ok (enumL xs) e1
    | _ => .bad
@[simp] theorem enumK_lst (xs e) : enumK (.lst xs) e = .ok (enumL xs) e := id rfl
@[simp] theorem enumK_tup (xs e) : enumK (.tup xs) e = .ok (enumL xs) e := id rfl
def itvK2 (e1 : Es) (t : Option D) : R (List D) := match t with
    | some d => retD (seqD d) id e1
    | none => .bad
@[simp] theorem itvK2_e (e d) : itvK2 e (some d) = retD (seqD d) id e := id rfl
def itvK (x : Bv) (e1 : Es) : R (List D) := itvK2 e1 (look e1 x)
@[simp] theorem itvK_e (x e) : itvK x e = itvK2 e (look e x) := id rfl

@[simp] theorem e_var (i e) : evE P C S (.var i) e = varK i e (e[i]?) := id rfl
@[simp] theorem e_int (i e) : evE P C S (.int i) e = .ok (.val (.int i)) e := id rfl
@[simp] theorem e_bl (i e) : evE P C S (.bl i) e = .ok (.val (.bl i)) e := id rfl
@[simp] theorem e_non (e) : evE P C S .non e = .ok (.val .non) e := id rfl
@[simp] theorem e_str (i e) : evE P C S (.str i) e = .ok (.val (.str i)) e := id rfl
@[simp] theorem e_gl (i d e) : evE P C S (.gl i d) e = .ok (.val d) e := id rfl
@[simp] theorem e_bin (o a b e) : evE P C S (.bin o a b) e = (bor a e (evE P C S a e)).bind (binK1 P C S o b) := id rfl
@[simp] theorem e_neg (a e) : evE P C S (.neg a) e = (evE P C S a e).bind negK := id rfl
@[simp] theorem e_not (a e) : evE P C S (.not a) e = (evT P C S a e).bind notK := id rfl
@[simp] theorem e_and (a b e) : evE P C S (.and a b) e = (evE P C S a e).bind (andK P C S b) := id rfl
@[simp] theorem e_or (a b e) : evE P C S (.or a b) e = (evE P C S a e).bind (orK P C S b) := id rfl
@[simp] theorem e_cmp (o a b e) : evE P C S (.cmp o a b) e = (bor a e (evE P C S a e)).bind (cmpK1 P C S o b) := id rfl
@[simp] theorem e_cmp2 (o o' a b c e) : evE P C S (.cmp2 o o' a b c) e = (evE P C S a e).bind (cmp2K1 P C S o o' b c) := id rfl
@[simp] theorem e_isC (n c a e) : evE P C S (.isC n c a) e = (bor a e (evE P C S a e)).bind (isCK n c) := id rfl
@[simp] theorem e_ite (c a b e) : evE P C S (.ite c a b) e = (evT P C S c e).bind (iteK P C S a b) := id rfl
@[simp] theorem e_tup (es e) : evE P C S (.tup es) e = (evV P C S es e).bind tupK := id rfl
@[simp] theorem e_lst (es e) : evE P C S (.lst es) e = (evV P C S es e).bind lstK := id rfl
@[simp] theorem e_ix (a b e) : evE P C S (.ix a b) e = (bor a e (evE P C S a e)).bind (ixK1 P C S b) := id rfl
@[simp] theorem e_sl (a lo hi e) : evE P C S (.sl a lo hi) e = (bor a e (evE P C S a e)).bind (slK1 P C S lo hi) := id rfl
@[simp] theorem e_call (f es e) : evE P C S (.call f es) e = (evA P C S es e).bind (callK P C f) := id rfl
@[simp] theorem e_bi (b es e) : evE P C S (.bi b es) e = (evA P C S es e).bind (biK b) := id rfl
@[simp] theorem e_isi (a ts e) : evE P C S (.isi a ts) e = (bor a e (evE P C S a e)).bind (isiK ts) := id rfl
@[simp] theorem e_comp (tg it c elt e) : evE P C S (.comp tg it c elt) e = (evI P C S it e).bind (compK P C S tg it c elt) := id rfl
@[simp] theorem e_pop (i e) : evE P C S (.pop i) e = popK i e (e[i]?) := id rfl
@[simp] theorem e_fld (i e) : evE P C S (.fld i) e = fldK e (e[i]?) := id rfl
@[simp] theorem e_isx (i c e) : evE P C S (.isx i c) e = isxK S c e (e[i]?) := id rfl
@[simp] theorem t_yes (e) : evT P C S .yes e = .ok true e := id rfl
@[simp] theorem t_and (a b e) : evT P C S (.and a b) e = (evT P C S a e).bind (andT P C S b) := id rfl
@[simp] theorem t_or (a b e) : evT P C S (.or a b) e = (evT P C S a e).bind (orT P C S b) := id rfl
@[simp] theorem t_not (a e) : evT P C S (.not a) e = (evT P C S a e).bind notT := id rfl
@[simp] theorem t_tst (a e) : evT P C S (.tst a) e = (bor a e (evE P C S a e)).bind tstK := id rfl
@[simp] theorem v_nil (e) : evV P C S .nil e = .ok [] e := id rfl
@[simp] theorem v_cons (a q e) : evV P C S (.cons a q) e = (evE P C S a e).fz.bind (vK1 P C S q) := id rfl
@[simp] theorem a_nil (e) : evA P C S .nil e = .ok [] e := id rfl
@[simp] theorem a_cons (a q e) : evA P C S (.cons a q) e = (bor a e (evE P C S a e)).bind (aK1 P C S q) := id rfl
@[simp] theorem o_no (e) : evO P C S .no e = .ok none e := id rfl
@[simp] theorem o_opt (a e) : evO P C S (.opt a) e = (evE P C S a e).bind optK := id rfl
@[simp] theorem i_r1 (a e) : evI P C S (.range1 a) e = (evE P C S a e).bind r1K := id rfl
@[simp] theorem i_r2 (a b e) : evI P C S (.range2 a b) e = (evE P C S a e).bind (r2K1 P C S b) := id rfl
@[simp] theorem i_zip (a b e) : evI P C S (.zip a b) e = (evE P C S a e).fz.bind (zipK1 P C S b) := id rfl
@[simp] theorem i_enum (a e) : evI P C S (.enum a) e = (evE P C S a e).fz.bind enumK := id rfl
@[simp] theorem i_itv (a e) : evI P C S (.itv a) e = (bor a e (evE P C S a e)).bind itvK := id rfl
@[simp] theorem b_int (i e r) : bor (.int i) e r = r.bind borK := id rfl
@[simp] theorem b_bl (i e r) : bor (.bl i) e r = r.bind borK := id rfl
@[simp] theorem b_non (e r) : bor .non e r = r.bind borK := id rfl
@[simp] theorem b_str (i e r) : bor (.str i) e r = r.bind borK := id rfl
@[simp] theorem b_gl (x d e r) : bor (.gl x d) e r = r.bind borK := id rfl
@[simp] theorem b_bin (o a b e r) : bor (.bin o a b) e r = r.bind borK := id rfl
@[simp] theorem b_neg (a e r) : bor (.neg a) e r = r.bind borK := id rfl
@[simp] theorem b_not (a e r) : bor (.not a) e r = r.bind borK := id rfl
@[simp] theorem b_and (a b e r) : bor (.and a b) e r = r.bind borK := id rfl
@[simp] theorem b_or (a b e r) : bor (.or a b) e r = r.bind borK := id rfl
@[simp] theorem b_cmp (o a b e r) : bor (.cmp o a b) e r = r.bind borK := id rfl
@[simp] theorem b_cmp2 (o p a b c e r) : bor (.cmp2 o p a b c) e r = r.bind borK := id rfl
@[simp] theorem b_isC (n c a e r) : bor (.isC n c a) e r = r.bind borK := id rfl
@[simp] theorem b_ite (c a b e r) : bor (.ite c a b) e r = r.bind borK := id rfl
@[simp] theorem b_tup (es e r) : bor (.tup es) e r = r.bind borK := id rfl
@[simp] theorem b_lst (es e r) : bor (.lst es) e r = r.bind borK := id rfl
@[simp] theorem b_ix (a b e r) : bor (.ix a b) e r = r.bind borK := id rfl
@[simp] theorem b_sl (a l h e r) : bor (.sl a l h) e r = r.bind borK := id rfl
@[simp] theorem b_call (f es e r) : bor (.call f es) e r = r.bind borK := id rfl
@[simp] theorem b_bi (f es e r) : bor (.bi f es) e r = r.bind borK := id rfl
@[simp] theorem b_isi (a ts e r) : bor (.isi a ts) e r = r.bind borK := id rfl
@[simp] theorem b_comp (tg it c elt e r) : bor (.comp tg it c elt) e r = r.bind borK := id rfl
@[simp] theorem b_comp2 (tg it c tg1 it1 c1 elt e r) : bor (.comp2 tg it c tg1 it1 c1 elt) e r = r.bind borK := id rfl
@[simp] theorem b_pop (i e r) : bor (.pop i) e r = r.bind borK := id rfl
@[simp] theorem b_pop0 (i a e r) : bor (.pop0 i a) e r = r.bind borK := id rfl
@[simp] theorem b_fld (i e r) : bor (.fld i) e r = r.bind borK := id rfl
@[simp] theorem b_isx (i c e r) : bor (.isx i c) e r = r.bind borK := id rfl
end
section
variable (P : Nat → Nat → Bool) (C : Nat → List Sl → R Sl) (M : Nat → D → Option D) (S : Nat → Nat → Bool) (np fl : Nat)
def seqK (b : Sta) (f : Flow) (e1 : Es) : R Flow := match f with
    | .next => exec P C M S np fl b e1
    | f => .ok f e1
@[simp] theorem seqK_next (b e) : seqK P C M S np fl b .next e = exec P C M S np fl b e := id rfl
@[simp] theorem seqK_brk (b e) : seqK P C M S np fl b .brk e = .ok .brk e := id rfl
@[simp] theorem seqK_cont (b e) : seqK P C M S np fl b .cont e = .ok .cont e := id rfl
@[simp] theorem seqK_ret (b s e) : seqK P C M S np fl b (.ret s) e = .ok (.ret s) e := id rfl
def nextK (t : Option Es) : R Flow := match t with
    | some e2 => .ok .next e2
    | none => .bad
@[simp] theorem nextK_e (e) : nextK (some e) = .ok .next e := id rfl
def asgK (tg : Tg) (s : Sl) (e1 : Es) : R Flow := nextK (putT tg s e1)
@[simp] theorem asgK_e (tg s e) : asgK tg s e = nextK (putT tg s e) := id rfl
def setK3 (i : Nat) (d : D) (e2 : Es) (s : Sl) (t : Option (Option Sl)) : R Flow := match t, s with
      | some (some (.own ds)), .val (.int k) => (if 0 ≤ k then (if k.toNat < ds.length then .ok .next (e2.set i (some (.own (ds.set k.toNat d)))) else .bad)
        else if -(ds.length : Int) ≤ k then .ok .next (e2.set i (some (.own (ds.set (k + ds.length).toNat d)))) else .bad)
      | _, _ => .bad
@[simp] theorem setK3_e (i d e ds) (k : Int) : setK3 i d e (.val (.int k)) (some (some (.own ds))) = (if 0 ≤ k then (if k.toNat < ds.length then .ok .next (e.set i (some (.own (ds.set k.toNat d)))) else .bad)
        else if -(ds.length : Int) ≤ k then .ok .next (e.set i (some (.own (ds.set (k + ds.length).toNat d)))) else .bad) := id rfl
def setK2 (i : Nat) (d : D) (s : Sl) (e2 : Es) : R Flow := setK3 i d e2 s (e2[i]?)
@[simp] theorem setK2_e (i d s e) : setK2 i d s e = setK3 i d e s (e[i]?) := id rfl
def setK1b (i : Nat) (a : Ex) (d : D) (e1 : Es) (t : Option (Option Sl)) : R Flow := match t with
    | some (some (.own _)) => (evE P C S a e1).bind (setK2 i d)
    | _ => .bad
@[simp] theorem setK1b_e (i a d e ds) : setK1b P C S i a d e (some (some (.own ds))) = (evE P C S a e).bind (setK2 i d) := id rfl
def setK1 (i : Nat) (a : Ex) (d : D) (e1 : Es) : R Flow := setK1b P C S i a d e1 (e1[i]?)
@[simp] theorem setK1_e (i a d e) : setK1 P C S i a d e = setK1b P C S i a d e (e[i]?) := id rfl
def augK3 (i : Nat) (e1 : Es) (t : Option Sl) : R Flow := match t with
        | some z => nextK (putT (.one i) z e1)
        | none => .bad
@[simp] theorem augK3_e (i e z) : augK3 i e (some z) = nextK (putT (.one i) z e) := id rfl
def augK2 (i : Nat) (o : Bop) (x : Int) (s : Sl) (e1 : Es) : R Flow := match s with
      | .val (.int y) => augK3 i e1 (binD o (.int x) (.int y))
      | _ => .bad
@[simp] theorem augK2_e (i o x y e) : augK2 i o x (.val (.int y)) e = augK3 i e (binD o (.int x) (.int y)) := id rfl
def augK1 (i : Nat) (o : Bop) (a : Ex) (e : Es) (t : Option (Option Sl)) : R Flow := match t with
    | some (some (.val (.int x))) => (evE P C S a e).bind (augK2 i o x)
    | _ => .bad
@[simp] theorem augK1_e (i o a e x) : augK1 P C S i o a e (some (some (.val (.int x)))) = (evE P C S a e).bind (augK2 i o x) := id rfl
def expK (_ : Sl) (e1 : Es) : R Flow := .ok .next e1
@[simp] theorem expK_e (s e) : expK s e = .ok .next e := id rfl
def appK2 (i : Nat) (d : D) (e1 : Es) (t : Option (Option Sl)) : R Flow := match t with
      | some (some (.own ds)) => if ds.length < sizeMax then .ok .next (e1.set i (some (.own (ds ++ [d])))) else .bad
      | _ => .bad
@[simp] theorem appK2_e (i d e ds) : appK2 i d e (some (some (.own ds))) = if ds.length < sizeMax then .ok .next (e.set i (some (.own (ds ++ [d])))) else .bad := id rfl
def appK1 (i : Nat) (d : D) (e1 : Es) : R Flow := appK2 i d e1 (e1[i]?)
@[simp] theorem appK1_e (i d e) : appK1 i d e = appK2 i d e (e[i]?) := id rfl
def appK (i : Nat) (a : Ex) (e : Es) (t : Option (Option Sl)) : R Flow := match t with
    | some (some (.own _)) => (evE P C S a e).fz.bind (appK1 i)
    | _ => .bad
@[simp] theorem appK_e (i a e ds) : appK P C S i a e (some (some (.own ds))) = (evE P C S a e).fz.bind (appK1 i) := id rfl
def revK (i : Nat) (e : Es) (t : Option (Option Sl)) : R Flow := match t with
    | some (some (.own ds)) => .ok .next (e.set i (some (.own ds.reverse)))
    | _ => .bad
@[simp] theorem revK_e (i e ds) : revK i e (some (some (.own ds))) = .ok .next (e.set i (some (.own ds.reverse))) := id rfl
def sIteK (a b : Sta) (t : Bool) (e1 : Es) : R Flow := if t then exec P C M S np fl a e1 else exec P C M S np fl b e1
@[simp] theorem sIteK_e (a b t e) : sIteK P C M S np fl a b t e = if t then exec P C M S np fl a e else exec P C M S np fl b e := id rfl
def forK (tg : Tg) (it : Ex) (b : Sta) (xs : List D) (e1 : Es) : R Flow := (forGo (fun x e => putT tg (.val x) e) (fun e => exec P C M S np fl b e) xs (lockE it e1)).mapE (unlockE it e1)
theorem forK_e (tg it b xs e) : forK P C M S np fl tg it b xs e = (forGo (fun x e => putT tg (.val x) e) (fun e => exec P C M S np fl b e) xs (lockE it e)).mapE (unlockE it e) := id rfl
def retK (s : Sl) (e : Es) : R Flow := .ok (.ret s) e
@[simp] theorem retK_e (s e) : retK s e = .ok (.ret s) e := id rfl
def retV2 (i : Nat) (e : Es) (r : R Sl) (t : Option (Option Sl)) : R Flow := match t with
      | some (some (.own ds)) => .ok (.ret (.own ds)) (e.set i none)
      | _ => r.bind retK
@[simp] theorem retV2_own (i e r ds) : retV2 i e r (some (some (.own ds))) = .ok (.ret (.own ds)) (e.set i none) := id rfl
@[simp] theorem retV2_val (i e r d) : retV2 i e r (some (some (.val d))) = r.bind retK := id rfl
def retV (np i : Nat) (e : Es) (r : R Sl) : R Flow := if np ≤ i then retV2 i e r (e[i]?) else r.bind retK
@[simp] theorem retV_e (np i e r) : retV np i e r = if np ≤ i then retV2 i e r (e[i]?) else r.bind retK := id rfl
@[simp] theorem ret_var (np i e r) : retS np (.var i) e r = retV np i e r := by
  unfold retV retS
  by_cases h : np ≤ i
  · simp only [if_pos h]
    unfold retV2
    cases e[i]? with
    | none => rfl
    | some t =>
      cases t with
      | none => rfl
      | some t => cases t <;> rfl
  · simp only [if_neg h]
    rfl
def raiseK2 (c : Nat) (e1 : Es) (t : Option D) : R Flow := match t with
    | some d' => .exc c d' e1
    | none => .bad
@[simp] theorem raiseK2_e (c e d) : raiseK2 c e (some d) = .exc c d e := id rfl
def raiseK (c : Nat) (d : D) (e1 : Es) : R Flow := raiseK2 c e1 (M c d)
@[simp] theorem raiseK_e (c d e) : raiseK M c d e = raiseK2 c e (M c d) := id rfl
def tryK (h : Sta) (r : R Flow) : R Flow := match r with
    | .ok f e1 => .ok f e1
    | .exc c d e1 => hand P C M S np fl h c d e1
    | .bad => .bad
@[simp] theorem tryK_ok (h f e) : tryK P C M S np fl h (.ok f e) = .ok f e := id rfl
@[simp] theorem tryK_exc (h c d e) : tryK P C M S np fl h (.exc c d e) = hand P C M S np fl h c d e := id rfl
def leaveK {α : Type} (i : Nat) (f : α) (e : Es) (t : Option (Option Sl)) : R α := match t with
    | some (some (.lck _)) => .bad
    | _ => if noX (e.set i none) then .ok f (e.set i none) else .bad
@[simp] theorem leaveK_exc {α : Type} (i) (f : α) (e c d) : leaveK i f e (some (some (.exc c d))) = if noX (e.set i none) then .ok f (e.set i none) else .bad := id rfl
@[simp] theorem leaveX_ok {α : Type} (i) (f : α) (e) : leaveX i (.ok f e) = leaveK i f e (e[i]?) := id rfl
def handK (b : Sta) (i : Nat) (e : Es) (t : Option Es) : R Flow := match t with
        | some e1 => if noX e then leaveX i (exec P C M S np fl b e1) else .bad
        | none => .bad
@[simp] theorem handK_e (b i e e1) : handK P C M S np fl b i e (some e1) = if noX e then leaveX i (exec P C M S np fl b e1) else .bad := id rfl
@[simp] theorem h_some (c' i b q c d e) : hand P C M S np fl (.hcons c' (some i) b q) c d e = if S c c' then handK P C M S np fl b i e (putS e i (.exc c d)) else hand P C M S np fl q c d e := id rfl
@[simp] theorem h_none (c' b q c d e) : hand P C M S np fl (.hcons c' none b q) c d e = if S c c' then (exec P C M S np fl b e).nox else hand P C M S np fl q c d e := id rfl
@[simp] theorem h_nil (c d e) : hand P C M S np fl .hnil c d e = .exc c d e := id rfl
@[simp] theorem noX_nil : noX [] = true := id rfl
@[simp] theorem noX_none (e) : noX (none :: e) = noX e := id rfl
@[simp] theorem noX_val (d e) : noX (some (.val d) :: e) = noX e := id rfl
@[simp] theorem noX_own (d e) : noX (some (.own d) :: e) = noX e := id rfl
@[simp] theorem noX_lck (d e) : noX (some (.lck d) :: e) = noX e := id rfl
@[simp] theorem lock_zip (a b e) : lockE (.zip a b) e = e := id rfl
@[simp] theorem unlock_zip (a b e e') : unlockE (.zip a b) e e' = e' := id rfl
@[simp] theorem lock_en (a e) : lockE (.enum a) e = e := id rfl
@[simp] theorem unlock_en (a e e') : unlockE (.enum a) e e' = e' := id rfl
@[simp] theorem lock_r1 (a e) : lockE (.range1 a) e = e := id rfl
@[simp] theorem lock_r2 (a b e) : lockE (.range2 a b) e = e := id rfl
@[simp] theorem unlock_r1 (a e e') : unlockE (.range1 a) e e' = e' := id rfl
@[simp] theorem unlock_r2 (a b e e') : unlockE (.range2 a b) e e' = e' := id rfl
def lockK (i : Nat) (e : Es) (t : Option (Option Sl)) : Es := match t with
    | some (some (.own ds)) => e.set i (some (.lck ds))
    | _ => e
@[simp] theorem lockK_own (i e ds) : lockK i e (some (some (.own ds))) = e.set i (some (.lck ds)) := id rfl
@[simp] theorem lockK_val (i e d) : lockK i e (some (some (.val d))) = e := id rfl
@[simp] theorem lockK_lck (i e d) : lockK i e (some (some (.lck d))) = e := id rfl
@[simp] theorem lock_var (i e) : lockE (.itv (.var i)) e = lockK i e (e[i]?) := id rfl
def unlockK2 (i : Nat) (ds : List D) (e : Es) (t : Option (Option Sl)) : Es := match t with
      | some (some (.lck ds)) => e.set i (some (.own ds))
      | _ => e
def unlockK (i : Nat) (e : Es) (t : Option (Option Sl)) : Es := match t with
    | some (some (.own ds)) => unlockK2 i ds e (e[i]?)
    | _ => e
@[simp] theorem unlockK_own (i e ds) : unlockK i e (some (some (.own ds))) = unlockK2 i ds e (e[i]?) := id rfl
@[simp] theorem unlockK_val (i e d) : unlockK i e (some (some (.val d))) = e := id rfl
@[simp] theorem unlockK_lck (i e d) : unlockK i e (some (some (.lck d))) = e := id rfl
@[simp] theorem unlockK2_lck (i ds e d) : unlockK2 i ds e (some (some (.lck d))) = e.set i (some (.own d)) := id rfl
@[simp] theorem unlock_var (i e0 e) : unlockE (.itv (.var i)) e0 e = unlockK i e (e0[i]?) := id rfl
@[simp] theorem lo_int (i e) : lockE (.itv (.int i)) e = e := id rfl
@[simp] theorem un_int (i e e2) : unlockE (.itv (.int i)) e e2 = e2 := id rfl
@[simp] theorem lo_bl (i e) : lockE (.itv (.bl i)) e = e := id rfl
@[simp] theorem un_bl (i e e2) : unlockE (.itv (.bl i)) e e2 = e2 := id rfl
@[simp] theorem lo_non (e) : lockE (.itv .non) e = e := id rfl
@[simp] theorem un_non (e e2) : unlockE (.itv .non) e e2 = e2 := id rfl
@[simp] theorem lo_str (i e) : lockE (.itv (.str i)) e = e := id rfl
@[simp] theorem un_str (i e e2) : unlockE (.itv (.str i)) e e2 = e2 := id rfl
@[simp] theorem lo_gl (x d e) : lockE (.itv (.gl x d)) e = e := id rfl
@[simp] theorem un_gl (x d e e2) : unlockE (.itv (.gl x d)) e e2 = e2 := id rfl
@[simp] theorem lo_bin (o a b e) : lockE (.itv (.bin o a b)) e = e := id rfl
@[simp] theorem un_bin (o a b e e2) : unlockE (.itv (.bin o a b)) e e2 = e2 := id rfl
@[simp] theorem lo_neg (a e) : lockE (.itv (.neg a)) e = e := id rfl
@[simp] theorem un_neg (a e e2) : unlockE (.itv (.neg a)) e e2 = e2 := id rfl
@[simp] theorem lo_not (a e) : lockE (.itv (.not a)) e = e := id rfl
@[simp] theorem un_not (a e e2) : unlockE (.itv (.not a)) e e2 = e2 := id rfl
@[simp] theorem lo_and (a b e) : lockE (.itv (.and a b)) e = e := id rfl
@[simp] theorem un_and (a b e e2) : unlockE (.itv (.and a b)) e e2 = e2 := id rfl
@[simp] theorem lo_or (a b e) : lockE (.itv (.or a b)) e = e := id rfl
@[simp] theorem un_or (a b e e2) : unlockE (.itv (.or a b)) e e2 = e2 := id rfl
@[simp] theorem lo_cmp (o a b e) : lockE (.itv (.cmp o a b)) e = e := id rfl
@[simp] theorem un_cmp (o a b e e2) : unlockE (.itv (.cmp o a b)) e e2 = e2 := id rfl
@[simp] theorem lo_cmp2 (o p a b c e) : lockE (.itv (.cmp2 o p a b c)) e = e := id rfl
@[simp] theorem un_cmp2 (o p a b c e e2) : unlockE (.itv (.cmp2 o p a b c)) e e2 = e2 := id rfl
@[simp] theorem lo_isC (n c a e) : lockE (.itv (.isC n c a)) e = e := id rfl
@[simp] theorem un_isC (n c a e e2) : unlockE (.itv (.isC n c a)) e e2 = e2 := id rfl
@[simp] theorem lo_ite (c a b e) : lockE (.itv (.ite c a b)) e = e := id rfl
@[simp] theorem un_ite (c a b e e2) : unlockE (.itv (.ite c a b)) e e2 = e2 := id rfl
@[simp] theorem lo_tup (es e) : lockE (.itv (.tup es)) e = e := id rfl
@[simp] theorem un_tup (es e e2) : unlockE (.itv (.tup es)) e e2 = e2 := id rfl
@[simp] theorem lo_lst (es e) : lockE (.itv (.lst es)) e = e := id rfl
@[simp] theorem un_lst (es e e2) : unlockE (.itv (.lst es)) e e2 = e2 := id rfl
@[simp] theorem lo_ix (a b e) : lockE (.itv (.ix a b)) e = e := id rfl
@[simp] theorem un_ix (a b e e2) : unlockE (.itv (.ix a b)) e e2 = e2 := id rfl
@[simp] theorem lo_sl (a l h e) : lockE (.itv (.sl a l h)) e = e := id rfl
@[simp] theorem un_sl (a l h e e2) : unlockE (.itv (.sl a l h)) e e2 = e2 := id rfl
@[simp] theorem lo_call (f es e) : lockE (.itv (.call f es)) e = e := id rfl
@[simp] theorem un_call (f es e e2) : unlockE (.itv (.call f es)) e e2 = e2 := id rfl
@[simp] theorem lo_bi (f es e) : lockE (.itv (.bi f es)) e = e := id rfl
@[simp] theorem un_bi (f es e e2) : unlockE (.itv (.bi f es)) e e2 = e2 := id rfl
@[simp] theorem lo_isi (a ts e) : lockE (.itv (.isi a ts)) e = e := id rfl
@[simp] theorem un_isi (a ts e e2) : unlockE (.itv (.isi a ts)) e e2 = e2 := id rfl
@[simp] theorem lo_comp (tg it c elt e) : lockE (.itv (.comp tg it c elt)) e = e := id rfl
@[simp] theorem un_comp (tg it c elt e e2) : unlockE (.itv (.comp tg it c elt)) e e2 = e2 := id rfl
@[simp] theorem lo_comp2 (tg it c tg1 it1 c1 elt e) : lockE (.itv (.comp2 tg it c tg1 it1 c1 elt)) e = e := id rfl
@[simp] theorem un_comp2 (tg it c tg1 it1 c1 elt e e2) : unlockE (.itv (.comp2 tg it c tg1 it1 c1 elt)) e e2 = e2 := id rfl
@[simp] theorem lo_pop (i e) : lockE (.itv (.pop i)) e = e := id rfl
@[simp] theorem un_pop (i e e2) : unlockE (.itv (.pop i)) e e2 = e2 := id rfl
@[simp] theorem lo_pop0 (i a e) : lockE (.itv (.pop0 i a)) e = e := id rfl
@[simp] theorem un_pop0 (i a e e2) : unlockE (.itv (.pop0 i a)) e e2 = e2 := id rfl
@[simp] theorem lo_fld (i e) : lockE (.itv (.fld i)) e = e := id rfl
@[simp] theorem un_fld (i e e2) : unlockE (.itv (.fld i)) e e2 = e2 := id rfl
@[simp] theorem lo_isx (i c e) : lockE (.itv (.isx i c)) e = e := id rfl
@[simp] theorem un_isx (i c e e2) : unlockE (.itv (.isx i c)) e e2 = e2 := id rfl
@[simp] theorem x_nop (e) : exec P C M S np fl .nop e = .ok .next e := id rfl
@[simp] theorem x_seq (a b e) : exec P C M S np fl (.seq a b) e = (exec P C M S np fl a e).bind (seqK P C M S np fl b) := id rfl
@[simp] theorem x_asg (tg a e) : exec P C M S np fl (.asg tg a) e = (evE P C S a e).bind (asgK tg) := id rfl
def parK (is : List Nat) (bs : List Bv) (e1 : Es) : R Flow := nextK (parS is bs e1)
@[simp] theorem parK_e (is bs e) : parK is bs e = nextK (parS is bs e) := id rfl
@[simp] theorem x_par (is es e) : exec P C M S np fl (.par is es) e = (evA P C S es e).bind (parK is) := id rfl
@[simp] theorem x_set (i a b e) : exec P C M S np fl (.setIx i a b) e = (evE P C S b e).fz.bind (setK1 P C S i a) := id rfl
@[simp] theorem x_aug (i o a e) : exec P C M S np fl (.aug i o a) e = augK1 P C S i o a e (e[i]?) := id rfl
@[simp] theorem x_expr (a e) : exec P C M S np fl (.expr a) e = (evE P C S a e).bind expK := id rfl
@[simp] theorem x_app (i a e) : exec P C M S np fl (.append i a) e = appK P C S i a e (e[i]?) := id rfl
@[simp] theorem x_rev (i e) : exec P C M S np fl (.reverse i) e = revK i e (e[i]?) := id rfl
@[simp] theorem x_ite (c a b e) : exec P C M S np fl (.ite c a b) e = (evT P C S c e).bind (sIteK P C M S np fl a b) := id rfl
@[simp] theorem x_for (tg it b e) : exec P C M S np fl (.for_ tg it b) e = (evI P C S it e).bind (forK P C M S np fl tg it b) := id rfl
@[simp] theorem x_while (c b e) : exec P C M S np fl (.while_ c b) e = whileGo (evT P C S c) (exec P C M S np fl b) fl e := id rfl
@[simp] theorem x_ret (a e) : exec P C M S np fl (.ret a) e = retS np a e (evE P C S a e) := id rfl
@[simp] theorem x_ret0 (e) : exec P C M S np fl .ret0 e = .ok (.ret (.val .non)) e := id rfl
@[simp] theorem x_raise (c a e) : exec P C M S np fl (.raise c a) e = (evE P C S a e).fz.bind (raiseK M c) := id rfl
@[simp] theorem x_brk (e) : exec P C M S np fl .brk e = .ok .brk e := id rfl
@[simp] theorem x_cont (e) : exec P C M S np fl .cont e = .ok .cont e := id rfl
@[simp] theorem x_try (b h e) : exec P C M S np fl (.try_ b h) e = tryK P C M S np fl h (exec P C M S np fl b e) := by
  show (match exec P C M S np fl b e with | .ok f e1 => _ | .exc c d e1 => _ | .bad => _) = tryK P C M S np fl h (exec P C M S np fl b e)
  cases exec P C M S np fl b e <;> rfl
@[simp] theorem ret_int (i e q) : retS np (.int i) e q = q.bind retK := id rfl
@[simp] theorem ret_bl (i e q) : retS np (.bl i) e q = q.bind retK := id rfl
@[simp] theorem ret_non (e q) : retS np .non e q = q.bind retK := id rfl
@[simp] theorem ret_str (i e q) : retS np (.str i) e q = q.bind retK := id rfl
@[simp] theorem ret_gl (x d e q) : retS np (.gl x d) e q = q.bind retK := id rfl
@[simp] theorem ret_bin (o a b e q) : retS np (.bin o a b) e q = q.bind retK := id rfl
@[simp] theorem ret_neg (a e q) : retS np (.neg a) e q = q.bind retK := id rfl
@[simp] theorem ret_not (a e q) : retS np (.not a) e q = q.bind retK := id rfl
@[simp] theorem ret_and (a b e q) : retS np (.and a b) e q = q.bind retK := id rfl
@[simp] theorem ret_or (a b e q) : retS np (.or a b) e q = q.bind retK := id rfl
@[simp] theorem ret_cmp (o a b e q) : retS np (.cmp o a b) e q = q.bind retK := id rfl
@[simp] theorem ret_cmp2 (o p a b c e q) : retS np (.cmp2 o p a b c) e q = q.bind retK := id rfl
@[simp] theorem ret_isC (n c a e q) : retS np (.isC n c a) e q = q.bind retK := id rfl
@[simp] theorem ret_ite (c a b e q) : retS np (.ite c a b) e q = q.bind retK := id rfl
@[simp] theorem ret_tup (es e q) : retS np (.tup es) e q = q.bind retK := id rfl
@[simp] theorem ret_lst (es e q) : retS np (.lst es) e q = q.bind retK := id rfl
@[simp] theorem ret_ix (a b e q) : retS np (.ix a b) e q = q.bind retK := id rfl
@[simp] theorem ret_sl (a l h e q) : retS np (.sl a l h) e q = q.bind retK := id rfl
@[simp] theorem ret_call (f es e q) : retS np (.call f es) e q = q.bind retK := id rfl
@[simp] theorem ret_bi (f es e q) : retS np (.bi f es) e q = q.bind retK := id rfl
@[simp] theorem ret_isi (a ts e q) : retS np (.isi a ts) e q = q.bind retK := id rfl
@[simp] theorem ret_comp (tg it c elt e q) : retS np (.comp tg it c elt) e q = q.bind retK := id rfl
@[simp] theorem ret_comp2 (tg it c tg1 it1 c1 elt e q) : retS np (.comp2 tg it c tg1 it1 c1 elt) e q = q.bind retK := id rfl
@[simp] theorem ret_pop (i e q) : retS np (.pop i) e q = q.bind retK := id rfl
@[simp] theorem ret_pop0 (i a e q) : retS np (.pop0 i a) e q = q.bind retK := id rfl
@[simp] theorem ret_fld (i e q) : retS np (.fld i) e q = q.bind retK := id rfl
@[simp] theorem ret_isx (i c e q) : retS np (.isx i c) e q = q.bind retK := id rfl
end
section
@[simp] theorem truth_non : truthD .non = some false := id rfl
@[simp] theorem truth_bl (b) : truthD (.bl b) = some b := id rfl
@[simp] theorem truth_int (i) : truthD (.int i) = some (i != 0) := id rfl
@[simp] theorem truth_tup (xs) : truthD (.tup xs) = some (!xs.isEmpty) := id rfl
@[simp] theorem truth_lst (xs) : truthD (.lst xs) = some (!xs.isEmpty) := id rfl
@[simp] theorem add_int (i j) : binD .add (.int i) (.int j) = some (.val (.int (i + j))) := id rfl
@[simp] theorem add_tup (xs ys) : binD .add (.tup xs) (.tup ys) = if xs.length + ys.length ≤ sizeMax then some (.val (.tup (xs ++ ys))) else none := id rfl
@[simp] theorem add_lst (xs ys) : binD .add (.lst xs) (.lst ys) = if xs.length + ys.length ≤ sizeMax then some (.own (xs ++ ys)) else none := id rfl
@[simp] theorem sub_int (i j) : binD .sub (.int i) (.int j) = some (.val (.int (i - j))) := id rfl
@[simp] theorem mul_int (i j) : binD .mul (.int i) (.int j) = if mulOk i j then some (.val (.int (i * j))) else none := id rfl
@[simp] theorem fdiv_int (i j) : binD .fdiv (.int i) (.int j) = if divOk j then some (.val (.int (i / j))) else none := id rfl
@[simp] theorem mod_int (i j) : binD .mod (.int i) (.int j) = if 0 < j then some (.val (.int (i % j))) else none := id rfl
@[simp] theorem pow_int (i j) : binD .pow (.int i) (.int j) = if powOk i j then some (.val (.int (i ^ j.toNat))) else none := id rfl
@[simp] theorem cmp_lt (i j) : cmpD .lt (.int i) (.int j) = some (decide (i < j)) := id rfl
@[simp] theorem cmp_le (i j) : cmpD .le (.int i) (.int j) = some (decide (i ≤ j)) := id rfl
@[simp] theorem cmp_gt (i j) : cmpD .gt (.int i) (.int j) = some (decide (j < i)) := id rfl
@[simp] theorem cmp_ge (i j) : cmpD .ge (.int i) (.int j) = some (decide (j ≤ i)) := id rfl
@[simp] theorem cmp_eq (a b) : cmpD .eq a b = eqD a b := id rfl
@[simp] theorem cmp_ne (a b) : cmpD .ne a b = (eqD a b).map (!·) := id rfl
@[simp] theorem cmp_in_lst (a xs) : cmpD .isin a (.lst xs) = inD a xs := id rfl
@[simp] theorem cmp_in_tup (a xs) : cmpD .isin a (.tup xs) = inD a xs := id rfl
@[simp] theorem cmp_ni_lst (a xs) : cmpD .notin a (.lst xs) = (inD a xs).map (!·) := id rfl
@[simp] theorem cmp_ni_tup (a xs) : cmpD .notin a (.tup xs) = (inD a xs).map (!·) := id rfl
@[simp] theorem eq_int (i j) : eqD (.int i) (.int j) = some (i == j) := id rfl
@[simp] theorem eq_bl (i j) : eqD (.bl i) (.bl j) = some (i == j) := id rfl
@[simp] theorem eq_str (i j) : eqD (.str i) (.str j) = some (i == j) := id rfl
@[simp] theorem is_non : isD none .non = true := id rfl
@[simp] theorem is_non_bl (b) : isD none (.bl b) = false := id rfl
@[simp] theorem is_non_int (b) : isD none (.int b) = false := id rfl
@[simp] theorem is_non_str (b) : isD none (.str b) = false := id rfl
@[simp] theorem is_non_tup (b) : isD none (.tup b) = false := id rfl
@[simp] theorem is_non_lst (b) : isD none (.lst b) = false := id rfl
@[simp] theorem is_bl_non (b) : isD (some b) .non = false := id rfl
@[simp] theorem is_bl_bl (b c) : isD (some b) (.bl c) = (b == c) := id rfl
@[simp] theorem is_bl_int (b c) : isD (some b) (.int c) = false := id rfl
@[simp] theorem is_bl_str (b c) : isD (some b) (.str c) = false := id rfl
@[simp] theorem is_bl_tup (b c) : isD (some b) (.tup c) = false := id rfl
@[simp] theorem is_bl_lst (b c) : isD (some b) (.lst c) = false := id rfl
@[simp] theorem ix_lst (xs i) : ixD (.lst xs) (.int i) = atD xs i := id rfl
@[simp] theorem ix_tup (xs i) : ixD (.tup xs) (.int i) = atD xs i := id rfl
@[simp] theorem at_0 (x xs) : atD (x :: xs) 0 = some x := id rfl
@[simp] theorem at_1 (x y xs) : atD (x :: y :: xs) 1 = some y := id rfl
@[simp] theorem at_2 (x y z xs) : atD (x :: y :: z :: xs) 2 = some z := id rfl
@[simp] theorem at_3 (x y z a xs) : atD (x :: y :: z :: a :: xs) 3 = some a := id rfl
@[simp] theorem at_4 (x y z a b xs) : atD (x :: y :: z :: a :: b :: xs) 4 = some b := id rfl
@[simp] theorem at_5 (x y z a b c xs) : atD (x :: y :: z :: a :: b :: c :: xs) 5 = some c := id rfl
@[simp] theorem at_m1 (xs) : atD xs (-1) = xs.getLast? := by
  unfold atD
  rw [if_neg (by decide)]
  cases xs with
  | nil => rfl
  | cons x xs =>
    rw [if_pos (by simp only [List.length_cons]; omega), List.getLast?_eq_getElem?]
    congr 1
    simp only [List.length_cons]
    omega
@[simp] theorem sl_lst (xs lo hi) : slD (.lst xs) lo hi = some (.own (cutD xs lo hi)) := id rfl
@[simp] theorem sl_tup (xs lo hi) : slD (.tup xs) lo hi = some (.val (.tup (cutD xs lo hi))) := id rfl
@[simp] theorem seq_lst (xs) : seqD (.lst xs) = some xs := id rfl
@[simp] theorem seq_tup (xs) : seqD (.tup xs) = some xs := id rfl
@[simp] theorem b1_e (f d) : b1 f [d] = f d := id rfl
@[simp] theorem len_e (d) : lenD d = (seqD d).map fun xs => .val (.int xs.length) := id rfl
@[simp] theorem abs_e (i) : absD (.int i) = some (.val (.int (if i < 0 then -i else i))) := id rfl
@[simp] theorem int_e (i) : intD (.int i) = some (.val (.int i)) := id rfl
@[simp] theorem int_b (b) : intD (.bl b) = some (.val (.int (if b then 1 else 0))) := id rfl
@[simp] theorem list_e (d) : listD d = (seqD d).map .own := id rfl
@[simp] theorem tuple_e (d) : tupleD d = (seqD d).map fun xs => .val (.tup xs) := id rfl
@[simp] theorem sum_e (d) : sumD d = ((seqD d).bind intL).map fun ns => .val (.int ns.sum) := id rfl
@[simp] theorem max_1 (d) : maxD1 d = (((seqD d).bind intL).bind maxL).map fun m => .val (.int m) := id rfl
@[simp] theorem min_1 (d) : minD1 d = (((seqD d).bind intL).bind minL).map fun m => .val (.int m) := id rfl
@[simp] theorem max_2 (i j) : maxD [.int i, .int j] = some (.val (.int (max i j))) := by
  show some (Sl.val (.int (if j > i then j else i))) = _
  congr 3
  omega
@[simp] theorem max_e (d) : maxD [d] = maxD1 d := by cases d <;> rfl
@[simp] theorem min_2 (i j) : minD [.int i, .int j] = some (.val (.int (min i j))) := by
  show some (Sl.val (.int (if j < i then j else i))) = _
  congr 3
  omega
@[simp] theorem min_e (d) : minD [d] = minD1 d := by cases d <;> rfl
@[simp] theorem all_e (xs) : allD (.lst xs) = (boolL xs).map fun bs => .val (.bl (bs.all id)) := id rfl
@[simp] theorem any_e (xs) : anyD (.lst xs) = (boolL xs).map fun bs => .val (.bl (bs.any id)) := id rfl
@[simp] theorem sorted_e (d) : sortedD d = (seqD d).bind sortD := id rfl
@[simp] theorem intL_map (ns : List Int) : intL (ns.map D.int) = some ns := by
  induction ns with
  | nil => rfl
  | cons n ns ih => simp [intL, ih]
@[simp] theorem intL_nil : intL [] = some [] := id rfl
@[simp] theorem intL_cons (i r) : intL (.int i :: r) = (intL r).map (i :: ·) := id rfl
@[simp] theorem boolL_map (ns : List Bool) : boolL (ns.map D.bl) = some ns := by
  induction ns with
  | nil => rfl
  | cons n ns ih => simp [boolL, ih]

@[simp] theorem bi_len : biD .len = b1 lenD := id rfl
@[simp] theorem bi_abs : biD .abs = b1 absD := id rfl
@[simp] theorem bi_int : biD .int = b1 intD := id rfl
@[simp] theorem bi_list : biD .list = b1 listD := id rfl
@[simp] theorem bi_tuple : biD .tuple = b1 tupleD := id rfl
@[simp] theorem bi_sum : biD .sum = b1 sumD := id rfl
@[simp] theorem bi_max : biD .max = maxD := id rfl
@[simp] theorem bi_min : biD .min = minD := id rfl
@[simp] theorem bi_sorted : biD .sorted = b1 sortedD := id rfl
@[simp] theorem bi_all : biD .all = b1 allD := id rfl
@[simp] theorem bi_any : biD .any = b1 anyD := id rfl
@[simp] theorem bi_rlist : biD .rlist = rlistD := id rfl
@[simp] theorem ty_non_int  : hasTy .non .int = false := id rfl
@[simp] theorem ty_non_bool  : hasTy .non .bool = false := id rfl
@[simp] theorem ty_non_str  : hasTy .non .str = false := id rfl
@[simp] theorem ty_non_list  : hasTy .non .list = false := id rfl
@[simp] theorem ty_non_tuple  : hasTy .non .tuple = false := id rfl
@[simp] theorem ty_bl_int (b) : hasTy (.bl b) .int = true := id rfl
@[simp] theorem ty_bl_bool (b) : hasTy (.bl b) .bool = true := id rfl
@[simp] theorem ty_bl_str (b) : hasTy (.bl b) .str = false := id rfl
@[simp] theorem ty_bl_list (b) : hasTy (.bl b) .list = false := id rfl
@[simp] theorem ty_bl_tuple (b) : hasTy (.bl b) .tuple = false := id rfl
@[simp] theorem ty_int_int (i) : hasTy (.int i) .int = true := id rfl
@[simp] theorem ty_int_bool (i) : hasTy (.int i) .bool = false := id rfl
@[simp] theorem ty_int_str (i) : hasTy (.int i) .str = false := id rfl
@[simp] theorem ty_int_list (i) : hasTy (.int i) .list = false := id rfl
@[simp] theorem ty_int_tuple (i) : hasTy (.int i) .tuple = false := id rfl
@[simp] theorem ty_str_int (s) : hasTy (.str s) .int = false := id rfl
@[simp] theorem ty_str_bool (s) : hasTy (.str s) .bool = false := id rfl
@[simp] theorem ty_str_str (s) : hasTy (.str s) .str = true := id rfl
@[simp] theorem ty_str_list (s) : hasTy (.str s) .list = false := id rfl
@[simp] theorem ty_str_tuple (s) : hasTy (.str s) .tuple = false := id rfl
@[simp] theorem ty_tup_int (xs) : hasTy (.tup xs) .int = false := id rfl
@[simp] theorem ty_tup_bool (xs) : hasTy (.tup xs) .bool = false := id rfl
@[simp] theorem ty_tup_str (xs) : hasTy (.tup xs) .str = false := id rfl
@[simp] theorem ty_tup_list (xs) : hasTy (.tup xs) .list = false := id rfl
@[simp] theorem ty_tup_tuple (xs) : hasTy (.tup xs) .tuple = true := id rfl
@[simp] theorem ty_lst_int (xs) : hasTy (.lst xs) .int = false := id rfl
@[simp] theorem ty_lst_bool (xs) : hasTy (.lst xs) .bool = false := id rfl
@[simp] theorem ty_lst_str (xs) : hasTy (.lst xs) .str = false := id rfl
@[simp] theorem ty_lst_list (xs) : hasTy (.lst xs) .list = true := id rfl
@[simp] theorem ty_lst_tuple (xs) : hasTy (.lst xs) .tuple = false := id rfl
end
def bodyK (r : R Flow) : R Sl := match r with
    | .ok (.ret s) e => .ok s e
    | .ok .next e => .ok (.val .non) e
    | .exc c d e => .exc c d e
    | _ => .bad
@[simp] theorem bodyK_ret (s e) : bodyK (.ok (.ret s) e) = .ok s e := id rfl
@[simp] theorem bodyK_next (e) : bodyK (.ok .next e) = .ok (.val .non) e := id rfl
@[simp] theorem bodyK_exc (c d e) : bodyK (.exc c d e) = .exc c d e := id rfl
theorem run_body {P : Prog} {n i : Nat} {cc : FnC} (h : P.fns[i]? = some cc) (ss : List Sl) (hl : ss.length = cc.np) : run P (n + 1) i ss = bodyK (exec P.prot (run P n) (mkD P (run P n)) P.sub cc.np P.fuel cc.body (ss.map some ++ List.replicate (cc.nl - cc.np) none)) := by
  simp only [run, h, if_pos hl]
  rfl
/-- what the callee's other places hold at the end -/
def _root_.Pv.R.es {α : Type} : R α → Es
  | .ok _ e => e
  | .exc _ _ e => e
  | .bad => []
end Pv.Pq
namespace Pv.Pq
open PySem
/-- what a turn of a loop may end in: on to the next (I), or out with B -/
def After (I : Es → Prop) (B : R Flow → Prop) (r : R Flow) : Prop := match r with
  | .ok .next e => I e
  | .ok .cont e => I e
  | .ok .brk e => B (.ok .next e)
  | .ok (.ret s) e => B (.ok (.ret s) e)
  | .exc c d e => B (.exc c d e)
  | .bad => False
@[simp] theorem after_next (I B e) : After I B (.ok .next e) = I e := id rfl
@[simp] theorem after_cont (I B e) : After I B (.ok .cont e) = I e := id rfl
@[simp] theorem after_brk (I B e) : After I B (.ok .brk e) = B (.ok .next e) := id rfl
@[simp] theorem after_ret (I B s e) : After I B (.ok (.ret s) e) = B (.ok (.ret s) e) := id rfl
@[simp] theorem after_exc (I B c d e) : After I B (.exc c d e) = B (.exc c d e) := id rfl
theorem forGo_after {asg : D → Es → Option Es} {body : Es → R Flow} (I : Nat → Es → Prop) (B : R Flow → Prop) : ∀ {xs : List D} (n : Nat), (∀ k x e, xs[k]? = some x → I (n + k) e → ∃ e1, asg x e = some e1 ∧ After (I (n + k + 1)) B (body e1)) → (∀ e, I (n + xs.length) e → B (.ok .next e)) → ∀ e, I n e → B (forGo asg body xs e)
  | [], n, _, h, e, i => h e i
  | x :: xs, n, h, he, e, i => by
    obtain ⟨e1, h1, h2⟩ := h 0 x e rfl i
    have rest : ∀ e2, I (n + 1) e2 → B (forGo asg body xs e2) := fun e2 i2 => forGo_after I B (xs := xs) (n + 1) (fun k y e hy hi => by
      have := h (k + 1) y e (by simpa using hy) (by rw [show n + (k + 1) = n + 1 + k by omega]; exact hi)
      rwa [show n + (k + 1) + 1 = n + 1 + k + 1 by omega] at this) (fun e hi => he e (by rw [List.length_cons, show n + (xs.length + 1) = n + 1 + xs.length by omega]; exact hi)) e2 i2
    simp only [forGo, h1]
    cases hb : body e1 with
    | bad => rw [hb] at h2; exact h2.elim
    | exc c d e2 => rw [hb] at h2; exact h2
    | ok fl e2 =>
      rw [hb] at h2
      cases fl with
      | next => exact rest e2 h2
      | cont => exact rest e2 h2
      | brk => exact h2
      | ret s => exact h2
section
variable {P : Nat → Nat → Bool} {C : Nat → List Sl → R Sl} {M : Nat → D → Option D} {S : Nat → Nat → Bool} {np fl : Nat}
/-- a turn behind the target's store -/
def TurnT (P : Nat → Nat → Bool) (C : Nat → List Sl → R Sl) (M : Nat → D → Option D) (S : Nat → Nat → Bool) (np fl : Nat) (b : Sta) (I : Es → Prop) (B : R Flow → Prop) (t : Option Es) : Prop := match t with
  | some e => After I B (exec P C M S np fl b e)
  | none => False
@[simp] theorem turnT_some (b : Sta) (I B e) : TurnT P C M S np fl b I B (some e) = After I B (exec P C M S np fl b e) := id rfl
theorem turnT_ex {b : Sta} {I B t} (h : TurnT P C M S np fl b I B t) : ∃ e, t = some e ∧ After I B (exec P C M S np fl b e) := by
  cases t with
  | none => exact h.elim
  | some e => exact ⟨e, rfl, h⟩
/-- a for statement -/
theorem exec_for {tg : Tg} {it : Ex} {b : Sta} {e e1 : Es} {xs : List D} (I : Nat → Es → Prop) (B : R Flow → Prop) (hit : evI P C S it e = .ok xs e1) (h0 : I 0 (lockE it e1))
    (hs : ∀ (k : Nat) (x : D) e', xs[k]? = some x → I k e' → TurnT P C M S np fl b (I (k + 1)) (fun r => B (r.mapE (unlockE it e1))) (putT tg (.val x) e'))
    (he : ∀ e', I xs.length e' → B (.ok .next (unlockE it e1 e'))) : B (exec P C M S np fl (.for_ tg it b) e) := by
  rw [x_for, hit, bind_ok, forK_e]
  exact forGo_after I (fun r => B (r.mapE (unlockE it e1))) 0 (fun k x e hx hi => by
    rw [Nat.zero_add] at hi ⊢
    exact turnT_ex (hs k x e hx hi)) (fun e hi => he e (by rwa [Nat.zero_add] at hi)) _ h0
theorem rangeL_nth {lo hi : Int} {k : Nat} {x : D} (h : (rangeL lo hi)[k]? = some x) : x = .int (lo + k) ∧ lo + k < hi := by
  unfold rangeL at h
  rw [List.getElem?_map, Option.map_eq_some_iff] at h
  obtain ⟨j, hj, rfl⟩ := h
  obtain ⟨h1, h2⟩ := List.getElem?_eq_some_iff.mp hj
  rw [List.getElem_range] at h2
  subst h2
  rw [List.length_range] at h1
  exact ⟨rfl, by omega⟩
@[simp] theorem rangeL_length (lo hi : Int) : (rangeL lo hi).length = (hi - lo).toNat := by
  unfold rangeL
  rw [List.length_map, List.length_range]
/-- .. over range(n) -/
theorem exec_range {i : Nat} {a : Ex} {b : Sta} {e : Es} {n : Nat} (hn : n < 2 ^ 60) (I : Nat → Es → Prop) (B : R Flow → Prop) (hit : evE P C S a e = .ok (.val (.int n)) e) (h0 : I 0 e)
    (hs : ∀ k e', k < n → I k e' → TurnT P C M S np fl b (I (k + 1)) B (putS e' i (.val (.int k))))
    (he : ∀ e', I n e' → B (.ok .next e')) : B (exec P C M S np fl (.for_ (.one i) (.range1 a) b) e) := by
  have hm : ∀ r : R Flow, r.mapE (fun x => x) = r := fun r => by cases r <;> rfl
  refine exec_for (xs := rangeL 0 n) (e1 := e) I B ?_ h0 (fun k x e' hx hi => ?_) (fun e' hi => ?_)
  · rw [i_r1, hit, bind_ok, r1K_e, if_pos (by unfold okR; omega)]
  · obtain ⟨rfl, hk⟩ := rangeL_nth hx
    have q := hs k e' (by omega) hi
    have : (fun r : R Flow => B (r.mapE (unlockE (.range1 a) e))) = B := by
      funext r
      rw [show unlockE (.range1 a) e = fun x => x from rfl, hm]
    rw [this, putT_one_val, Int.zero_add]
    exact q
  · rw [rangeL_length] at hi
    rw [show ((n : Int) - 0).toNat = n by omega] at hi
    exact he e' hi
/-- .. over range(n) -/
theorem exec_range_to {i : Nat} {a : Ex} {b : Sta} {e e1 : Es} {n : Nat} (hn : n < 2 ^ 60) (I : Nat → Es → Prop) (B : R Flow → Prop) (hit : evE P C S a e = .ok (.val (.int n)) e1) (h0 : I 0 e1)
    (hs : ∀ k e', k < n → I k e' → TurnT P C M S np fl b (I (k + 1)) B (putS e' i (.val (.int k))))
    (he : ∀ e', I n e' → B (.ok .next e')) : B (exec P C M S np fl (.for_ (.one i) (.range1 a) b) e) := by
  have hm : ∀ r : R Flow, r.mapE (fun x => x) = r := fun r => by cases r <;> rfl
  refine exec_for (xs := rangeL 0 n) (e1 := e1) I B ?_ h0 (fun k x e' hx hi => ?_) (fun e' hi => ?_)
  · rw [i_r1, hit, bind_ok, r1K_e, if_pos (by unfold okR; omega)]
  · obtain ⟨rfl, hk⟩ := rangeL_nth hx
    have q := hs k e' (by omega) hi
    have : (fun r : R Flow => B (r.mapE (unlockE (.range1 a) e1))) = B := by
      funext r
      rw [show unlockE (.range1 a) e1 = fun x => x from rfl, hm]
    rw [this, putT_one_val, Int.zero_add]
    exact q
  · rw [rangeL_length] at hi
    rw [show ((n : Int) - 0).toNat = n by omega] at hi
    exact he e' hi
/-- .. over range(a, b) -/
theorem exec_range2 {i : Nat} {a a' : Ex} {b : Sta} {e : Es} {lo hi : Int} (hl : -(2 ^ 60) < lo ∧ lo < 2 ^ 60) (hh : -(2 ^ 60) < hi ∧ hi < 2 ^ 60) (I : Nat → Es → Prop) (B : R Flow → Prop) (hit : evE P C S a e = .ok (.val (.int lo)) e) (hit2 : evE P C S a' e = .ok (.val (.int hi)) e) (h0 : I 0 e)
    (hs : ∀ (k : Nat) e', lo + k < hi → I k e' → TurnT P C M S np fl b (I (k + 1)) B (putS e' i (.val (.int (lo + k)))))
    (he : ∀ e', I (hi - lo).toNat e' → B (.ok .next e')) : B (exec P C M S np fl (.for_ (.one i) (.range2 a a') b) e) := by
  have hm : ∀ r : R Flow, r.mapE (fun x => x) = r := fun r => by cases r <;> rfl
  refine exec_for (xs := rangeL lo hi) (e1 := e) I B ?_ h0 (fun k x e' hx hi' => ?_) (fun e' hi' => ?_)
  · rw [i_r2, hit, bind_ok, r2K1_e, hit2, bind_ok, r2K2_e, if_pos (by unfold okR; omega)]
  · obtain ⟨rfl, hk⟩ := rangeL_nth hx
    have q := hs k e' (by omega) hi'
    have : (fun r : R Flow => B (r.mapE (unlockE (.range2 a a') e))) = B := by
      funext r
      rw [show unlockE (.range2 a a') e = fun x => x from rfl, hm]
    rw [this]
    exact q
  · rw [rangeL_length] at hi'
    exact he e' hi'
/-- less of the measure -/
def Less (I : Nat → Es → Prop) (k : Nat) (e : Es) : Prop := ∃ k', k' < k ∧ I k' e
def WTurn (P : Nat → Nat → Bool) (C : Nat → List Sl → R Sl) (M : Nat → D → Option D) (S : Nat → Nat → Bool) (np fl : Nat) (b : Sta) (I : Nat → Es → Prop) (k : Nat) (B : R Flow → Prop) (r : R Bool) : Prop := match r with
  | .ok true e => After (Less I k) B (exec P C M S np fl b e)
  | .ok false e => B (.ok .next e)
  | .exc c d e => B (.exc c d e)
  | .bad => False
@[simp] theorem wturn_true (b : Sta) (I k B e) : WTurn P C M S np fl b I k B (.ok true e) = After (Less I k) B (exec P C M S np fl b e) := id rfl
@[simp] theorem wturn_false (b : Sta) (I k B e) : WTurn P C M S np fl b I k B (.ok false e) = B (.ok .next e) := id rfl
theorem whileGo_after {c : Ex} {b : Sta} (I : Nat → Es → Prop) (B : R Flow → Prop) (h : ∀ k e, I k e → WTurn P C M S np fl b I k B (evT P C S c e)) : ∀ (n k : Nat) (e : Es), k < n → I k e → B (whileGo (evT P C S c) (exec P C M S np fl b) n e) := by
  intro n
  induction n with
  | zero => intro k e hk; omega
  | succ n ih =>
    intro k e hk hi
    have q := h k e hi
    unfold whileGo
    cases hc : evT P C S c e with
    | bad => rw [hc] at q; exact q.elim
    | exc _ _ _ => rw [hc] at q; exact q
    | ok t e1 =>
      rw [hc] at q
      cases t with
      | false => exact q
      | true =>
        have q : After (Less I k) B (exec P C M S np fl b e1) := q
        have go : ∀ e2, Less I k e2 → B (whileGo (evT P C S c) (exec P C M S np fl b) n e2) := fun e2 ⟨k', h1, h2⟩ => ih k' e2 (by omega) h2
        simp only
        cases hb : exec P C M S np fl b e1 with
        | bad => rw [hb] at q; exact q.elim
        | exc _ _ _ => rw [hb] at q; exact q
        | ok f e2 =>
          rw [hb] at q
          cases f with
          | next => exact go e2 q
          | cont => exact go e2 q
          | brk => exact q
          | ret s => exact q
/-- a while statement, by what is left to do -/
theorem exec_while {c : Ex} {b : Sta} {e : Es} (I : Nat → Es → Prop) (B : R Flow → Prop) (m : Nat) (hm : m < fl) (h0 : I m e) (h : ∀ k e, I k e → WTurn P C M S np fl b I k B (evT P C S c e)) : B (exec P C M S np fl (.while_ c b) e) := by
  rw [x_while]
  exact whileGo_after I B h fl m e hm h0
/-- a loop that only looks: none is wrong -/
theorem check_ok {i : Nat} {a : Ex} {b : Sta} {n : Nat} (env : Option Sl → Es) (t0 : Fr) (hn : n < 2 ^ 60) (hit : evE P C S a (env t0.sl) = .ok (.val (.int n)) (env t0.sl)) (hput : ∀ (t : Fr) (k : Nat), putS (env t.sl) i (.val (.int k)) = some (env (some (.val (.int k)))))
    (hok : ∀ k < n, exec P C M S np fl b (env (some (.val (.int k)))) = .ok .next (env (some (.val (.int k))))) : ∃ t : Fr, exec P C M S np fl (.for_ (.one i) (.range1 a) b) (env t0.sl) = .ok .next (env t.sl) := by
  refine exec_range hn (fun k e => ∃ t : Fr, e = env t.sl) (fun r => ∃ t : Fr, r = .ok .next (env t.sl)) hit ⟨t0, rfl⟩ (fun k e hk hi => ?_) (fun e hi => ?_)
  · obtain ⟨t, rfl⟩ := hi
    rw [hput, turnT_some, hok k hk, after_next]
    exact ⟨.val (.int k), rfl⟩
  · obtain ⟨t, rfl⟩ := hi
    exact ⟨t, rfl⟩
/-- .. the first wrong one is k -/
theorem check_bad {i : Nat} {a : Ex} {b : Sta} {n : Nat} (env : Option Sl → Es) (t0 : Fr) (hn : n < 2 ^ 60) (hit : evE P C S a (env t0.sl) = .ok (.val (.int n)) (env t0.sl)) (hput : ∀ (t : Fr) (k : Nat), putS (env t.sl) i (.val (.int k)) = some (env (some (.val (.int k)))))
    (k : Nat) (hk : k < n) (hok : ∀ j < k, exec P C M S np fl b (env (some (.val (.int j)))) = .ok .next (env (some (.val (.int j))))) {c : Nat} {d : D} {e' : Es} (hb : exec P C M S np fl b (env (some (.val (.int k)))) = .exc c d e') : exec P C M S np fl (.for_ (.one i) (.range1 a) b) (env t0.sl) = .exc c d e' := by
  refine exec_range hn (fun j e => j ≤ k ∧ ∃ t : Fr, e = env t.sl) (fun r => r = .exc c d e') hit ⟨by omega, t0, rfl⟩ (fun j e hj hi => ?_) (fun e hi => by omega)
  obtain ⟨hjk, t, rfl⟩ := hi
  rw [hput, turnT_some]
  by_cases h : j = k
  · subst h
    rw [hb, after_exc]
  · rw [hok j (by omega), after_next]
    exact ⟨by omega, .val (.int j), rfl⟩
/-! comprehensions -/
def EltS (I : Es → List D → Prop) (acc : List D) (wp : Es → Es) (r : R D) : Prop := match r with
  | .ok d e => I (wp e) (acc ++ [d])
  | _ => False
@[simp] theorem eltS_ok (I acc wp d e) : EltS I acc wp (.ok d e) = I (wp e) (acc ++ [d]) := id rfl
def CondS (I : Es → List D → Prop) (acc : List D) (wp : Es → Es) (elt : Es → R D) (r : R Bool) : Prop := match r with
  | .ok true e => EltS I acc wp (elt e)
  | .ok false e => I (wp e) acc
  | _ => False
theorem condS_ok (I acc wp elt b e) : CondS I acc wp elt (.ok b e) = if b then EltS I acc wp (elt e) else I (wp e) acc := by cases b <;> rfl
def CStep (I : Es → List D → Prop) (acc : List D) (wp : Es → Es) (cond : Es → R Bool) (elt : Es → R D) (t : Option Es) : Prop := match t with
  | some e => CondS I acc wp elt (cond e)
  | none => False
theorem compGo_after {asg : D → Es → Option Es} {wp : Es → Es} {cond : Es → R Bool} {elt : Es → R D} (I : Nat → Es → List D → Prop) (B : R (List D) → Prop) : ∀ {xs : List D} (n : Nat), n + xs.length ≤ sizeMax → (∀ k x e acc, xs[k]? = some x → I (n + k) e acc → CStep (I (n + k + 1)) acc wp cond elt (asg x e)) → (∀ e acc, I (n + xs.length) e acc → B (.ok acc e)) → ∀ e acc, acc.length ≤ n → I n e acc → B (compGo asg wp cond elt xs e acc)
  | [], n, _, _, h, e, acc, _, i => h e acc i
  | x :: xs, n, hn, h, he, e, acc, hl, i => by
    rw [List.length_cons] at hn
    have hst := h 0 x e acc rfl i
    obtain ⟨e1, h1, b, e2, h2, h3⟩ : ∃ e1, asg x e = some e1 ∧ ∃ b e2, cond e1 = .ok b e2 ∧ if b then ∃ d e3, elt e2 = .ok d e3 ∧ I (n + 0 + 1) (wp e3) (acc ++ [d]) else I (n + 0 + 1) (wp e2) acc := by
      unfold CStep at hst
      cases ha : asg x e with
      | none => rw [ha] at hst; exact hst.elim
      | some e1 =>
        rw [ha] at hst
        refine ⟨e1, rfl, ?_⟩
        simp only at hst
        cases hc : cond e1 with
        | bad => rw [hc] at hst; exact hst.elim
        | exc _ _ _ => rw [hc] at hst; exact hst.elim
        | ok b e2 =>
          rw [hc, condS_ok] at hst
          refine ⟨b, e2, rfl, ?_⟩
          cases b with
          | false => exact hst
          | true =>
            rw [if_pos rfl] at hst ⊢
            cases he' : elt e2 with
            | bad => rw [he'] at hst; exact hst.elim
            | exc _ _ _ => rw [he'] at hst; exact hst.elim
            | ok d e3 => rw [he'] at hst; exact ⟨d, e3, rfl, hst⟩
    have rest : ∀ e3 acc', acc'.length ≤ n + 1 → I (n + 1) e3 acc' → B (compGo asg wp cond elt xs e3 acc') := fun e3 acc' l3 i3 => compGo_after I B (xs := xs) (n + 1) (by omega) (fun k y e acc hy hi => by
      have := h (k + 1) y e acc (by simpa using hy) (by rw [show n + (k + 1) = n + 1 + k by omega]; exact hi)
      rwa [show n + (k + 1) + 1 = n + 1 + k + 1 by omega] at this) (fun e acc hi => he e acc (by rw [List.length_cons, show n + (xs.length + 1) = n + 1 + xs.length by omega]; exact hi)) e3 acc' l3 i3
    simp only [compGo, h1, h2]
    cases b with
    | false => exact rest _ _ (by omega) h3
    | true =>
      obtain ⟨d, e3, h4, h5⟩ := h3
      simp only [h4]
      rw [if_pos (by omega)]
      exact rest _ _ (by rw [List.length_append, List.length_singleton]; omega) h5
/-- a turn of a comprehension -/
def TurnC (P : Nat → Nat → Bool) (C : Nat → List Sl → R Sl) (S : Nat → Nat → Bool) (tg : Tg) (c elt : Ex) (I : Es → List D → Prop) (acc : List D) (t : Option Es) : Prop := CStep I acc (fun e => wipeE e tg.ns) (evT P C S c) (fun e => (evE P C S elt e).fz) t
def TurnE (P : Nat → Nat → Bool) (C : Nat → List Sl → R Sl) (S : Nat → Nat → Bool) (tg : Tg) (elt : Ex) (I : Es → List D → Prop) (acc : List D) (b : Bool) (e : Es) : Prop := if b then EltS I acc (fun e => wipeE e tg.ns) (evE P C S elt e).fz else I (wipeE e tg.ns) acc
def TurnD (P : Nat → Nat → Bool) (C : Nat → List Sl → R Sl) (S : Nat → Nat → Bool) (tg : Tg) (elt : Ex) (I : Es → List D → Prop) (acc : List D) (r : R Bool) : Prop := match r with
  | .ok b e => TurnE P C S tg elt I acc b e
  | _ => False
def EltT (tg : Tg) (I : Es → List D → Prop) (acc : List D) (r : R D) : Prop := EltS I acc (fun e => wipeE e tg.ns) r
@[simp] theorem turnC_some (tg c elt I acc e) : TurnC P C S tg c elt I acc (some e) = TurnD P C S tg elt I acc (evT P C S c e) := by
  unfold TurnC CStep TurnD
  cases h : evT P C S c e with
  | ok b e => simp only [h, condS_ok]; rfl
  | bad => simp only [h]; rfl
  | exc _ _ _ => simp only [h]; rfl
@[simp] theorem turnD_true (tg elt I acc e) : TurnD P C S tg elt I acc (.ok true e) = EltT tg I acc (evE P C S elt e).fz := id rfl
@[simp] theorem turnD_false (tg elt I acc e) : TurnD P C S tg elt I acc (.ok false e) = I (wipeE e tg.ns) acc := id rfl
theorem turnD_ok (tg elt I acc b e) : TurnD P C S tg elt I acc (.ok b e) = if b then EltT tg I acc (evE P C S elt e).fz else I (wipeE e tg.ns) acc := by cases b <;> rfl
@[simp] theorem eltT_ok (tg I acc d e) : EltT tg I acc (.ok d e) = I (wipeE e tg.ns) (acc ++ [d]) := id rfl
theorem ev_comp {tg : Tg} {it c elt : Ex} {e e1 : Es} {xs : List D} (hx : xs.length ≤ sizeMax) (I : Nat → Es → List D → Prop) (B : R Sl → Prop) (hit : evI P C S it e = .ok xs e1) (h0 : I 0 (wipeE (lockE it e1) tg.ns) [])
    (hs : ∀ (k : Nat) (x : D) e' acc, xs[k]? = some x → I k e' acc → TurnC P C S tg c elt (I (k + 1)) acc (putT tg (.val x) e'))
    (he : ∀ e' acc, I xs.length e' acc → B (.ok (.own acc) (unlockE it e1 (backE (lockE it e1) e' tg.ns)))) : B (evE P C S (.comp tg it c elt) e) := by
  rw [e_comp, hit, bind_ok]
  unfold compK
  exact compGo_after I (fun r => B (compK2 tg it e1 r)) 0 (by omega) (fun k x e acc hx hi => by
    rw [Nat.zero_add] at hi ⊢
    exact hs k x e acc hx hi) (fun e acc hi => he e acc (by rwa [Nat.zero_add] at hi)) _ _ (Nat.le_refl _) h0
def MapE (tg : Tg) (e0 : Es) (y : D) (r : R D) : Prop := match r with
  | .ok d e => d = y ∧ wipeE e tg.ns = e0
  | _ => False
@[simp] theorem mapE_d (tg e0 y d e) : MapE tg e0 y (.ok d e) = (d = y ∧ wipeE e tg.ns = e0) := id rfl
def MapC (P : Nat → Nat → Bool) (C : Nat → List Sl → R Sl) (S : Nat → Nat → Bool) (tg : Tg) (elt : Ex) (e0 : Es) (y : D) (t : Option Es) : Prop := match t with
  | some e => MapE tg e0 y (evE P C S elt e).fz
  | none => False
@[simp] theorem mapC_some (tg elt e0 y e) : MapC P C S tg elt e0 y (some e) = MapE tg e0 y (evE P C S elt e).fz := id rfl
/-- a comprehension that only maps: each turn leaves the other slots as they are -/
theorem ev_map {tg : Tg} {it elt : Ex} {e e1 e0 : Es} {xs : List D} (ys : List D) (hx : xs.length ≤ sizeMax) (hit : evI P C S it e = .ok xs e1) (h0 : wipeE (lockE it e1) tg.ns = e0) (hy : ys.length = xs.length)
    (hs : ∀ (k : Nat) (x y : D), xs[k]? = some x → ys[k]? = some y → MapC P C S tg elt e0 y (putT tg (.val x) e0))
    : evE P C S (.comp tg it .yes elt) e = .ok (.own ys) (unlockE it e1 (backE (lockE it e1) e0 tg.ns)) := by
  refine ev_comp hx (fun k e' acc => e' = e0 ∧ acc = ys.take k) (fun r => r = .ok (.own ys) (unlockE it e1 (backE (lockE it e1) e0 tg.ns))) hit ⟨h0, by simp⟩ (fun k x e' acc hk hi => ?_) (fun e' acc hi => ?_)
  · obtain ⟨rfl, rfl⟩ := hi
    obtain ⟨hk1, hk2⟩ := List.getElem?_eq_some_iff.mp hk
    have hy' : k < ys.length := by omega
    have q := hs k x ys[k] hk (List.getElem?_eq_getElem hy')
    cases hp : putT tg (.val x) e' with
    | none => rw [hp] at q; exact q.elim
    | some e2 =>
      rw [hp, mapC_some] at q
      rw [turnC_some, t_yes, turnD_true]
      cases hr : (evE P C S elt e2).fz with
      | bad => rw [hr] at q; exact q.elim
      | exc _ _ _ => rw [hr] at q; exact q.elim
      | ok d e3 =>
        rw [hr, mapE_d] at q
        rw [eltT_ok]
        exact ⟨q.2, by rw [q.1, List.take_succ_eq_append_getElem hy']⟩
  · obtain ⟨rfl, rfl⟩ := hi
    rw [← hy, List.take_length]
def FiltD (P : Nat → Nat → Bool) (C : Nat → List Sl → R Sl) (S : Nat → Nat → Bool) (tg : Tg) (elt : Ex) (e0 : Es) (b : Bool) (y : D) (r : R Bool) : Prop := match r with
  | .ok b' e => b' = b ∧ (if b then MapE tg e0 y (evE P C S elt e).fz else wipeE e tg.ns = e0)
  | _ => False
@[simp] theorem filtD_ok (tg elt e0 b y b' e) : FiltD P C S tg elt e0 b y (.ok b' e) = (b' = b ∧ (if b then MapE tg e0 y (evE P C S elt e).fz else wipeE e tg.ns = e0)) := id rfl
def FiltC (P : Nat → Nat → Bool) (C : Nat → List Sl → R Sl) (S : Nat → Nat → Bool) (tg : Tg) (c elt : Ex) (e0 : Es) (b : Bool) (y : D) (t : Option Es) : Prop := match t with
  | some e => FiltD P C S tg elt e0 b y (evT P C S c e)
  | none => False
@[simp] theorem filtC_some (tg c elt e0 b y e) : FiltC P C S tg c elt e0 b y (some e) = FiltD P C S tg elt e0 b y (evT P C S c e) := id rfl
/-- a comprehension that picks and maps -/
theorem ev_filter {tg : Tg} {it c elt : Ex} {e e1 e0 : Es} {xs : List D} (p : D → Bool) (f : D → D) (hx : xs.length ≤ sizeMax) (hit : evI P C S it e = .ok xs e1) (h0 : wipeE (lockE it e1) tg.ns = e0)
    (hs : ∀ x, x ∈ xs → FiltC P C S tg c elt e0 (p x) (f x) (putT tg (.val x) e0))
    : evE P C S (.comp tg it c elt) e = .ok (.own ((xs.filter p).map f)) (unlockE it e1 (backE (lockE it e1) e0 tg.ns)) := by
  refine ev_comp hx (fun k e' acc => e' = e0 ∧ acc = ((xs.take k).filter p).map f) (fun r => r = .ok (.own ((xs.filter p).map f)) (unlockE it e1 (backE (lockE it e1) e0 tg.ns))) hit ⟨h0, by simp⟩ (fun k x e' acc hk hi => ?_) (fun e' acc hi => ?_)
  · obtain ⟨rfl, rfl⟩ := hi
    obtain ⟨hk1, hk2⟩ := List.getElem?_eq_some_iff.mp hk
    have q := hs x (List.mem_of_getElem? hk)
    have ht : xs.take (k + 1) = xs.take k ++ [x] := by rw [List.take_succ_eq_append_getElem hk1, hk2]
    cases hp : putT tg (.val x) e' with
    | none => rw [hp] at q; exact q.elim
    | some e2 =>
      rw [hp, filtC_some] at q
      rw [turnC_some]
      cases hr : evT P C S c e2 with
      | bad => rw [hr] at q; exact q.elim
      | exc _ _ _ => rw [hr] at q; exact q.elim
      | ok b e3 =>
        rw [hr, filtD_ok] at q
        obtain ⟨rfl, q⟩ := q
        rw [turnD_ok]
        cases hb : p x with
        | false =>
          rw [hb, if_neg (by decide)] at q
          rw [if_neg (by decide)]
          refine ⟨q, ?_⟩
          rw [ht, List.filter_append, List.filter_cons, if_neg (by rw [hb]; decide)]
          simp
        | true =>
          rw [hb, if_pos rfl] at q
          rw [if_pos rfl]
          cases hm : (evE P C S elt e3).fz with
          | bad => rw [hm] at q; exact q.elim
          | exc _ _ _ => rw [hm] at q; exact q.elim
          | ok d e4 =>
            rw [hm, mapE_d] at q
            rw [eltT_ok]
            refine ⟨q.2, ?_⟩
            rw [ht, List.filter_append, List.filter_cons, if_pos hb, q.1]
            simp
  · obtain ⟨rfl, rfl⟩ := hi
    rw [List.take_length]
end
end Pv.Pq
set_option maxRecDepth 100000
namespace Pw
open PySem Pv Pv.Pq
abbrev i_tupled : Nat := 0
abbrev i_is_int : Nat := 1
abbrev i_check_number : Nat := 2
abbrev i_check_asks : Nat := 3
abbrev i_check_change : Nat := 4
abbrev i_number_ahead : Nat := 5
abbrev i_run_behind : Nat := 6
abbrev i_next_run : Nat := 7
abbrev i_newest_before : Nat := 8
abbrev i_check_lens : Nat := 9
abbrev i_rows_of_runs : Nat := 10
abbrev i_played : Nat := 11
abbrev i_chain_of : Nat := 12
abbrev i_chain_rows : Nat := 13
abbrev i_run_number : Nat := 14
abbrev i_later_chain : Nat := 15
abbrev i_check_change_at : Nat := 16
abbrev i_is_calm : Nat := 17
abbrev i_final_run : Nat := 18
abbrev i_steady_count : Nat := 19
abbrev i_steady_run : Nat := 20
abbrev i_steady_list : Nat := 21
abbrev i_stay_run : Nat := 22
abbrev i_stay_done : Nat := 23
abbrev i__law_tape : Nat := 24
abbrev i__law_take : Nat := 25
abbrev i__law_just : Nat := 26
abbrev i__law_ask_row : Nat := 27
abbrev i__law_next : Nat := 28
abbrev i__law_factor : Nat := 29
abbrev i__law_grown : Nat := 30
abbrev i__law_lens : Nat := 31
abbrev i__law_runs : Nat := 32
abbrev i__law_scaled : Nat := 33
abbrev i__law_form : Nat := 34
abbrev i__law_plays_hold : Nat := 35
abbrev i__law_chains_hold : Nat := 36
abbrev i__law_newest_hold : Nat := 37
abbrev i__law_later : Nat := 38
abbrev i__law_later_hold : Nat := 39
abbrev i__law_stream_hold : Nat := 40
abbrev i__law_heard : Nat := 41
abbrev i_law : Nat := 42
abbrev k_DoneError : Nat := 0
abbrev k_BadNumber : Nat := 1
abbrev k_BadRow : Nat := 2
abbrev k_BadCase : Nat := 3
abbrev k_TooMany : Nat := 4
def ci_tupled_1 : Ex := (.itv (.var 0))
def cc_tupled_1 : Ex := .yes
def ce_tupled_1 : Ex := (.call i_tupled (.cons (.var 1) .nil))
def cp_tupled_1 : Ex := .comp (.one 1) ci_tupled_1 cc_tupled_1 ce_tupled_1
@[simp] theorem b_cp_tupled_1 (e r) : bor cp_tupled_1 e r = r.bind borK := id rfl
@[simp] theorem r_cp_tupled_1 (np e q) : retS np cp_tupled_1 e q = q.bind retK := id rfl
@[simp] theorem lo_cp_tupled_1 (e) : lockE (.itv cp_tupled_1) e = e := id rfl
@[simp] theorem un_cp_tupled_1 (e f) : unlockE (.itv cp_tupled_1) e f = f := id rfl

/-- tupled: 0 thing, 1 inner -/
def c_tupled : FnC := ⟨1, 2,
  (.seq (.ite (.tst (.isi (.var 0) [.list, .tuple]))
    (.seq (.ret (.bi .tuple (.cons cp_tupled_1 .nil)))
    .nop)
    .nop)
  (.seq (.ret (.var 0))
  .nop))⟩

def n_tupled : List Str := ["thing", "inner"]

/-- is_int: 0 x -/
def c_is_int : FnC := ⟨1, 1,
  (.seq (.ret (.and (.isi (.var 0) [.int]) (.not (.tst (.isi (.var 0) [.bool])))))
  .nop)⟩

def n_is_int : List Str := ["x"]

/-- check_number: 0 x, 1 least -/
def c_check_number : FnC := ⟨2, 2,
  (.seq (.ite (.or (.not (.tst (.call i_is_int (.cons (.var 0) .nil)))) (.tst (.cmp .lt (.var 0) (.var 1))))
    (.seq (.raise k_BadNumber (.var 0))
    .nop)
    .nop)
  (.seq (.ret (.var 0))
  .nop))⟩

def n_check_number : List Str := ["x", "least"]

def it_check_asks_1 : Ex := (.enum (.var 0))
def bd_check_asks_1 : Sta := (.seq (.ite (.not (.tst (.call i_is_int (.cons (.var 2) .nil))))
    (.seq (.raise k_BadRow (.var 1))
    .nop)
    .nop)
  (.seq (.ite (.and (.tst (.cmp .gt (.var 1) (.int 0))) (.tst (.cmp .le (.var 2) (.ix (.var 0) (.bin .sub (.var 1) (.int 1))))))
    (.seq (.raise k_BadRow (.var 1))
    .nop)
    .nop)
  .nop))
def lp_check_asks_1 : Sta := .for_ (.tup [1, 2]) it_check_asks_1 bd_check_asks_1

/-- check_asks: 0 asks, 1 at, 2 entry -/
def c_check_asks : FnC := ⟨1, 3,
  (.seq (.ite (.not (.tst (.isi (.var 0) [.tuple, .list])))
    (.seq (.raise k_BadRow (.neg (.int 1)))
    .nop)
    .nop)
  (.seq lp_check_asks_1
  (.seq (.ret (.bi .tuple (.cons (.var 0) .nil)))
  .nop)))⟩

def n_check_asks : List Str := ["asks", "at", "entry"]

/-- check_change: 0 row, 1 i -/
def c_check_change : FnC := ⟨2, 2,
  (.seq (.ite (.or (.not (.tst (.call i_is_int (.cons (.var 1) .nil)))) (.or (.tst (.cmp .lt (.var 1) (.int 1))) (.tst (.cmp .gt (.var 1) (.bi .len (.cons (.var 0) .nil))))))
    (.seq (.raise k_BadNumber (.var 1))
    .nop)
    .nop)
  (.seq (.ret (.var 1))
  .nop))⟩

def n_check_change : List Str := ["row", "i"]

def wc_number_ahead_1 : Ex := (.tst (.cmp .lt (.var 2) (.var 3)))
def bd_number_ahead_1 : Sta := (.seq (.asg (.one 4) (.bin .fdiv (.bin .add (.var 2) (.var 3)) (.int 2)))
  (.seq (.ite (.tst (.cmp .lt (.ix (.var 0) (.var 4)) (.var 1)))
    (.seq (.asg (.one 2) (.bin .add (.var 4) (.int 1)))
    .nop)
    (.seq (.asg (.one 3) (.var 4))
    .nop))
  .nop))
def lp_number_ahead_1 : Sta := .while_ wc_number_ahead_1 bd_number_ahead_1

/-- number_ahead: 0 row, 1 h, 2 low, 3 high, 4 middle -/
def c_number_ahead : FnC := ⟨2, 5,
  (.seq (.par [2, 3] (.cons (.int 0) (.cons (.bi .len (.cons (.var 0) .nil)) .nil)))
  (.seq lp_number_ahead_1
  (.seq (.ret (.var 2))
  .nop)))⟩

def n_number_ahead : List Str := ["row", "h", "low", "high", "middle"]

/-- run_behind: 0 row, 1 i, 2 b, 3 y, 4 end -/
def c_run_behind : FnC := ⟨4, 5,
  (.seq (.ite (.tst (.cmp .eq (.var 1) (.bi .len (.cons (.var 0) .nil))))
    (.seq (.ret .non)
    .nop)
    .nop)
  (.seq (.asg (.one 4) (.bin .add (.var 2) (.var 3)))
  (.seq (.ret (.tup (.cons (.bi .max (.cons (.bin .add (.var 1) (.int 1)) (.cons (.call i_number_ahead (.cons (.var 0) (.cons (.var 4) .nil))) .nil))) (.cons (.bi .max (.cons (.var 4) (.cons (.ix (.var 0) (.var 1)) .nil))) .nil))))
  .nop)))⟩

def n_run_behind : List Str := ["row", "i", "b", "y", "end"]

/-- next_run: 0 asks, 1 i, 2 b, 3 y, 4 row -/
def c_next_run : FnC := ⟨4, 5,
  (.seq (.asg (.one 4) (.call i_check_asks (.cons (.var 0) .nil)))
  (.seq (.expr (.call i_check_change (.cons (.var 4) (.cons (.var 1) .nil))))
  (.seq (.ite (.or (.not (.tst (.call i_is_int (.cons (.var 2) .nil)))) (.tst (.cmp .lt (.var 2) (.ix (.var 4) (.bin .sub (.var 1) (.int 1))))))
    (.seq (.raise k_BadNumber (.var 2))
    .nop)
    .nop)
  (.seq (.ite (.or (.not (.tst (.call i_is_int (.cons (.var 3) .nil)))) (.tst (.cmp .lt (.var 3) (.int 1))))
    (.seq (.raise k_BadNumber (.var 3))
    .nop)
    .nop)
  (.seq (.ret (.call i_run_behind (.cons (.var 4) (.cons (.var 1) (.cons (.var 2) (.cons (.var 3) .nil))))))
  .nop)))))⟩

def n_next_run : List Str := ["asks", "i", "b", "y", "row"]

/-- newest_before: 0 asks, 1 h, 2 row -/
def c_newest_before : FnC := ⟨2, 3,
  (.seq (.asg (.one 2) (.call i_check_asks (.cons (.var 0) .nil)))
  (.seq (.ite (.not (.tst (.call i_is_int (.cons (.var 1) .nil))))
    (.seq (.raise k_BadNumber (.var 1))
    .nop)
    .nop)
  (.seq (.ret (.call i_number_ahead (.cons (.var 2) (.cons (.var 1) .nil))))
  .nop)))⟩

def n_newest_before : List Str := ["asks", "h", "row"]

def it_check_lens_1 : Ex := (.enum (.var 0))
def bd_check_lens_1 : Sta := (.seq (.ite (.or (.not (.tst (.call i_is_int (.cons (.var 3) .nil)))) (.tst (.cmp .lt (.var 3) (.int 1))))
    (.seq (.raise k_BadRow (.tup (.cons (.var 2) (.cons (.var 1) .nil))))
    .nop)
    .nop)
  .nop)
def lp_check_lens_1 : Sta := .for_ (.tup [2, 3]) it_check_lens_1 bd_check_lens_1

/-- check_lens: 0 lens, 1 side, 2 at, 3 entry -/
def c_check_lens : FnC := ⟨2, 4,
  (.seq (.ite (.not (.tst (.isi (.var 0) [.tuple, .list])))
    (.seq (.raise k_BadRow (.tup (.cons (.neg (.int 1)) (.cons (.var 1) .nil))))
    .nop)
    .nop)
  (.seq lp_check_lens_1
  (.seq (.ret (.bi .tuple (.cons (.var 0) .nil)))
  .nop)))⟩

def n_check_lens : List Str := ["lens", "side", "at", "entry"]

def it_rows_of_runs_1 : Ex := (.itv (.var 1))
def bd_rows_of_runs_1 : Sta := (.seq (.append 2 (.tup (.cons (.var 3) (.cons (.var 4) (.cons (.bin .add (.var 4) (.var 5)) .nil)))))
  (.seq (.ite (.tst (.cmp .eq (.var 3) (.bi .len (.cons (.var 0) .nil))))
    (.seq (.ret (.bi .tuple (.cons (.var 2) .nil)))
    .nop)
    .nop)
  (.seq (.asg (.tup [3, 4]) (.call i_run_behind (.cons (.var 0) (.cons (.var 3) (.cons (.var 4) (.cons (.var 5) .nil))))))
  .nop)))
def lp_rows_of_runs_1 : Sta := .for_ (.one 5) it_rows_of_runs_1 bd_rows_of_runs_1

/-- rows_of_runs: 0 row, 1 lens, 2 told, 3 change, 4 begin, 5 y -/
def c_rows_of_runs : FnC := ⟨2, 6,
  (.seq (.ite (.tst (.cmp .eq (.bi .len (.cons (.var 0) .nil)) (.int 0)))
    (.seq (.ret (.tup .nil))
    .nop)
    .nop)
  (.seq (.par [2, 3, 4] (.cons (.lst .nil) (.cons (.int 1) (.cons (.ix (.var 0) (.int 0)) .nil))))
  (.seq lp_rows_of_runs_1
  (.seq (.ret .non)
  .nop))))⟩

def n_rows_of_runs : List Str := ["row", "lens", "told", "change", "begin", "y"]

/-- played: 0 asks, 1 lens, 2 row, 3 hours, 4 told -/
def c_played : FnC := ⟨2, 5,
  (.seq (.asg (.one 2) (.call i_check_asks (.cons (.var 0) .nil)))
  (.seq (.asg (.one 3) (.call i_check_lens (.cons (.var 1) (.cons (.neg (.int 1)) .nil))))
  (.seq (.asg (.one 4) (.call i_rows_of_runs (.cons (.var 2) (.cons (.var 3) .nil))))
  (.seq (.ite (.tst (.isC false none (.var 4)))
    (.seq (.raise k_BadCase (.str "short"))
    .nop)
    .nop)
  (.seq (.ret (.var 4))
  .nop)))))⟩

def n_played : List Str := ["asks", "lens", "row", "hours", "told"]

def wc_chain_of_1 : Ex := (.tst (.isC true none (.var 3)))
def bd_chain_of_1 : Sta := (.seq (.append 2 (.var 3))
  (.seq (.asg (.one 3) (.call i_run_behind (.cons (.var 0) (.cons (.ix (.var 3) (.int 0)) (.cons (.ix (.var 3) (.int 1)) (.cons (.var 1) .nil))))))
  .nop))
def lp_chain_of_1 : Sta := .while_ wc_chain_of_1 bd_chain_of_1

/-- chain_of: 0 row, 1 y, 2 told, 3 due -/
def c_chain_of : FnC := ⟨2, 4,
  (.seq (.ite (.tst (.cmp .eq (.bi .len (.cons (.var 0) .nil)) (.int 0)))
    (.seq (.ret (.tup .nil))
    .nop)
    .nop)
  (.seq (.par [2, 3] (.cons (.lst .nil) (.cons (.tup (.cons (.int 1) (.cons (.ix (.var 0) (.int 0)) .nil))) .nil)))
  (.seq lp_chain_of_1
  (.seq (.ret (.bi .tuple (.cons (.var 2) .nil)))
  .nop))))⟩

def n_chain_of : List Str := ["row", "y", "told", "due"]

/-- chain_rows: 0 asks, 1 y, 2 row -/
def c_chain_rows : FnC := ⟨2, 3,
  (.seq (.asg (.one 2) (.call i_check_asks (.cons (.var 0) .nil)))
  (.seq (.ite (.or (.not (.tst (.call i_is_int (.cons (.var 1) .nil)))) (.tst (.cmp .lt (.var 1) (.int 1))))
    (.seq (.raise k_BadNumber (.var 1))
    .nop)
    .nop)
  (.seq (.ret (.call i_chain_of (.cons (.var 2) (.cons (.var 1) .nil))))
  .nop)))⟩

def n_chain_rows : List Str := ["asks", "y", "row"]

/-- run_number: 0 asks, 1 y, 2 row -/
def c_run_number : FnC := ⟨2, 3,
  (.seq (.asg (.one 2) (.call i_check_asks (.cons (.var 0) .nil)))
  (.seq (.ite (.or (.not (.tst (.call i_is_int (.cons (.var 1) .nil)))) (.tst (.cmp .lt (.var 1) (.int 1))))
    (.seq (.raise k_BadNumber (.var 1))
    .nop)
    .nop)
  (.seq (.ret (.bi .len (.cons (.call i_chain_of (.cons (.var 2) (.cons (.var 1) .nil))) .nil)))
  .nop)))⟩

def n_run_number : List Str := ["asks", "y", "row"]

def it_later_chain_1 : Ex := (.zip (.var 6) (.var 7))
def bd_later_chain_1 : Sta := (.seq (.ite (.or (.tst (.cmp .lt (.ix (.var 9) (.int 0)) (.ix (.var 8) (.int 0)))) (.tst (.cmp .lt (.ix (.var 9) (.int 1)) (.ix (.var 8) (.int 1)))))
    (.seq (.ret (.bl false))
    .nop)
    .nop)
  .nop)
def lp_later_chain_1 : Sta := .for_ (.tup [8, 9]) it_later_chain_1 bd_later_chain_1

/-- later_chain: 0 asks, 1 lens, 2 others, 3 row, 4 hours, 5 other_hours, 6 told, 7 other_told, 8 one, 9 two -/
def c_later_chain : FnC := ⟨3, 10,
  (.seq (.asg (.one 3) (.call i_check_asks (.cons (.var 0) .nil)))
  (.seq (.asg (.one 4) (.call i_check_lens (.cons (.var 1) (.cons (.neg (.int 1)) .nil))))
  (.seq (.asg (.one 5) (.call i_check_lens (.cons (.var 2) (.cons (.neg (.int 2)) .nil))))
  (.seq (.asg (.one 6) (.call i_rows_of_runs (.cons (.var 3) (.cons (.var 4) .nil))))
  (.seq (.asg (.one 7) (.call i_rows_of_runs (.cons (.var 3) (.cons (.var 5) .nil))))
  (.seq (.ite (.or (.tst (.isC false none (.var 6))) (.tst (.isC false none (.var 7))))
    (.seq (.raise k_BadCase (.str "short"))
    .nop)
    .nop)
  (.seq lp_later_chain_1
  (.seq (.ret (.bl true))
  .nop))))))))⟩

def n_later_chain : List Str := ["asks", "lens", "others", "row", "hours", "other_hours", "told", "other_told", "one", "two"]

/-- check_change_at: 0 i, 1 n -/
def c_check_change_at : FnC := ⟨2, 2,
  (.seq (.ite (.or (.not (.tst (.call i_is_int (.cons (.var 0) .nil)))) (.not (.tst (.cmp2 .le .lt (.int 0) (.var 0) (.var 1)))))
    (.seq (.raise k_BadNumber (.var 0))
    .nop)
    .nop)
  (.seq (.ret (.var 0))
  .nop))⟩

def n_check_change_at : List Str := ["i", "n"]

/-- is_calm: 0 n, 1 d, 2 z -/
def c_is_calm : FnC := ⟨3, 3,
  (.seq (.ret (.or (.cmp .eq (.var 0) (.int 1)) (.cmp .ge (.var 1) (.var 2))))
  .nop)⟩

def n_is_calm : List Str := ["n", "d", "z"]

/-- final_run: 0 n, 1 d, 2 z -/
def c_final_run : FnC := ⟨3, 3,
  (.seq (.ite (.tst (.call i_is_calm (.cons (.var 0) (.cons (.var 1) (.cons (.var 2) .nil)))))
    (.seq (.ret (.bin .sub (.var 0) (.int 1)))
    .nop)
    .nop)
  (.seq (.ret (.bin .add (.bin .fdiv (.bin .mul (.bin .sub (.var 0) (.int 1)) (.var 1)) (.var 2)) (.int 1)))
  .nop))⟩

def n_final_run : List Str := ["n", "d", "z"]

/-- steady_count: 0 n, 1 d, 2 z -/
def c_steady_count : FnC := ⟨3, 3,
  (.seq (.ret (.bin .add (.call i_final_run (.cons (.var 0) (.cons (.var 1) (.cons (.var 2) .nil)))) (.int 1)))
  .nop)⟩

def n_steady_count : List Str := ["n", "d", "z"]

/-- steady_run: 0 n, 1 d, 2 z, 3 j -/
def c_steady_run : FnC := ⟨4, 4,
  (.seq (.ite (.tst (.call i_is_calm (.cons (.var 0) (.cons (.var 1) (.cons (.var 2) .nil)))))
    (.seq (.ret (.tup (.cons (.var 3) (.cons (.bin .mul (.var 3) (.var 1)) .nil))))
    .nop)
    .nop)
  (.seq (.ite (.tst (.cmp .eq (.var 3) (.int 0)))
    (.seq (.ret (.tup (.cons (.int 0) (.cons (.int 0) .nil))))
    .nop)
    .nop)
  (.seq (.ite (.tst (.cmp .eq (.var 3) (.call i_final_run (.cons (.var 0) (.cons (.var 1) (.cons (.var 2) .nil))))))
    (.seq (.ret (.tup (.cons (.bin .sub (.var 0) (.int 1)) (.cons (.bin .mul (.var 3) (.var 2)) .nil))))
    .nop)
    .nop)
  (.seq (.ret (.tup (.cons (.bin .fdiv (.bin .sub (.bin .mul (.var 3) (.var 2)) (.int 1)) (.var 1)) (.cons (.bin .mul (.var 3) (.var 2)) .nil))))
  .nop))))⟩

def n_steady_run : List Str := ["n", "d", "z", "j"]

def ci_steady_list_1 : Ex := (.range1 (.call i_steady_count (.cons (.var 0) (.cons (.var 1) (.cons (.var 2) .nil)))))
def cc_steady_list_1 : Ex := .yes
def ce_steady_list_1 : Ex := (.ix (.call i_steady_run (.cons (.var 0) (.cons (.var 1) (.cons (.var 2) (.cons (.var 3) .nil))))) (.int 0))
def cp_steady_list_1 : Ex := .comp (.one 3) ci_steady_list_1 cc_steady_list_1 ce_steady_list_1
@[simp] theorem b_cp_steady_list_1 (e r) : bor cp_steady_list_1 e r = r.bind borK := id rfl
@[simp] theorem r_cp_steady_list_1 (np e q) : retS np cp_steady_list_1 e q = q.bind retK := id rfl
@[simp] theorem lo_cp_steady_list_1 (e) : lockE (.itv cp_steady_list_1) e = e := id rfl
@[simp] theorem un_cp_steady_list_1 (e f) : unlockE (.itv cp_steady_list_1) e f = f := id rfl

/-- steady_list: 0 n, 1 d, 2 z, 3 j -/
def c_steady_list : FnC := ⟨3, 4,
  (.seq (.ret cp_steady_list_1)
  .nop)⟩

def n_steady_list : List Str := ["n", "d", "z", "j"]

/-- stay_run: 0 n, 1 d, 2 z, 3 j -/
def c_stay_run : FnC := ⟨4, 4,
  (.seq (.expr (.call i_check_number (.cons (.var 0) (.cons (.int 1) .nil))))
  (.seq (.expr (.call i_check_number (.cons (.var 1) (.cons (.int 1) .nil))))
  (.seq (.expr (.call i_check_number (.cons (.var 2) (.cons (.int 1) .nil))))
  (.seq (.expr (.call i_check_change_at (.cons (.var 3) (.cons (.call i_steady_count (.cons (.var 0) (.cons (.var 1) (.cons (.var 2) .nil)))) .nil))))
  (.seq (.ret (.call i_steady_run (.cons (.var 0) (.cons (.var 1) (.cons (.var 2) (.cons (.var 3) .nil))))))
  .nop)))))⟩

def n_stay_run : List Str := ["n", "d", "z", "j"]

/-- stay_done: 0 n, 1 d, 2 z -/
def c_stay_done : FnC := ⟨3, 3,
  (.seq (.expr (.call i_check_number (.cons (.var 0) (.cons (.int 1) .nil))))
  (.seq (.expr (.call i_check_number (.cons (.var 1) (.cons (.int 1) .nil))))
  (.seq (.expr (.call i_check_number (.cons (.var 2) (.cons (.int 1) .nil))))
  (.seq (.ite (.tst (.cmp .gt (.call i_steady_count (.cons (.var 0) (.cons (.var 1) (.cons (.var 2) .nil)))) (.gl "MOST_CHANGES" (.int (4000)))))
    (.seq (.raise k_TooMany (.gl "MOST_CHANGES" (.int (4000))))
    .nop)
    .nop)
  (.seq (.ret (.bi .tuple (.cons (.call i_steady_list (.cons (.var 0) (.cons (.var 1) (.cons (.var 2) .nil)))) .nil)))
  .nop)))))⟩

def n_stay_done : List Str := ["n", "d", "z"]

def it__law_tape_2 : Ex := (.range1 (.int 18))
def bd__law_tape_2 : Sta := (.seq (.append 1 (.bin .mod (.bi .int (.cons (.var 3) .nil)) (.int 60)))
  (.seq (.asg (.one 3) (.bin .fdiv (.var 3) (.int 60)))
  (.seq (.ite (.tst (.cmp .eq (.var 3) (.int 0)))
    (.seq .brk
    .nop)
    .nop)
  .nop)))
def lp__law_tape_2 : Sta := .for_ (.one 4) it__law_tape_2 bd__law_tape_2

def it__law_tape_1 : Ex := (.itv (.sl (.var 0) .no (.opt (.int 40))))
def bd__law_tape_1 : Sta := (.seq (.asg (.one 3) (.bin .mod (.bi .abs (.cons (.bi .int (.cons (.var 2) .nil)) .nil)) (.bin .pow (.int 60) (.int 15))))
  (.seq (.ite (.tst (.cmp .lt (.bi .int (.cons (.var 2) .nil)) (.int 0)))
    (.seq (.asg (.one 3) (.bin .add (.bin .mul (.var 3) (.int 7)) (.int 11)))
    .nop)
    .nop)
  (.seq lp__law_tape_2
  .nop)))
def lp__law_tape_1 : Sta := .for_ (.one 2) it__law_tape_1 bd__law_tape_1

def ci__law_tape_1 : Ex := (.range1 (.var 5))
def cc__law_tape_1 : Ex := .yes
def ce__law_tape_1 : Ex := (.ix (.var 1) (.bin .sub (.bin .sub (.var 5) (.int 1)) (.var 6)))
def cp__law_tape_1 : Ex := .comp (.one 6) ci__law_tape_1 cc__law_tape_1 ce__law_tape_1
@[simp] theorem b_cp__law_tape_1 (e r) : bor cp__law_tape_1 e r = r.bind borK := id rfl
@[simp] theorem r_cp__law_tape_1 (np e q) : retS np cp__law_tape_1 e q = q.bind retK := id rfl
@[simp] theorem lo_cp__law_tape_1 (e) : lockE (.itv cp__law_tape_1) e = e := id rfl
@[simp] theorem un_cp__law_tape_1 (e f) : unlockE (.itv cp__law_tape_1) e f = f := id rfl

/-- _law_tape: 0 script, 1 tape, 2 cell, 3 rest, 4 turn, 5 many, 6 at -/
def c__law_tape : FnC := ⟨1, 7,
  (.seq (.asg (.one 1) (.lst .nil))
  (.seq lp__law_tape_1
  (.seq (.asg (.one 5) (.bi .len (.cons (.var 1) .nil)))
  (.seq (.ret cp__law_tape_1)
  .nop))))⟩

def n__law_tape : List Str := ["script", "tape", "cell", "rest", "turn", "many", "at"]

/-- _law_take: 0 tape, 1 many -/
def c__law_take : FnC := ⟨2, 2,
  (.seq (.ite (.tst (.cmp .eq (.bi .len (.cons (.var 0) .nil)) (.int 0)))
    (.seq (.ret (.int 0))
    .nop)
    .nop)
  (.seq (.ret (.bin .mod (.bi .int (.cons (.pop 0) .nil)) (.var 1)))
  .nop))⟩

def n__law_take : List Str := ["tape", "many"]

def it__law_just_2 : Ex := (.range1 (.bi .len (.cons (.var 5) .nil)))
def bd__law_just_2 : Sta := (.seq (.append 2 (.tup (.cons (.ix (.var 4) (.var 6)) (.cons (.ix (.var 5) (.var 6)) .nil))))
  .nop)
def lp__law_just_2 : Sta := .for_ (.one 6) it__law_just_2 bd__law_just_2

def it__law_just_1 : Ex := (.range1 (.int 1000000))
def bd__law_just_1 : Sta := (.seq (.ite (.tst (.cmp .eq (.bi .len (.cons (.var 2) .nil)) (.int 0)))
    (.seq .brk
    .nop)
    .nop)
  (.seq (.asg (.tup [4, 5]) (.pop 2))
  (.seq (.ite (.tst (.isi (.var 5) [.tuple]))
    (.seq (.ite (.or (.not (.tst (.isi (.var 4) [.tuple]))) (.tst (.cmp .ne (.bi .len (.cons (.var 4) .nil)) (.bi .len (.cons (.var 5) .nil)))))
      (.seq (.ret (.bl false))
      .nop)
      .nop)
    (.seq lp__law_just_2
    .nop))
    (.seq (.ite (.or (.tst (.isC false none (.var 5))) (.or (.tst (.isC false (some true) (.var 5))) (.tst (.isC false (some false) (.var 5)))))
      (.seq (.ite (.or (.tst (.cmp .ne (.isC false none (.var 4)) (.isC false none (.var 5)))) (.or (.tst (.cmp .ne (.isC false (some true) (.var 4)) (.isC false (some true) (.var 5)))) (.tst (.cmp .ne (.isC false (some false) (.var 4)) (.isC false (some false) (.var 5))))))
        (.seq (.ret (.bl false))
        .nop)
        .nop)
      .nop)
      (.seq (.ite (.tst (.isi (.var 5) [.int]))
        (.seq (.ite (.or (.tst (.isi (.var 4) [.bool])) (.or (.not (.tst (.isi (.var 4) [.int]))) (.tst (.cmp .ne (.var 4) (.var 5)))))
          (.seq (.ret (.bl false))
          .nop)
          .nop)
        .nop)
        (.seq (.ite (.or (.not (.tst (.isi (.var 4) [.str]))) (.tst (.cmp .ne (.var 4) (.var 5))))
          (.seq (.ret (.bl false))
          .nop)
          .nop)
        .nop))
      .nop))
    .nop))
  .nop)))
def lp__law_just_1 : Sta := .for_ (.one 3) it__law_just_1 bd__law_just_1

/-- _law_just: 0 told, 1 due, 2 todo, 3 turn, 4 one, 5 two, 6 at -/
def c__law_just : FnC := ⟨2, 7,
  (.seq (.asg (.one 2) (.lst (.cons (.tup (.cons (.var 0) (.cons (.var 1) .nil))) .nil)))
  (.seq lp__law_just_1
  (.seq (.ret (.cmp .eq (.bi .len (.cons (.var 2) .nil)) (.int 0)))
  .nop)))⟩

def n__law_just : List Str := ["told", "due", "todo", "turn", "one", "two", "at"]

def it__law_ask_row_1 : Ex := (.range1 (.call i__law_take (.cons (.var 0) (.cons (.var 1) .nil))))
def bd__law_ask_row_1 : Sta := (.seq (.append 2 (.bin .add (.bin .add (.ix (.var 2) (.neg (.int 1))) (.int 1)) (.call i__law_take (.cons (.var 0) (.cons (.int 6) .nil)))))
  .nop)
def lp__law_ask_row_1 : Sta := .for_ (.one 3) it__law_ask_row_1 bd__law_ask_row_1

/-- _law_ask_row: 0 tape, 1 most, 2 asks, 3 turn -/
def c__law_ask_row : FnC := ⟨2, 4,
  (.seq (.asg (.one 2) (.lst (.cons (.ix (.tup (.cons (.int 0) (.cons (.int 3) (.cons (.neg (.int 7)) (.cons (.neg (.bin .pow (.int 10) (.int 9))) .nil))))) (.call i__law_take (.cons (.var 0) (.cons (.int 4) .nil)))) .nil)))
  (.seq lp__law_ask_row_1
  (.seq (.ret (.bi .tuple (.cons (.var 2) .nil)))
  .nop)))⟩

def n__law_ask_row : List Str := ["tape", "most", "asks", "turn"]

def it__law_next_1 : Ex := (.range2 (.bin .add (.var 1) (.int 1)) (.bi .len (.cons (.var 0) .nil)))
def bd__law_next_1 : Sta := (.seq (.ite (.tst (.cmp .lt (.ix (.var 0) (.var 6)) (.var 4)))
    (.seq (.asg (.one 5) (.var 6))
    .nop)
    .nop)
  .nop)
def lp__law_next_1 : Sta := .for_ (.one 6) it__law_next_1 bd__law_next_1

/-- _law_next: 0 asks, 1 i, 2 begin, 3 y, 4 end, 5 best, 6 at -/
def c__law_next : FnC := ⟨4, 7,
  (.seq (.ite (.tst (.cmp .ge (.bin .add (.var 1) (.int 1)) (.bi .len (.cons (.var 0) .nil))))
    (.seq (.ret .non)
    .nop)
    .nop)
  (.seq (.asg (.one 4) (.bin .add (.var 2) (.var 3)))
  (.seq (.ite (.tst (.cmp .ge (.ix (.var 0) (.bin .add (.var 1) (.int 1))) (.var 4)))
    (.seq (.ret (.tup (.cons (.bin .add (.var 1) (.int 1)) (.cons (.ix (.var 0) (.bin .add (.var 1) (.int 1))) .nil))))
    .nop)
    .nop)
  (.seq (.asg (.one 5) (.bin .add (.var 1) (.int 1)))
  (.seq lp__law_next_1
  (.seq (.ret (.tup (.cons (.var 5) (.cons (.var 4) .nil))))
  .nop))))))⟩

def n__law_next : List Str := ["asks", "i", "begin", "y", "end", "best", "at"]

/-- _law_factor: 0 tape -/
def c__law_factor : FnC := ⟨1, 1,
  (.seq (.ret (.ix (.tup (.cons (.int 1) (.cons (.int 2) (.cons (.int 7) (.cons (.int 60) (.cons (.bin .pow (.int 10) (.int 9)) (.cons (.bin .pow (.int 10) (.int 20)) .nil))))))) (.call i__law_take (.cons (.var 0) (.cons (.int 6) .nil)))))
  .nop)⟩

def n__law_factor : List Str := ["tape"]

def ci__law_grown_1 : Ex := (.itv (.var 0))
def cc__law_grown_1 : Ex := .yes
def ce__law_grown_1 : Ex := (.bin .add (.bin .mul (.var 3) (.var 1)) (.var 2))
def cp__law_grown_1 : Ex := .comp (.one 3) ci__law_grown_1 cc__law_grown_1 ce__law_grown_1
@[simp] theorem b_cp__law_grown_1 (e r) : bor cp__law_grown_1 e r = r.bind borK := id rfl
@[simp] theorem r_cp__law_grown_1 (np e q) : retS np cp__law_grown_1 e q = q.bind retK := id rfl
@[simp] theorem lo_cp__law_grown_1 (e) : lockE (.itv cp__law_grown_1) e = e := id rfl
@[simp] theorem un_cp__law_grown_1 (e f) : unlockE (.itv cp__law_grown_1) e f = f := id rfl

/-- _law_grown: 0 row, 1 c, 2 by, 3 hour -/
def c__law_grown : FnC := ⟨3, 4,
  (.seq (.ret (.bi .tuple (.cons cp__law_grown_1 .nil)))
  .nop)⟩

def n__law_grown : List Str := ["row", "c", "by", "hour"]

def ci__law_lens_1 : Ex := (.range1 (.var 1))
def cc__law_lens_1 : Ex := .yes
def ce__law_lens_1 : Ex := (.bin .add (.int 1) (.call i__law_take (.cons (.var 0) (.cons (.int 9) .nil))))
def cp__law_lens_1 : Ex := .comp (.one 2) ci__law_lens_1 cc__law_lens_1 ce__law_lens_1
@[simp] theorem b_cp__law_lens_1 (e r) : bor cp__law_lens_1 e r = r.bind borK := id rfl
@[simp] theorem r_cp__law_lens_1 (np e q) : retS np cp__law_lens_1 e q = q.bind retK := id rfl
@[simp] theorem lo_cp__law_lens_1 (e) : lockE (.itv cp__law_lens_1) e = e := id rfl
@[simp] theorem un_cp__law_lens_1 (e f) : unlockE (.itv cp__law_lens_1) e f = f := id rfl

/-- _law_lens: 0 tape, 1 many, 2 at -/
def c__law_lens : FnC := ⟨2, 3,
  (.seq (.ret (.bi .tuple (.cons cp__law_lens_1 .nil)))
  .nop)⟩

def n__law_lens : List Str := ["tape", "many", "at"]

def it__law_runs_1 : Ex := (.itv (.var 1))
def bd__law_runs_1 : Sta := (.seq (.ite (.tst (.isC false none (.var 3)))
    (.seq .brk
    .nop)
    .nop)
  (.seq (.append 2 (.tup (.cons (.bin .add (.ix (.var 3) (.int 0)) (.int 1)) (.cons (.ix (.var 3) (.int 1)) (.cons (.bin .add (.ix (.var 3) (.int 1)) (.var 4)) .nil)))))
  (.seq (.asg (.one 3) (.call i__law_next (.cons (.var 0) (.cons (.ix (.var 3) (.int 0)) (.cons (.ix (.var 3) (.int 1)) (.cons (.var 4) .nil))))))
  .nop)))
def lp__law_runs_1 : Sta := .for_ (.one 4) it__law_runs_1 bd__law_runs_1

/-- _law_runs: 0 asks, 1 lens, 2 told, 3 here, 4 y -/
def c__law_runs : FnC := ⟨2, 5,
  (.seq (.asg (.one 2) (.lst .nil))
  (.seq (.asg (.one 3) .non)
  (.seq (.ite (.tst (.cmp .gt (.bi .len (.cons (.var 0) .nil)) (.int 0)))
    (.seq (.asg (.one 3) (.tup (.cons (.int 0) (.cons (.ix (.var 0) (.int 0)) .nil))))
    .nop)
    .nop)
  (.seq lp__law_runs_1
  (.seq (.ret (.bi .tuple (.cons (.var 2) .nil)))
  .nop)))))⟩

def n__law_runs : List Str := ["asks", "lens", "told", "here", "y"]

def ci__law_scaled_1 : Ex := (.itv (.var 0))
def cc__law_scaled_1 : Ex := .yes
def ce__law_scaled_1 : Ex := (.tup (.cons (.ix (.var 3) (.int 0)) (.cons (.bin .add (.bin .mul (.ix (.var 3) (.int 1)) (.var 1)) (.var 2)) (.cons (.bin .add (.bin .mul (.ix (.var 3) (.int 2)) (.var 1)) (.var 2)) .nil))))
def cp__law_scaled_1 : Ex := .comp (.one 3) ci__law_scaled_1 cc__law_scaled_1 ce__law_scaled_1
@[simp] theorem b_cp__law_scaled_1 (e r) : bor cp__law_scaled_1 e r = r.bind borK := id rfl
@[simp] theorem r_cp__law_scaled_1 (np e q) : retS np cp__law_scaled_1 e q = q.bind retK := id rfl
@[simp] theorem lo_cp__law_scaled_1 (e) : lockE (.itv cp__law_scaled_1) e = e := id rfl
@[simp] theorem un_cp__law_scaled_1 (e f) : unlockE (.itv cp__law_scaled_1) e f = f := id rfl

/-- _law_scaled: 0 rows, 1 c, 2 by, 3 row -/
def c__law_scaled : FnC := ⟨3, 4,
  (.seq (.ret (.bi .tuple (.cons cp__law_scaled_1 .nil)))
  .nop)⟩

def n__law_scaled : List Str := ["rows", "c", "by", "row"]

/-- _law_form: 0 row, 1 way -/
def c__law_form : FnC := ⟨2, 2,
  (.seq (.ite (.tst (.cmp .eq (.var 1) (.int 1)))
    (.seq (.ret (.bi .list (.cons (.var 0) .nil)))
    .nop)
    .nop)
  (.seq (.ret (.var 0))
  .nop))⟩

def n__law_form : List Str := ["row", "way"]

def it__law_plays_hold_1 : Ex := (.itv (.var 6))
def bd__law_plays_hold_1 : Sta := (.seq (.asg (.one 9) (.call i__law_next (.cons (.var 0) (.cons (.bin .sub (.ix (.var 8) (.int 0)) (.int 1)) (.cons (.ix (.var 8) (.int 1)) (.cons (.bin .sub (.ix (.var 8) (.int 2)) (.ix (.var 8) (.int 1))) .nil))))))
  (.seq (.ite (.tst (.isC true none (.var 9)))
    (.seq (.asg (.one 9) (.tup (.cons (.bin .add (.ix (.var 9) (.int 0)) (.int 1)) (.cons (.bin .add (.bin .mul (.ix (.var 9) (.int 1)) (.var 2)) (.var 3)) .nil))))
    .nop)
    .nop)
  (.seq (.asg (.one 10) (.call i_next_run (.cons (.var 5) (.cons (.ix (.var 8) (.int 0)) (.cons (.bin .add (.bin .mul (.ix (.var 8) (.int 1)) (.var 2)) (.var 3)) (.cons (.bin .mul (.bin .sub (.ix (.var 8) (.int 2)) (.ix (.var 8) (.int 1))) (.var 2)) .nil))))))
  (.seq (.ite (.not (.tst (.call i__law_just (.cons (.var 10) (.cons (.var 9) .nil)))))
    (.seq (.ret (.bl false))
    .nop)
    .nop)
  .nop))))
def lp__law_plays_hold_1 : Sta := .for_ (.one 8) it__law_plays_hold_1 bd__law_plays_hold_1

/-- _law_plays_hold: 0 asks, 1 lens, 2 c, 3 by, 4 way, 5 great, 6 rows, 7 told, 8 row, 9 due, 10 heard -/
def c__law_plays_hold : FnC := ⟨5, 11,
  (.seq (.asg (.one 5) (.call i__law_form (.cons (.call i__law_grown (.cons (.var 0) (.cons (.var 2) (.cons (.var 3) .nil)))) (.cons (.var 4) .nil))))
  (.seq (.asg (.one 6) (.call i__law_runs (.cons (.var 0) (.cons (.var 1) .nil))))
  (.seq (.asg (.one 7) (.call i_played (.cons (.var 5) (.cons (.call i__law_form (.cons (.call i__law_grown (.cons (.var 1) (.cons (.var 2) (.cons (.int 0) .nil)))) (.cons (.var 4) .nil))) .nil))))
  (.seq (.ite (.not (.tst (.call i__law_just (.cons (.var 7) (.cons (.call i__law_scaled (.cons (.var 6) (.cons (.var 2) (.cons (.var 3) .nil)))) .nil)))))
    (.seq (.ret (.bl false))
    .nop)
    .nop)
  (.seq (.ite (.not (.tst (.call i__law_just (.cons (.call i_check_asks (.cons (.var 5) .nil)) (.cons (.call i__law_grown (.cons (.var 0) (.cons (.var 2) (.cons (.var 3) .nil)))) .nil)))))
    (.seq (.ret (.bl false))
    .nop)
    .nop)
  (.seq lp__law_plays_hold_1
  (.seq (.ret (.cmp .eq (.var 5) (.call i__law_form (.cons (.call i__law_grown (.cons (.var 0) (.cons (.var 2) (.cons (.var 3) .nil)))) (.cons (.var 4) .nil)))))
  .nop)))))))⟩

def n__law_plays_hold : List Str := ["asks", "lens", "c", "by", "way", "great", "rows", "told", "row", "due", "heard"]

def ci__law_chains_hold_1 : Ex := (.itv (.var 0))
def cc__law_chains_hold_1 : Ex := .yes
def ce__law_chains_hold_1 : Ex := (.var 1)
def cp__law_chains_hold_1 : Ex := .comp (.one 6) ci__law_chains_hold_1 cc__law_chains_hold_1 ce__law_chains_hold_1
@[simp] theorem b_cp__law_chains_hold_1 (e r) : bor cp__law_chains_hold_1 e r = r.bind borK := id rfl
@[simp] theorem r_cp__law_chains_hold_1 (np e q) : retS np cp__law_chains_hold_1 e q = q.bind retK := id rfl
@[simp] theorem lo_cp__law_chains_hold_1 (e) : lockE (.itv cp__law_chains_hold_1) e = e := id rfl
@[simp] theorem un_cp__law_chains_hold_1 (e f) : unlockE (.itv cp__law_chains_hold_1) e f = f := id rfl

def ci__law_chains_hold_2 : Ex := (.itv (.var 5))
def cc__law_chains_hold_2 : Ex := .yes
def ce__law_chains_hold_2 : Ex := (.tup (.cons (.ix (.var 8) (.int 0)) (.cons (.bin .add (.bin .mul (.ix (.var 8) (.int 1)) (.var 2)) (.var 3)) .nil)))
def cp__law_chains_hold_2 : Ex := .comp (.one 8) ci__law_chains_hold_2 cc__law_chains_hold_2 ce__law_chains_hold_2
@[simp] theorem b_cp__law_chains_hold_2 (e r) : bor cp__law_chains_hold_2 e r = r.bind borK := id rfl
@[simp] theorem r_cp__law_chains_hold_2 (np e q) : retS np cp__law_chains_hold_2 e q = q.bind retK := id rfl
@[simp] theorem lo_cp__law_chains_hold_2 (e) : lockE (.itv cp__law_chains_hold_2) e = e := id rfl
@[simp] theorem un_cp__law_chains_hold_2 (e f) : unlockE (.itv cp__law_chains_hold_2) e f = f := id rfl

/-- _law_chains_hold: 0 asks, 1 y, 2 c, 3 by, 4 great, 5 rows, 6 hour, 7 due, 8 row -/
def c__law_chains_hold : FnC := ⟨4, 9,
  (.seq (.asg (.one 4) (.call i__law_grown (.cons (.var 0) (.cons (.var 2) (.cons (.var 3) .nil)))))
  (.seq (.asg (.one 5) (.call i__law_runs (.cons (.var 0) (.cons (.bi .tuple (.cons cp__law_chains_hold_1 .nil)) .nil))))
  (.seq (.asg (.one 7) (.bi .tuple (.cons cp__law_chains_hold_2 .nil)))
  (.seq (.ret (.and (.call i__law_just (.cons (.call i_chain_rows (.cons (.var 4) (.cons (.bin .mul (.var 1) (.var 2)) .nil))) (.cons (.var 7) .nil))) (.call i__law_just (.cons (.call i_run_number (.cons (.var 4) (.cons (.bin .mul (.var 1) (.var 2)) .nil))) (.cons (.bi .len (.cons (.var 5) .nil)) .nil)))))
  .nop))))⟩

def n__law_chains_hold : List Str := ["asks", "y", "c", "by", "great", "rows", "hour", "due", "row"]

def ci__law_newest_hold_1 : Ex := (.itv (.var 1))
def cc__law_newest_hold_1 : Ex := (.tst (.cmp .lt (.var 8) (.var 6)))
def ce__law_newest_hold_1 : Ex := (.var 8)
def cp__law_newest_hold_1 : Ex := .comp (.one 8) ci__law_newest_hold_1 cc__law_newest_hold_1 ce__law_newest_hold_1
@[simp] theorem b_cp__law_newest_hold_1 (e r) : bor cp__law_newest_hold_1 e r = r.bind borK := id rfl
@[simp] theorem r_cp__law_newest_hold_1 (np e q) : retS np cp__law_newest_hold_1 e q = q.bind retK := id rfl
@[simp] theorem lo_cp__law_newest_hold_1 (e) : lockE (.itv cp__law_newest_hold_1) e = e := id rfl
@[simp] theorem un_cp__law_newest_hold_1 (e f) : unlockE (.itv cp__law_newest_hold_1) e f = f := id rfl

def it__law_newest_hold_1 : Ex := (.range1 (.int 3))
def bd__law_newest_hold_1 : Sta := (.seq (.asg (.one 6) (.bin .add (.neg (.int 8)) (.call i__law_take (.cons (.var 0) (.cons (.int 60) .nil)))))
  (.seq (.ite (.tst (.cmp .gt (.bi .len (.cons (.var 1) .nil)) (.int 0)))
    (.seq (.asg (.one 6) (.bin .sub (.bin .add (.ix (.var 1) (.bin .mod (.bi .int (.cons (.call i__law_take (.cons (.var 0) (.cons (.int 60) .nil))) .nil)) (.bi .len (.cons (.var 1) .nil)))) (.call i__law_take (.cons (.var 0) (.cons (.int 3) .nil)))) (.int 1)))
    .nop)
    .nop)
  (.seq (.asg (.one 7) (.bi .len (.cons cp__law_newest_hold_1 .nil)))
  (.seq (.ite (.not (.tst (.call i__law_just (.cons (.call i_newest_before (.cons (.var 4) (.cons (.bin .add (.bin .mul (.var 6) (.var 2)) (.var 3)) .nil))) (.cons (.var 7) .nil)))))
    (.seq (.ret (.bl false))
    .nop)
    .nop)
  .nop))))
def lp__law_newest_hold_1 : Sta := .for_ (.one 5) it__law_newest_hold_1 bd__law_newest_hold_1

/-- _law_newest_hold: 0 tape, 1 asks, 2 c, 3 by, 4 great, 5 turn, 6 hour, 7 due, 8 ask -/
def c__law_newest_hold : FnC := ⟨4, 9,
  (.seq (.asg (.one 4) (.call i__law_grown (.cons (.var 1) (.cons (.var 2) (.cons (.var 3) .nil)))))
  (.seq lp__law_newest_hold_1
  (.seq (.ret (.bl true))
  .nop)))⟩

def n__law_newest_hold : List Str := ["tape", "asks", "c", "by", "great", "turn", "hour", "due", "ask"]

def it__law_later_1 : Ex := (.range1 (.bi .min (.cons (.bi .len (.cons (.var 0) .nil)) (.cons (.bi .len (.cons (.var 1) .nil)) .nil))))
def bd__law_later_1 : Sta := (.seq (.ite (.or (.tst (.cmp .lt (.ix (.ix (.var 1) (.var 2)) (.int 0)) (.ix (.ix (.var 0) (.var 2)) (.int 0)))) (.tst (.cmp .lt (.ix (.ix (.var 1) (.var 2)) (.int 1)) (.ix (.ix (.var 0) (.var 2)) (.int 1)))))
    (.seq (.ret (.bl false))
    .nop)
    .nop)
  .nop)
def lp__law_later_1 : Sta := .for_ (.one 2) it__law_later_1 bd__law_later_1

/-- _law_later: 0 one, 1 two, 2 at -/
def c__law_later : FnC := ⟨2, 3,
  (.seq lp__law_later_1
  (.seq (.ret (.bl true))
  .nop))⟩

def n__law_later : List Str := ["one", "two", "at"]

def ci__law_later_hold_1 : Ex := (.itv (.var 2))
def cc__law_later_hold_1 : Ex := .yes
def ce__law_later_hold_1 : Ex := (.bi .max (.cons (.int 1) (.cons (.bin .sub (.bin .add (.var 7) (.call i__law_take (.cons (.var 0) (.cons (.int 5) .nil)))) (.int 1)) .nil)))
def cp__law_later_hold_1 : Ex := .comp (.one 7) ci__law_later_hold_1 cc__law_later_hold_1 ce__law_later_hold_1
@[simp] theorem b_cp__law_later_hold_1 (e r) : bor cp__law_later_hold_1 e r = r.bind borK := id rfl
@[simp] theorem r_cp__law_later_hold_1 (np e q) : retS np cp__law_later_hold_1 e q = q.bind retK := id rfl
@[simp] theorem lo_cp__law_later_hold_1 (e) : lockE (.itv cp__law_later_hold_1) e = e := id rfl
@[simp] theorem un_cp__law_later_hold_1 (e f) : unlockE (.itv cp__law_later_hold_1) e f = f := id rfl

/-- _law_later_hold: 0 tape, 1 asks, 2 lens, 3 c, 4 by, 5 great, 6 others, 7 y, 8 due, 9 heard -/
def c__law_later_hold : FnC := ⟨5, 10,
  (.seq (.asg (.one 5) (.call i__law_grown (.cons (.var 1) (.cons (.var 3) (.cons (.var 4) .nil)))))
  (.seq (.asg (.one 6) (.bi .tuple (.cons cp__law_later_hold_1 .nil)))
  (.seq (.asg (.one 8) (.call i__law_later (.cons (.call i__law_runs (.cons (.var 1) (.cons (.var 2) .nil))) (.cons (.call i__law_runs (.cons (.var 1) (.cons (.var 6) .nil))) .nil))))
  (.seq (.asg (.one 9) (.call i_later_chain (.cons (.var 5) (.cons (.bi .list (.cons (.call i__law_grown (.cons (.var 2) (.cons (.var 3) (.cons (.int 0) .nil)))) .nil)) (.cons (.call i__law_grown (.cons (.var 6) (.cons (.var 3) (.cons (.int 0) .nil)))) .nil)))))
  (.seq (.ret (.call i__law_just (.cons (.var 9) (.cons (.var 8) .nil))))
  .nop)))))⟩

def n__law_later_hold : List Str := ["tape", "asks", "lens", "c", "by", "great", "others", "y", "due", "heard"]

def ci__law_stream_hold_1 : Ex := (.range1 (.var 2))
def cc__law_stream_hold_1 : Ex := .yes
def ce__law_stream_hold_1 : Ex := (.bin .mul (.var 6) (.var 3))
def cp__law_stream_hold_1 : Ex := .comp (.one 6) ci__law_stream_hold_1 cc__law_stream_hold_1 ce__law_stream_hold_1
@[simp] theorem b_cp__law_stream_hold_1 (e r) : bor cp__law_stream_hold_1 e r = r.bind borK := id rfl
@[simp] theorem r_cp__law_stream_hold_1 (np e q) : retS np cp__law_stream_hold_1 e q = q.bind retK := id rfl
@[simp] theorem lo_cp__law_stream_hold_1 (e) : lockE (.itv cp__law_stream_hold_1) e = e := id rfl
@[simp] theorem un_cp__law_stream_hold_1 (e f) : unlockE (.itv cp__law_stream_hold_1) e f = f := id rfl

def ci__law_stream_hold_2 : Ex := (.itv (.var 5))
def cc__law_stream_hold_2 : Ex := .yes
def ce__law_stream_hold_2 : Ex := (.var 4)
def cp__law_stream_hold_2 : Ex := .comp (.one 8) ci__law_stream_hold_2 cc__law_stream_hold_2 ce__law_stream_hold_2
@[simp] theorem b_cp__law_stream_hold_2 (e r) : bor cp__law_stream_hold_2 e r = r.bind borK := id rfl
@[simp] theorem r_cp__law_stream_hold_2 (np e q) : retS np cp__law_stream_hold_2 e q = q.bind retK := id rfl
@[simp] theorem lo_cp__law_stream_hold_2 (e) : lockE (.itv cp__law_stream_hold_2) e = e := id rfl
@[simp] theorem un_cp__law_stream_hold_2 (e f) : unlockE (.itv cp__law_stream_hold_2) e f = f := id rfl

def ci__law_stream_hold_3 : Ex := (.itv (.var 7))
def cc__law_stream_hold_3 : Ex := .yes
def ce__law_stream_hold_3 : Ex := (.bin .sub (.ix (.var 9) (.int 0)) (.int 1))
def cp__law_stream_hold_3 : Ex := .comp (.one 9) ci__law_stream_hold_3 cc__law_stream_hold_3 ce__law_stream_hold_3
@[simp] theorem b_cp__law_stream_hold_3 (e r) : bor cp__law_stream_hold_3 e r = r.bind borK := id rfl
@[simp] theorem r_cp__law_stream_hold_3 (np e q) : retS np cp__law_stream_hold_3 e q = q.bind retK := id rfl
@[simp] theorem lo_cp__law_stream_hold_3 (e) : lockE (.itv cp__law_stream_hold_3) e = e := id rfl
@[simp] theorem un_cp__law_stream_hold_3 (e f) : unlockE (.itv cp__law_stream_hold_3) e f = f := id rfl

def it__law_stream_hold_1 : Ex := (.range1 (.bi .len (.cons (.var 7) .nil)))
def bd__law_stream_hold_1 : Sta := (.seq (.ite (.not (.tst (.call i__law_just (.cons (.call i_stay_run (.cons (.var 2) (.cons (.bin .mul (.var 3) (.var 1)) (.cons (.bin .mul (.var 4) (.var 1)) (.cons (.var 6) .nil))))) (.cons (.tup (.cons (.bin .sub (.ix (.ix (.var 7) (.var 6)) (.int 0)) (.int 1)) (.cons (.bin .mul (.ix (.ix (.var 7) (.var 6)) (.int 1)) (.var 1)) .nil))) .nil)))))
    (.seq (.ret (.bl false))
    .nop)
    .nop)
  .nop)
def lp__law_stream_hold_1 : Sta := .for_ (.one 6) it__law_stream_hold_1 bd__law_stream_hold_1

/-- _law_stream_hold: 0 tape, 1 c, 2 n, 3 d, 4 y, 5 asks, 6 at, 7 rows, 8 hour, 9 row -/
def c__law_stream_hold : FnC := ⟨2, 10,
  (.seq (.asg (.one 2) (.bin .add (.int 1) (.call i__law_take (.cons (.var 0) (.cons (.int 12) .nil)))))
  (.seq (.asg (.one 3) (.bin .add (.int 1) (.call i__law_take (.cons (.var 0) (.cons (.int 7) .nil)))))
  (.seq (.asg (.one 4) (.bin .add (.int 1) (.call i__law_take (.cons (.var 0) (.cons (.int 9) .nil)))))
  (.seq (.asg (.one 5) (.bi .tuple (.cons cp__law_stream_hold_1 .nil)))
  (.seq (.asg (.one 7) (.call i__law_runs (.cons (.var 5) (.cons (.bi .tuple (.cons cp__law_stream_hold_2 .nil)) .nil))))
  (.seq (.ite (.not (.tst (.call i__law_just (.cons (.call i_stay_done (.cons (.var 2) (.cons (.bin .mul (.var 3) (.var 1)) (.cons (.bin .mul (.var 4) (.var 1)) .nil)))) (.cons (.bi .tuple (.cons cp__law_stream_hold_3 .nil)) .nil)))))
    (.seq (.ret (.bl false))
    .nop)
    .nop)
  (.seq lp__law_stream_hold_1
  (.seq (.ret (.bl true))
  .nop))))))))⟩

def n__law_stream_hold : List Str := ["tape", "c", "n", "d", "y", "asks", "at", "rows", "hour", "row"]

/-- _law_heard: 0 pick, 1 told, 2 e -/
def c__law_heard : FnC := ⟨1, 3,
  (.seq (.asg (.one 1) .non)
  (.seq (.try_ (.seq (.ite (.tst (.cmp .eq (.var 0) (.int 0)))
      (.seq (.expr (.call i_played (.cons (.tup (.cons (.int 1) (.cons (.int 1) .nil))) (.cons (.tup (.cons (.int 2) .nil)) .nil))))
      .nop)
      (.seq (.ite (.tst (.cmp .eq (.var 0) (.int 1)))
        (.seq (.expr (.call i_played (.cons (.tup (.cons (.int 0) (.cons (.int 5) .nil))) (.cons (.tup (.cons (.int 2) .nil)) .nil))))
        .nop)
        (.seq (.ite (.tst (.cmp .eq (.var 0) (.int 2)))
          (.seq (.expr (.call i_next_run (.cons (.tup (.cons (.int 0) (.cons (.int 5) .nil))) (.cons (.int 1) (.cons (.neg (.int 1)) (.cons (.int 2) .nil))))))
          .nop)
          (.seq (.ite (.tst (.cmp .eq (.var 0) (.int 3)))
            (.seq (.expr (.call i_later_chain (.cons (.tup (.cons (.int 0) (.cons (.int 5) .nil))) (.cons (.tup (.cons (.int 1) (.cons (.int 1) .nil))) (.cons (.tup (.cons (.int 0) (.cons (.int 1) .nil))) .nil)))))
            .nop)
            (.seq (.ite (.tst (.cmp .eq (.var 0) (.int 4)))
              (.seq (.expr (.call i_chain_rows (.cons (.tup (.cons (.int 0) (.cons (.str "1") .nil))) (.cons (.int 0) .nil))))
              .nop)
              (.seq (.expr (.call i_newest_before (.cons (.tup .nil) (.cons (.bl true) .nil))))
              .nop))
            .nop))
          .nop))
        .nop))
      .nop))
    .nop)
    (.hcons k_BadRow (some 2) (.seq (.asg (.one 1) (.tup (.cons (.str "row") (.cons (.fld 2) (.cons (.isx 2 k_DoneError) .nil)))))
    .nop)
    (.hcons k_BadCase (some 2) (.seq (.asg (.one 1) (.tup (.cons (.str "case") (.cons (.fld 2) (.cons (.isx 2 k_DoneError) .nil)))))
    .nop)
    (.hcons k_BadNumber (some 2) (.seq (.asg (.one 1) (.tup (.cons (.str "number") (.cons (.fld 2) (.cons (.isx 2 k_DoneError) .nil)))))
    .nop)
    (.hcons k_DoneError none (.seq (.asg (.one 1) (.tup (.cons (.str "else") .nil)))
    .nop)
    .hnil)))))
  (.seq (.ret (.var 1))
  .nop)))⟩

def n__law_heard : List Str := ["pick", "told", "e"]

/-- law: 0 script, 1 tape, 2 asks, 3 c, 4 by, 5 way, 6 lens, 7 dues, 8 pick -/
def c_law : FnC := ⟨1, 9,
  (.seq (.asg (.one 1) (.call i__law_tape (.cons (.var 0) .nil)))
  (.seq (.asg (.one 2) (.call i__law_ask_row (.cons (.var 1) (.cons (.int 12) .nil))))
  (.seq (.ite (.tst (.cmp .eq (.call i__law_take (.cons (.var 1) (.cons (.int 9) .nil))) (.int 8)))
    (.seq (.asg (.one 2) (.tup .nil))
    .nop)
    .nop)
  (.seq (.asg (.one 3) (.call i__law_factor (.cons (.var 1) .nil)))
  (.seq (.asg (.one 4) (.ix (.tup (.cons (.int 0) (.cons (.neg (.int 5)) (.cons (.bin .pow (.int 10) (.int 28)) (.cons (.neg (.bin .pow (.int 10) (.int 20))) .nil))))) (.call i__law_take (.cons (.var 1) (.cons (.int 4) .nil)))))
  (.seq (.asg (.one 5) (.call i__law_take (.cons (.var 1) (.cons (.int 2) .nil))))
  (.seq (.asg (.one 6) (.call i__law_lens (.cons (.var 1) (.cons (.bi .len (.cons (.var 2) .nil)) .nil))))
  (.seq (.ite (.or (.not (.tst (.call i__law_plays_hold (.cons (.var 2) (.cons (.var 6) (.cons (.var 3) (.cons (.var 4) (.cons (.var 5) .nil)))))))) (.not (.tst (.call i__law_chains_hold (.cons (.var 2) (.cons (.bin .add (.int 1) (.call i__law_take (.cons (.var 1) (.cons (.int 9) .nil)))) (.cons (.var 3) (.cons (.var 4) .nil))))))))
    (.seq (.ret (.bl false))
    .nop)
    .nop)
  (.seq (.ite (.or (.not (.tst (.call i__law_newest_hold (.cons (.var 1) (.cons (.var 2) (.cons (.var 3) (.cons (.var 4) .nil))))))) (.not (.tst (.call i__law_later_hold (.cons (.var 1) (.cons (.var 2) (.cons (.var 6) (.cons (.var 3) (.cons (.var 4) .nil)))))))))
    (.seq (.ret (.bl false))
    .nop)
    .nop)
  (.seq (.asg (.one 7) (.lst (.cons (.tup (.cons (.str "row") (.cons (.int 1) (.cons (.bl true) .nil)))) (.cons (.tup (.cons (.str "case") (.cons (.str "short") (.cons (.bl true) .nil)))) (.cons (.tup (.cons (.str "number") (.cons (.neg (.int 1)) (.cons (.bl true) .nil)))) (.cons (.tup (.cons (.str "row") (.cons (.tup (.cons (.int 0) (.cons (.neg (.int 2)) .nil))) (.cons (.bl true) .nil)))) .nil))))))
  (.seq (.asg (.one 7) (.bin .add (.var 7) (.lst (.cons (.tup (.cons (.str "row") (.cons (.int 1) (.cons (.bl true) .nil)))) (.cons (.tup (.cons (.str "number") (.cons (.bl true) (.cons (.bl true) .nil)))) .nil)))))
  (.seq (.asg (.one 8) (.call i__law_take (.cons (.var 1) (.cons (.int 6) .nil))))
  (.seq (.ret (.and (.call i__law_just (.cons (.call i__law_heard (.cons (.var 8) .nil)) (.cons (.ix (.var 7) (.var 8)) .nil))) (.call i__law_stream_hold (.cons (.var 1) (.cons (.var 3) .nil)))))
  .nop)))))))))))))⟩

def n_law : List Str := ["script", "tape", "asks", "c", "by", "way", "lens", "dues", "pick"]

def fns : List FnC := [c_tupled, c_is_int, c_check_number, c_check_asks, c_check_change, c_number_ahead, c_run_behind, c_next_run, c_newest_before, c_check_lens, c_rows_of_runs, c_played, c_chain_of, c_chain_rows, c_run_number, c_later_chain, c_check_change_at, c_is_calm, c_final_run, c_steady_count, c_steady_run, c_steady_list, c_stay_run, c_stay_done, c__law_tape, c__law_take, c__law_just, c__law_ask_row, c__law_next, c__law_factor, c__law_grown, c__law_lens, c__law_runs, c__law_scaled, c__law_form, c__law_plays_hold, c__law_chains_hold, c__law_newest_hold, c__law_later, c__law_later_hold, c__law_stream_hold, c__law_heard, c_law]
def clsK : List (Option Nat) := [none, some i_tupled, some i_tupled, some i_tupled, none]
def ups : List (List Nat) := [[0, 999], [1, 0, 999], [2, 0, 999], [3, 0, 999], [4, 0, 999]]
def dat : Dat := ⟨[("tupled" : Str), ("is_int" : Str), ("check_number" : Str), ("check_asks" : Str), ("check_change" : Str), ("number_ahead" : Str), ("run_behind" : Str), ("next_run" : Str), ("newest_before" : Str), ("check_lens" : Str), ("rows_of_runs" : Str), ("played" : Str), ("chain_of" : Str), ("chain_rows" : Str), ("run_number" : Str), ("later_chain" : Str), ("check_change_at" : Str), ("is_calm" : Str), ("final_run" : Str), ("steady_count" : Str), ("steady_run" : Str), ("steady_list" : Str), ("stay_run" : Str), ("stay_done" : Str), ("_law_tape" : Str), ("_law_take" : Str), ("_law_just" : Str), ("_law_ask_row" : Str), ("_law_next" : Str), ("_law_factor" : Str), ("_law_grown" : Str), ("_law_lens" : Str), ("_law_runs" : Str), ("_law_scaled" : Str), ("_law_form" : Str), ("_law_plays_hold" : Str), ("_law_chains_hold" : Str), ("_law_newest_hold" : Str), ("_law_later" : Str), ("_law_later_hold" : Str), ("_law_stream_hold" : Str), ("_law_heard" : Str), ("law" : Str)], ["DoneError", "BadNumber", "BadRow", "BadCase", "TooMany"], ["at", "at", "at", "at", "limit"], ups, [1, 2, 3, 4], [("MOST_CHANGES", 4000)]⟩
def prog : Prog := ⟨fns, clsK, dat.sub, 1048576⟩
theorem at_tupled : prog.fns[i_tupled]? = some c_tupled := rfl
@[simp] theorem prot_tupled_0 : prog.prot i_tupled 0 = true := by decide +kernel
theorem at_is_int : prog.fns[i_is_int]? = some c_is_int := rfl
@[simp] theorem prot_is_int_0 : prog.prot i_is_int 0 = true := by decide +kernel
theorem at_check_number : prog.fns[i_check_number]? = some c_check_number := rfl
@[simp] theorem prot_check_number_0 : prog.prot i_check_number 0 = true := by decide +kernel
@[simp] theorem prot_check_number_1 : prog.prot i_check_number 1 = true := by decide +kernel
theorem at_check_asks : prog.fns[i_check_asks]? = some c_check_asks := rfl
@[simp] theorem prot_check_asks_0 : prog.prot i_check_asks 0 = true := by decide +kernel
theorem at_check_change : prog.fns[i_check_change]? = some c_check_change := rfl
@[simp] theorem prot_check_change_0 : prog.prot i_check_change 0 = true := by decide +kernel
@[simp] theorem prot_check_change_1 : prog.prot i_check_change 1 = true := by decide +kernel
theorem at_number_ahead : prog.fns[i_number_ahead]? = some c_number_ahead := rfl
@[simp] theorem prot_number_ahead_0 : prog.prot i_number_ahead 0 = true := by decide +kernel
@[simp] theorem prot_number_ahead_1 : prog.prot i_number_ahead 1 = true := by decide +kernel
theorem at_run_behind : prog.fns[i_run_behind]? = some c_run_behind := rfl
@[simp] theorem prot_run_behind_0 : prog.prot i_run_behind 0 = true := by decide +kernel
@[simp] theorem prot_run_behind_1 : prog.prot i_run_behind 1 = true := by decide +kernel
@[simp] theorem prot_run_behind_2 : prog.prot i_run_behind 2 = true := by decide +kernel
@[simp] theorem prot_run_behind_3 : prog.prot i_run_behind 3 = true := by decide +kernel
theorem at_next_run : prog.fns[i_next_run]? = some c_next_run := rfl
@[simp] theorem prot_next_run_0 : prog.prot i_next_run 0 = true := by decide +kernel
@[simp] theorem prot_next_run_1 : prog.prot i_next_run 1 = true := by decide +kernel
@[simp] theorem prot_next_run_2 : prog.prot i_next_run 2 = true := by decide +kernel
@[simp] theorem prot_next_run_3 : prog.prot i_next_run 3 = true := by decide +kernel
theorem at_newest_before : prog.fns[i_newest_before]? = some c_newest_before := rfl
@[simp] theorem prot_newest_before_0 : prog.prot i_newest_before 0 = true := by decide +kernel
@[simp] theorem prot_newest_before_1 : prog.prot i_newest_before 1 = true := by decide +kernel
theorem at_check_lens : prog.fns[i_check_lens]? = some c_check_lens := rfl
@[simp] theorem prot_check_lens_0 : prog.prot i_check_lens 0 = true := by decide +kernel
@[simp] theorem prot_check_lens_1 : prog.prot i_check_lens 1 = true := by decide +kernel
theorem at_rows_of_runs : prog.fns[i_rows_of_runs]? = some c_rows_of_runs := rfl
@[simp] theorem prot_rows_of_runs_0 : prog.prot i_rows_of_runs 0 = true := by decide +kernel
@[simp] theorem prot_rows_of_runs_1 : prog.prot i_rows_of_runs 1 = true := by decide +kernel
theorem at_played : prog.fns[i_played]? = some c_played := rfl
@[simp] theorem prot_played_0 : prog.prot i_played 0 = true := by decide +kernel
@[simp] theorem prot_played_1 : prog.prot i_played 1 = true := by decide +kernel
theorem at_chain_of : prog.fns[i_chain_of]? = some c_chain_of := rfl
@[simp] theorem prot_chain_of_0 : prog.prot i_chain_of 0 = true := by decide +kernel
@[simp] theorem prot_chain_of_1 : prog.prot i_chain_of 1 = true := by decide +kernel
theorem at_chain_rows : prog.fns[i_chain_rows]? = some c_chain_rows := rfl
@[simp] theorem prot_chain_rows_0 : prog.prot i_chain_rows 0 = true := by decide +kernel
@[simp] theorem prot_chain_rows_1 : prog.prot i_chain_rows 1 = true := by decide +kernel
theorem at_run_number : prog.fns[i_run_number]? = some c_run_number := rfl
@[simp] theorem prot_run_number_0 : prog.prot i_run_number 0 = true := by decide +kernel
@[simp] theorem prot_run_number_1 : prog.prot i_run_number 1 = true := by decide +kernel
theorem at_later_chain : prog.fns[i_later_chain]? = some c_later_chain := rfl
@[simp] theorem prot_later_chain_0 : prog.prot i_later_chain 0 = true := by decide +kernel
@[simp] theorem prot_later_chain_1 : prog.prot i_later_chain 1 = true := by decide +kernel
@[simp] theorem prot_later_chain_2 : prog.prot i_later_chain 2 = true := by decide +kernel
theorem at_check_change_at : prog.fns[i_check_change_at]? = some c_check_change_at := rfl
@[simp] theorem prot_check_change_at_0 : prog.prot i_check_change_at 0 = true := by decide +kernel
@[simp] theorem prot_check_change_at_1 : prog.prot i_check_change_at 1 = true := by decide +kernel
theorem at_is_calm : prog.fns[i_is_calm]? = some c_is_calm := rfl
@[simp] theorem prot_is_calm_0 : prog.prot i_is_calm 0 = true := by decide +kernel
@[simp] theorem prot_is_calm_1 : prog.prot i_is_calm 1 = true := by decide +kernel
@[simp] theorem prot_is_calm_2 : prog.prot i_is_calm 2 = true := by decide +kernel
theorem at_final_run : prog.fns[i_final_run]? = some c_final_run := rfl
@[simp] theorem prot_final_run_0 : prog.prot i_final_run 0 = true := by decide +kernel
@[simp] theorem prot_final_run_1 : prog.prot i_final_run 1 = true := by decide +kernel
@[simp] theorem prot_final_run_2 : prog.prot i_final_run 2 = true := by decide +kernel
theorem at_steady_count : prog.fns[i_steady_count]? = some c_steady_count := rfl
@[simp] theorem prot_steady_count_0 : prog.prot i_steady_count 0 = true := by decide +kernel
@[simp] theorem prot_steady_count_1 : prog.prot i_steady_count 1 = true := by decide +kernel
@[simp] theorem prot_steady_count_2 : prog.prot i_steady_count 2 = true := by decide +kernel
theorem at_steady_run : prog.fns[i_steady_run]? = some c_steady_run := rfl
@[simp] theorem prot_steady_run_0 : prog.prot i_steady_run 0 = true := by decide +kernel
@[simp] theorem prot_steady_run_1 : prog.prot i_steady_run 1 = true := by decide +kernel
@[simp] theorem prot_steady_run_2 : prog.prot i_steady_run 2 = true := by decide +kernel
@[simp] theorem prot_steady_run_3 : prog.prot i_steady_run 3 = true := by decide +kernel
theorem at_steady_list : prog.fns[i_steady_list]? = some c_steady_list := rfl
@[simp] theorem prot_steady_list_0 : prog.prot i_steady_list 0 = true := by decide +kernel
@[simp] theorem prot_steady_list_1 : prog.prot i_steady_list 1 = true := by decide +kernel
@[simp] theorem prot_steady_list_2 : prog.prot i_steady_list 2 = true := by decide +kernel
theorem at_stay_run : prog.fns[i_stay_run]? = some c_stay_run := rfl
@[simp] theorem prot_stay_run_0 : prog.prot i_stay_run 0 = true := by decide +kernel
@[simp] theorem prot_stay_run_1 : prog.prot i_stay_run 1 = true := by decide +kernel
@[simp] theorem prot_stay_run_2 : prog.prot i_stay_run 2 = true := by decide +kernel
@[simp] theorem prot_stay_run_3 : prog.prot i_stay_run 3 = true := by decide +kernel
theorem at_stay_done : prog.fns[i_stay_done]? = some c_stay_done := rfl
@[simp] theorem prot_stay_done_0 : prog.prot i_stay_done 0 = true := by decide +kernel
@[simp] theorem prot_stay_done_1 : prog.prot i_stay_done 1 = true := by decide +kernel
@[simp] theorem prot_stay_done_2 : prog.prot i_stay_done 2 = true := by decide +kernel
theorem at__law_tape : prog.fns[i__law_tape]? = some c__law_tape := rfl
@[simp] theorem prot__law_tape_0 : prog.prot i__law_tape 0 = true := by decide +kernel
theorem at__law_take : prog.fns[i__law_take]? = some c__law_take := rfl
@[simp] theorem prot__law_take_0 : prog.prot i__law_take 0 = true := by decide +kernel
@[simp] theorem prot__law_take_1 : prog.prot i__law_take 1 = true := by decide +kernel
theorem at__law_just : prog.fns[i__law_just]? = some c__law_just := rfl
@[simp] theorem prot__law_just_0 : prog.prot i__law_just 0 = true := by decide +kernel
@[simp] theorem prot__law_just_1 : prog.prot i__law_just 1 = true := by decide +kernel
theorem at__law_ask_row : prog.fns[i__law_ask_row]? = some c__law_ask_row := rfl
@[simp] theorem prot__law_ask_row_0 : prog.prot i__law_ask_row 0 = true := by decide +kernel
@[simp] theorem prot__law_ask_row_1 : prog.prot i__law_ask_row 1 = true := by decide +kernel
theorem at__law_next : prog.fns[i__law_next]? = some c__law_next := rfl
@[simp] theorem prot__law_next_0 : prog.prot i__law_next 0 = true := by decide +kernel
@[simp] theorem prot__law_next_1 : prog.prot i__law_next 1 = true := by decide +kernel
@[simp] theorem prot__law_next_2 : prog.prot i__law_next 2 = true := by decide +kernel
@[simp] theorem prot__law_next_3 : prog.prot i__law_next 3 = true := by decide +kernel
theorem at__law_factor : prog.fns[i__law_factor]? = some c__law_factor := rfl
@[simp] theorem prot__law_factor_0 : prog.prot i__law_factor 0 = true := by decide +kernel
theorem at__law_grown : prog.fns[i__law_grown]? = some c__law_grown := rfl
@[simp] theorem prot__law_grown_0 : prog.prot i__law_grown 0 = true := by decide +kernel
@[simp] theorem prot__law_grown_1 : prog.prot i__law_grown 1 = true := by decide +kernel
@[simp] theorem prot__law_grown_2 : prog.prot i__law_grown 2 = true := by decide +kernel
theorem at__law_lens : prog.fns[i__law_lens]? = some c__law_lens := rfl
@[simp] theorem prot__law_lens_0 : prog.prot i__law_lens 0 = true := by decide +kernel
@[simp] theorem prot__law_lens_1 : prog.prot i__law_lens 1 = true := by decide +kernel
theorem at__law_runs : prog.fns[i__law_runs]? = some c__law_runs := rfl
@[simp] theorem prot__law_runs_0 : prog.prot i__law_runs 0 = true := by decide +kernel
@[simp] theorem prot__law_runs_1 : prog.prot i__law_runs 1 = true := by decide +kernel
theorem at__law_scaled : prog.fns[i__law_scaled]? = some c__law_scaled := rfl
@[simp] theorem prot__law_scaled_0 : prog.prot i__law_scaled 0 = true := by decide +kernel
@[simp] theorem prot__law_scaled_1 : prog.prot i__law_scaled 1 = true := by decide +kernel
@[simp] theorem prot__law_scaled_2 : prog.prot i__law_scaled 2 = true := by decide +kernel
theorem at__law_form : prog.fns[i__law_form]? = some c__law_form := rfl
@[simp] theorem prot__law_form_0 : prog.prot i__law_form 0 = true := by decide +kernel
@[simp] theorem prot__law_form_1 : prog.prot i__law_form 1 = true := by decide +kernel
theorem at__law_plays_hold : prog.fns[i__law_plays_hold]? = some c__law_plays_hold := rfl
@[simp] theorem prot__law_plays_hold_0 : prog.prot i__law_plays_hold 0 = true := by decide +kernel
@[simp] theorem prot__law_plays_hold_1 : prog.prot i__law_plays_hold 1 = true := by decide +kernel
@[simp] theorem prot__law_plays_hold_2 : prog.prot i__law_plays_hold 2 = true := by decide +kernel
@[simp] theorem prot__law_plays_hold_3 : prog.prot i__law_plays_hold 3 = true := by decide +kernel
@[simp] theorem prot__law_plays_hold_4 : prog.prot i__law_plays_hold 4 = true := by decide +kernel
theorem at__law_chains_hold : prog.fns[i__law_chains_hold]? = some c__law_chains_hold := rfl
@[simp] theorem prot__law_chains_hold_0 : prog.prot i__law_chains_hold 0 = true := by decide +kernel
@[simp] theorem prot__law_chains_hold_1 : prog.prot i__law_chains_hold 1 = true := by decide +kernel
@[simp] theorem prot__law_chains_hold_2 : prog.prot i__law_chains_hold 2 = true := by decide +kernel
@[simp] theorem prot__law_chains_hold_3 : prog.prot i__law_chains_hold 3 = true := by decide +kernel
theorem at__law_newest_hold : prog.fns[i__law_newest_hold]? = some c__law_newest_hold := rfl
@[simp] theorem prot__law_newest_hold_0 : prog.prot i__law_newest_hold 0 = true := by decide +kernel
@[simp] theorem prot__law_newest_hold_1 : prog.prot i__law_newest_hold 1 = true := by decide +kernel
@[simp] theorem prot__law_newest_hold_2 : prog.prot i__law_newest_hold 2 = true := by decide +kernel
@[simp] theorem prot__law_newest_hold_3 : prog.prot i__law_newest_hold 3 = true := by decide +kernel
theorem at__law_later : prog.fns[i__law_later]? = some c__law_later := rfl
@[simp] theorem prot__law_later_0 : prog.prot i__law_later 0 = true := by decide +kernel
@[simp] theorem prot__law_later_1 : prog.prot i__law_later 1 = true := by decide +kernel
theorem at__law_later_hold : prog.fns[i__law_later_hold]? = some c__law_later_hold := rfl
@[simp] theorem prot__law_later_hold_0 : prog.prot i__law_later_hold 0 = true := by decide +kernel
@[simp] theorem prot__law_later_hold_1 : prog.prot i__law_later_hold 1 = true := by decide +kernel
@[simp] theorem prot__law_later_hold_2 : prog.prot i__law_later_hold 2 = true := by decide +kernel
@[simp] theorem prot__law_later_hold_3 : prog.prot i__law_later_hold 3 = true := by decide +kernel
@[simp] theorem prot__law_later_hold_4 : prog.prot i__law_later_hold 4 = true := by decide +kernel
theorem at__law_stream_hold : prog.fns[i__law_stream_hold]? = some c__law_stream_hold := rfl
@[simp] theorem prot__law_stream_hold_0 : prog.prot i__law_stream_hold 0 = true := by decide +kernel
@[simp] theorem prot__law_stream_hold_1 : prog.prot i__law_stream_hold 1 = true := by decide +kernel
theorem at__law_heard : prog.fns[i__law_heard]? = some c__law_heard := rfl
@[simp] theorem prot__law_heard_0 : prog.prot i__law_heard 0 = true := by decide +kernel
theorem at_law : prog.fns[i_law]? = some c_law := rfl
@[simp] theorem prot_law_0 : prog.prot i_law 0 = true := by decide +kernel
@[simp] theorem sub_DoneError_DoneError : prog.sub k_DoneError k_DoneError = true := by decide +kernel
@[simp] theorem sub_DoneError_BadNumber : prog.sub k_DoneError k_BadNumber = false := by decide +kernel
@[simp] theorem sub_DoneError_BadRow : prog.sub k_DoneError k_BadRow = false := by decide +kernel
@[simp] theorem sub_DoneError_BadCase : prog.sub k_DoneError k_BadCase = false := by decide +kernel
@[simp] theorem sub_DoneError_TooMany : prog.sub k_DoneError k_TooMany = false := by decide +kernel
theorem cls_BadNumber : prog.cls[k_BadNumber]? = some (some i_tupled) := rfl
@[simp] theorem sub_BadNumber_DoneError : prog.sub k_BadNumber k_DoneError = true := by decide +kernel
@[simp] theorem sub_BadNumber_BadNumber : prog.sub k_BadNumber k_BadNumber = true := by decide +kernel
@[simp] theorem sub_BadNumber_BadRow : prog.sub k_BadNumber k_BadRow = false := by decide +kernel
@[simp] theorem sub_BadNumber_BadCase : prog.sub k_BadNumber k_BadCase = false := by decide +kernel
@[simp] theorem sub_BadNumber_TooMany : prog.sub k_BadNumber k_TooMany = false := by decide +kernel
theorem cls_BadRow : prog.cls[k_BadRow]? = some (some i_tupled) := rfl
@[simp] theorem sub_BadRow_DoneError : prog.sub k_BadRow k_DoneError = true := by decide +kernel
@[simp] theorem sub_BadRow_BadNumber : prog.sub k_BadRow k_BadNumber = false := by decide +kernel
@[simp] theorem sub_BadRow_BadRow : prog.sub k_BadRow k_BadRow = true := by decide +kernel
@[simp] theorem sub_BadRow_BadCase : prog.sub k_BadRow k_BadCase = false := by decide +kernel
@[simp] theorem sub_BadRow_TooMany : prog.sub k_BadRow k_TooMany = false := by decide +kernel
theorem cls_BadCase : prog.cls[k_BadCase]? = some (some i_tupled) := rfl
@[simp] theorem sub_BadCase_DoneError : prog.sub k_BadCase k_DoneError = true := by decide +kernel
@[simp] theorem sub_BadCase_BadNumber : prog.sub k_BadCase k_BadNumber = false := by decide +kernel
@[simp] theorem sub_BadCase_BadRow : prog.sub k_BadCase k_BadRow = false := by decide +kernel
@[simp] theorem sub_BadCase_BadCase : prog.sub k_BadCase k_BadCase = true := by decide +kernel
@[simp] theorem sub_BadCase_TooMany : prog.sub k_BadCase k_TooMany = false := by decide +kernel
theorem cls_TooMany : prog.cls[k_TooMany]? = some none := rfl
@[simp] theorem sub_TooMany_DoneError : prog.sub k_TooMany k_DoneError = true := by decide +kernel
@[simp] theorem sub_TooMany_BadNumber : prog.sub k_TooMany k_BadNumber = false := by decide +kernel
@[simp] theorem sub_TooMany_BadRow : prog.sub k_TooMany k_BadRow = false := by decide +kernel
@[simp] theorem sub_TooMany_BadCase : prog.sub k_TooMany k_BadCase = false := by decide +kernel
@[simp] theorem sub_TooMany_TooMany : prog.sub k_TooMany k_TooMany = true := by decide +kernel
end Pw
set_option maxRecDepth 100000
namespace Pw
open Pv Pv.Pq
def isIntD : D → Bool
  | .int _ => true
  | _ => false
@[simp] theorem run_is_int (n : Nat) (d : D) : run prog (n + 1) i_is_int [.val d] = .ok (.val (.bl (isIntD d))) [some (.val d)] := by
  rw [run_body at_is_int _ rfl]
  cases d <;> simp [c_is_int, isIntD]
/-! the tape -/
def Tape (ts : List Int) : Prop := ts.length ≤ 1000 ∧ ∀ x ∈ ts, 0 ≤ x ∧ x < 60
theorem take_nil (n : Nat) (m : Int) : run prog (n + 1) i__law_take [.own [], .val (.int m)] = .ok (.val (.int 0)) [some (.own []), some (.val (.int m))] := by
  rw [run_body at__law_take _ rfl]
  simp [c__law_take]
theorem take_app (n : Nat) (m : Int) (hm : 0 < m) (xs : List D) (x : Int) : run prog (n + 1) i__law_take [.own (xs ++ [.int x]), .val (.int m)] = .ok (.val (.int (x % m))) [some (.own xs), some (.val (.int m))] := by
  have h1 : ¬ ((xs.length : Int) + 1 = 0) := by omega
  rw [run_body at__law_take _ rfl]
  simp [c__law_take, hm, h1]
/-- a number is taken off the tape -/
theorem run_take (n : Nat) (m : Int) (hm : 0 < m) {ts : List Int} (h : Tape ts) : ∃ v ts', 0 ≤ v ∧ v < m ∧ Tape ts' ∧ run prog (n + 1) i__law_take [.own (ts.map D.int), .val (.int m)] = .ok (.val (.int v)) [some (.own (ts'.map D.int)), some (.val (.int m))] := by
  cases List.eq_nil_or_concat ts with
  | inl e => subst e; exact ⟨0, [], by omega, hm, h, take_nil n m⟩
  | inr e =>
    obtain ⟨xs, x, rfl⟩ := e
    rw [List.concat_eq_append] at h ⊢
    refine ⟨x % m, xs, Int.emod_nonneg _ (by omega), Int.emod_lt_of_pos _ hm, ⟨?_, fun y hy => h.2 y (List.mem_append_left _ hy)⟩, ?_⟩
    · have := h.1
      rw [List.length_append] at this
      omega
    · rw [List.map_append, List.map_cons, List.map_nil, take_app n m hm]
def TI (s c : D) (k : Nat) (e : Es) : Prop := ∃ (ts : List Int) (r : Int) (t : Fr), e = [some (.val s), some (.own (ts.map D.int)), some (.val c), some (.val (.int r)), t.sl, none, none] ∧ 0 ≤ r ∧ (∀ x ∈ ts, 0 ≤ x ∧ x < 60) ∧ ts.length ≤ k
theorem tape_in {P : Nat → Nat → Bool} {C : Nat → List Sl → R Sl} {M : Nat → D → Option D} {S : Nat → Nat → Bool} {np fl : Nat} (s c : D) (n : Nat) (hn : n < 900) (e : Es) (h : TI s c n e) :
    ∃ e', exec P C M S np fl lp__law_tape_2 e = .ok .next e' ∧ TI s c (n + 18) e' := by
  obtain ⟨ts, r, t, rfl, h1, h2, h3⟩ := h
  refine exec_range (n := 18) (by decide) (fun k e => TI s c (n + k) e) (fun q => ∃ e', q = .ok .next e' ∧ TI s c (n + 18) e') (by simp) ⟨ts, r, t, rfl, h1, h2, h3⟩ (fun k e hk hi => ?_) (fun e hi => ⟨e, rfl, hi⟩)
  obtain ⟨ts, r, t, rfl, h1, h2, h3⟩ := hi
  have hl : ts.length < sizeMax := by unfold sizeMax; omega
  have d60 : divOk 60 = true := by decide
  have fin : ∀ j, n + k + 1 ≤ j → TI s c j [some (.val s), some (.own ((ts ++ [r % 60]).map D.int)), some (.val c), some (.val (.int (r / 60))), some (.val (.int k)), none, none] := fun j hj =>
    ⟨_, _, .val _, rfl, by omega, fun x hx => by
      rcases List.mem_append.mp hx with hx | hx
      · exact h2 x hx
      · rw [List.mem_singleton.mp hx]
        omega, by rw [List.length_append, List.length_singleton]; omega⟩
  by_cases h0 : r / 60 = 0
  · have := fin (n + 18) (by omega)
    rw [h0] at this
    simpa [bd__law_tape_2, hl, d60, h0] using this
  · have := fin (n + (k + 1)) (by omega)
    simpa [bd__law_tape_2, hl, d60, h0] using this
theorem cut40 (ns : List Int) : cutD (ns.map D.int) none (some 40) = (ns.take 40).map D.int := by
  unfold cutD
  simp only [endIx]
  rw [if_neg (by decide)]
  simp only [List.drop_zero, Nat.sub_zero, List.map_take, List.length_map]
  rw [show (40 : Int).toNat = 40 from rfl]
  by_cases h : 40 ≤ ns.length
  · rw [Nat.min_eq_left h]
  · rw [Nat.min_eq_right (by omega), List.take_of_length_le (by simp), List.take_of_length_le (by simp; omega)]
def TO (s : D) (k : Nat) (e : Es) : Prop := ∃ (ts : List Int) (c r t : Fr), e = [some (.val s), some (.own (ts.map D.int)), c.sl, r.sl, t.sl, none, none] ∧ (∀ x ∈ ts, 0 ≤ x ∧ x < 60) ∧ ts.length ≤ 18 * k
theorem tape_out {P : Nat → Nat → Bool} {C : Nat → List Sl → R Sl} {M : Nat → D → Option D} {S : Nat → Nat → Bool} {np fl : Nat} (ns : List Int) (e : Es) (h : TO (.lst (ns.map D.int)) 0 e) :
    ∃ e', exec P C M S np fl lp__law_tape_1 e = .ok .next e' ∧ TO (.lst (ns.map D.int)) 40 e' := by
  have pk : powOk 60 15 = true := by decide
  refine exec_for (xs := (ns.take 40).map D.int) (e1 := e) (fun k e => TO (.lst (ns.map D.int)) k e) (fun q => ∃ e', q = .ok .next e' ∧ TO (.lst (ns.map D.int)) 40 e') ?_ h (fun k x e hk hi => ?_) (fun e hi => ⟨e, rfl, ?_⟩)
  · obtain ⟨ts, c, r, t, rfl, _⟩ := h
    simp [it__law_tape_1, cut40]
  · obtain ⟨hk1, hk⟩ := List.getElem?_eq_some_iff.mp hk
    rw [List.length_map, List.length_take] at hk1
    rw [List.getElem_map] at hk
    generalize (List.take 40 ns)[k]'(by simpa using hk1) = i at hk
    subst hk
    obtain ⟨ts, c, r, t, rfl, h1, h2⟩ := hi
    have fin : ∀ q : Int, 0 ≤ q → ∃ e2, exec P C M S np fl lp__law_tape_2 [some (.val (.lst (ns.map D.int))), some (.own (ts.map D.int)), some (.val (.int i)), some (.val (.int q)), t.sl, none, none] = .ok .next e2 ∧ TO (.lst (ns.map D.int)) (k + 1) e2 := fun q hq => by
      obtain ⟨e', q1, ts', r', t', rfl, q3, q4, q5⟩ := tape_in (P := P) (C := C) (M := M) (S := S) (np := np) (fl := fl) (.lst (ns.map D.int)) (.int i) (18 * k) (by omega) _ ⟨ts, q, t, rfl, hq, h1, h2⟩
      exact ⟨_, q1, ts', .val _, .val _, t', rfl, q4, by omega⟩
    by_cases hi : i < 0
    · obtain ⟨e2, w1, w2⟩ := fin ((-i) % 60 ^ 15 * 7 + 11) (by omega)
      have mo : mulOk (-i % 60 ^ 15) 7 = true := by simp [mulOk]
      simp at w1 mo
      simp [bd__law_tape_1, pk, hi, mo, w1]
      simpa using w2
    · obtain ⟨e2, w1, w2⟩ := fin (i % 60 ^ 15) (by omega)
      simp at w1
      simp [bd__law_tape_1, pk, hi, w1]
      simpa using w2
  · obtain ⟨ts, c, r, t, rfl, h1, h2⟩ := hi
    refine ⟨ts, c, r, t, by simp [it__law_tape_1], h1, ?_⟩
    rw [List.length_map, List.length_take] at h2
    omega
theorem rev_get {ts : List Int} {k : Nat} (h : k < ts.length) : atD (ts.map D.int) ((ts.length : Int) - 1 - (k : Nat)) = some (.int (ts[ts.length - 1 - k]'(by omega))) := by
  unfold atD
  rw [if_pos (by omega)]
  rw [show ((ts.length : Int) - 1 - (k : Nat)).toNat = ts.length - 1 - k by omega]
  rw [List.getElem?_map, List.getElem?_eq_getElem (by omega)]
  rfl
theorem tape_comp {P : Nat → Nat → Bool} {C : Nat → List Sl → R Sl} {S : Nat → Nat → Bool} (s : D) (ts : List Int) (hl : ts.length ≤ 1000) (c r t : Option Sl) (e : Es) (he : e = [some (.val s), some (.own (ts.map D.int)), c, r, t, some (.val (.int ts.length)), none]) : evE P C S cp__law_tape_1 e = .ok (.own (ts.reverse.map D.int)) e := by
  have hm := ev_map (P := P) (C := C) (S := S) (tg := .one 6) (it := ci__law_tape_1) (elt := ce__law_tape_1) (e := e) (e1 := e) (e0 := e) (xs := rangeL 0 ts.length) (ts.reverse.map D.int) (by rw [rangeL_length]; unfold sizeMax; omega)
    (by have ok := okR_nat (n := ts.length) (by omega); subst he; simp [ci__law_tape_1, ok]) (by subst he; simp [ci__law_tape_1]) (by simp) (fun k x y hx hy => by
      subst he
      obtain ⟨rfl, hk⟩ := rangeL_nth hx
      have hk : k < ts.length := by omega
      rw [List.getElem?_map, List.getElem?_reverse hk, List.getElem?_eq_getElem (by omega)] at hy
      simp at hy
      simp [ce__law_tape_1, rev_get hk, hy])
  rw [show cp__law_tape_1 = .comp (.one 6) ci__law_tape_1 .yes ce__law_tape_1 from rfl, hm]
  subst he
  simp [ci__law_tape_1]
/-- the law's tape -/
theorem run_tape (n : Nat) (ns : List Int) : ∃ ts ce, Tape ts ∧ run prog (n + 1) i__law_tape [.val (.lst (ns.map D.int))] = .ok (.own (ts.map D.int)) ce := by
  rw [run_body at__law_tape _ rfl]
  obtain ⟨e, q1, ts, c, r, t, rfl, h1, h2⟩ := tape_out (P := prog.prot) (C := run prog n) (M := mkD prog (run prog n)) (S := prog.sub) (np := 1) (fl := prog.fuel) ns [some (.val (.lst (ns.map D.int))), some (.own []), none, none, none, none, none] ⟨[], .non, .non, .non, rfl, by simp, by simp⟩
  have hc := tape_comp (P := prog.prot) (C := run prog n) (S := prog.sub) (.lst (ns.map D.int)) ts (by omega) c.sl r.sl t.sl _ rfl
  exact ⟨ts.reverse, _, ⟨by rw [List.length_reverse]; omega, fun x hx => h1 x (List.mem_reverse.mp hx)⟩, by simp [c__law_tape, q1, hc]; rfl⟩
end Pw
set_option maxRecDepth 100000
namespace Pw
open Pv Pv.Pq
/-! what the laws compare: no lists -/
mutual
def ld : D → Bool
  | .tup xs => lds xs
  | .lst _ => false
  | _ => true
def lds : List D → Bool
  | [] => true
  | x :: xs => ld x && lds xs
end
mutual
def sz : D → Nat
  | .tup xs => szs xs + 1
  | _ => 1
def szs : List D → Nat
  | [] => 0
  | x :: xs => sz x + szs xs
end
theorem lds_app (xs ys : List D) : lds (xs ++ ys) = (lds xs && lds ys) := by
  induction xs with
  | nil => simp [lds]
  | cons x xs ih => simp [lds, ih, Bool.and_assoc]
theorem szs_app (xs ys : List D) : szs (xs ++ ys) = szs xs + szs ys := by
  induction xs with
  | nil => simp [szs]
  | cons x xs ih => simp [szs, ih]; omega
theorem szs_len (xs : List D) : xs.length ≤ szs xs := by
  induction xs with
  | nil => simp [szs]
  | cons x xs ih =>
    have : 1 ≤ sz x := by cases x <;> simp [sz]
    simp [szs]
    omega
def twin (d : D) : D := .tup [d, d]
def JI (a b : D) (t o w : Option Sl) (L : List D) (e : Es) : Prop := ∃ at' : Fr, e = [some (.val a), some (.val b), some (.own (L.map twin)), t, o, w, at'.sl]
theorem just_in {P : Nat → Nat → Bool} {C : Nat → List Sl → R Sl} {M : Nat → D → Option D} {S : Nat → Nat → Bool} {np fl : Nat} (a b : D) (t : Option Sl) (xs L : List D) (hl : szs L + szs xs < 1000000) (e : Es) (h : JI a b t (some (.val (.tup xs))) (some (.val (.tup xs))) L e) :
    ∃ e', exec P C M S np fl lp__law_just_2 e = .ok .next e' ∧ JI a b t (some (.val (.tup xs))) (some (.val (.tup xs))) (L ++ xs) e' := by
  obtain ⟨at', rfl⟩ := h
  have l1 := szs_len xs
  have l2 := szs_len L
  refine exec_range (n := xs.length) (by omega) (fun k e => JI a b t (some (.val (.tup xs))) (some (.val (.tup xs))) (L ++ xs.take k) e) (fun q => ∃ e', q = .ok .next e' ∧ JI a b t (some (.val (.tup xs))) (some (.val (.tup xs))) (L ++ xs) e') (by simp) ⟨at', by simp⟩ (fun k e hk hi => ?_) (fun e hi => ⟨e, rfl, by rwa [List.take_length] at hi⟩)
  obtain ⟨at', rfl⟩ := hi
  have hs : ((L ++ xs.take k).map twin).length < sizeMax := by unfold sizeMax; simp; omega
  have ha : atD xs (k : Nat) = some xs[k] := by
    unfold atD
    rw [if_pos (by omega), Int.toNat_natCast, List.getElem?_eq_getElem hk]
  have s2 : 2 ≤ sizeMax := by decide
  simp at hs
  simp [bd__law_just_2, ha, s2, hs]
  refine ⟨.val (.int k), ?_⟩
  have e1 : List.take (k + 1) (xs.map twin) = List.take k (xs.map twin) ++ [twin xs[k]] := by
    rw [← List.map_take, ← List.map_take, List.take_succ_eq_append_getElem hk, List.map_append]
    rfl
  simp [Fr.sl, e1]
  rfl
def JO (a b : D) (k : Nat) (e : Es) : Prop := ∃ (L : List D) (t o w at' : Fr), e = [some (.val a), some (.val b), some (.own (L.map twin)), t.sl, o.sl, w.sl, at'.sl] ∧ lds L = true ∧ szs L + k ≤ 900000
def JE (a b : D) (r : R Flow) : Prop := ∃ (t o w at' : Fr), r = .ok .next [some (.val a), some (.val b), some (.own []), t.sl, o.sl, w.sl, at'.sl]
theorem just_out {P : Nat → Nat → Bool} {C : Nat → List Sl → R Sl} {M : Nat → D → Option D} {S : Nat → Nat → Bool} {np fl : Nat} (a b : D) (e : Es) (h : JO a b 0 e) : JE a b (exec P C M S np fl lp__law_just_1 e) := by
  refine exec_range (n := 1000000) (by omega) (fun k e => JO a b k e) (JE a b) (by simp) h (fun k e hk hi => ?_) (fun e hi => by obtain ⟨L, t, o, w, at', _, _, h⟩ := hi; omega)
  obtain ⟨L, t, o, w, at', rfl, h1, h2⟩ := hi
  cases List.eq_nil_or_concat L with
  | inl hL =>
    subst hL
    simp [bd__law_just_1]
    exact ⟨.val _, o, w, at', rfl⟩
  | inr hL =>
    obtain ⟨L, d, rfl⟩ := hL
    rw [List.concat_eq_append] at h1 h2 ⊢
    rw [lds_app] at h1
    rw [szs_app] at h2
    simp [lds, szs] at h1 h2
    obtain ⟨h1, hd⟩ := h1
    have hn : ¬ ((L.length : Int) + 1 = 0) := by omega
    have goal : ∀ e', szs L + (k + 1) ≤ 900000 → e' = [some (.val a), some (.val b), some (.own (L.map twin)), some (.val (.int k)), some (.val d), some (.val d), at'.sl] → JO a b (k + 1) e' := fun e' h2 he => ⟨L, .val _, .val _, .val _, at', he, h1, h2⟩
    cases d with
    | non => simp [sz] at h2; simp [bd__law_just_1, hn, twin]; exact goal _ (by omega) rfl
    | bl c => cases c <;> (simp [sz] at h2; simp [bd__law_just_1, hn, twin]; exact goal _ (by omega) rfl)
    | int i => simp [sz] at h2; simp [bd__law_just_1, hn, twin]; exact goal _ (by omega) rfl
    | str s => simp [sz] at h2; simp [bd__law_just_1, hn, twin]; exact goal _ (by omega) rfl
    | lst xs => simp [ld] at hd
    | tup xs =>
      simp [sz] at h2
      simp [ld] at hd
      obtain ⟨e', q1, at2, rfl⟩ := just_in (P := P) (C := C) (M := M) (S := S) (np := np) (fl := fl) a b (some (.val (.int k))) xs L (by omega) [some (.val a), some (.val b), some (.own (L.map twin)), some (.val (.int k)), some (.val (.tup xs)), some (.val (.tup xs)), at'.sl] ⟨at', rfl⟩
      have hq : exec P C M S np fl lp__law_just_2 [some (.val a), some (.val b), some (.own (L.map twin)), some (.val (.int k)), some (.val (.tup xs)), some (.val (.tup xs)), at'.sl] = _ := q1
      simp [bd__law_just_1, hn, twin]
      simp [hq]
      exact ⟨L ++ xs, .val _, .val _, .val _, at2, by simp only [List.map_append]; rfl, by rw [lds_app, h1, hd]; rfl, by rw [szs_app]; omega⟩
/-- a thing is just itself -/
theorem run_just (n : Nat) (d : D) (h1 : ld d = true) (h2 : sz d ≤ 900000) : ∃ ce, run prog (n + 1) i__law_just [.val d, .val d] = .ok (.val (.bl true)) (some (.val d) :: some (.val d) :: ce) := by
  rw [run_body at__law_just _ rfl]
  obtain ⟨t, o, w, at', q⟩ := just_out (P := prog.prot) (C := run prog n) (M := mkD prog (run prog n)) (S := prog.sub) (np := 2) (fl := prog.fuel) d d [some (.val d), some (.val d), some (.own [twin d]), none, none, none, none] ⟨[d], .non, .non, .non, .non, rfl, by simp [lds, h1], by simp [szs]; omega⟩
  have s2 : 2 ≤ sizeMax := by decide
  have s1 : 1 ≤ sizeMax := by decide
  unfold twin at q
  exact ⟨_, by simp [c__law_just, s1, s2, q]; rfl⟩
end Pw
set_option maxRecDepth 100000
namespace Pw
open Pv Pv.Pq
/-- what goes into an exception: flat, or a row of flat things -/
def okT : D → Bool
  | .tup xs => xs.all D.flat && decide (xs.length ≤ 1000)
  | .lst _ => false
  | _ => true
theorem tupled_flat (n : Nat) (d : D) (h : d.flat = true) : ∃ ce, run prog (n + 1) i_tupled [.val d] = .ok (.val d) (some (.val d) :: ce) := by
  rw [run_body at_tupled _ rfl]
  cases d <;> first | (simp [D.flat] at h; done) | exact ⟨_, by simp [c_tupled]; rfl⟩
theorem tupled_tup (n : Nat) (xs : List D) (h : xs.all D.flat = true) (hl : xs.length ≤ 1000) : ∃ ce, run prog (n + 2) i_tupled [.val (.tup xs)] = .ok (.val (.tup xs)) ce := by
  rw [run_body at_tupled _ rfl]
  have hm := ev_map (P := prog.prot) (C := run prog (n + 1)) (S := prog.sub) (tg := .one 1) (it := ci_tupled_1) (elt := ce_tupled_1) (e := [some (.val (.tup xs)), none]) (e1 := [some (.val (.tup xs)), none]) (e0 := [some (.val (.tup xs)), none]) (xs := xs) xs (by unfold sizeMax; omega)
    (by simp [ci_tupled_1]) (by simp [ci_tupled_1, lock_var]) rfl (fun k x y hx hy => by
      have e := Option.some.inj (hx.symm.trans hy)
      subst e
      obtain ⟨ce, q⟩ := tupled_flat n x (List.all_eq_true.mp h x (List.mem_of_getElem? hx))
      simp [ce_tupled_1, q])
  have hm : evE prog.prot (run prog (n + 1)) prog.sub cp_tupled_1 [some (.val (.tup xs)), none] = _ := hm
  exact ⟨_, by simp [c_tupled, hm]; rfl⟩
theorem mk_tupled (n c : Nat) (hc : prog.cls[c]? = some (some i_tupled)) (d : D) (h : okT d = true) : mkD prog (run prog (n + 2)) c d = some d := by
  unfold mkD
  rw [hc]
  by_cases hf : d.flat = true
  · obtain ⟨ce, q⟩ := tupled_flat (n + 1) d hf
    simp only [q]
  · cases d with
    | tup xs =>
      simp [okT] at h
      obtain ⟨ce, q⟩ := tupled_tup n xs (by simpa using h.1) h.2
      simp only [q]
    | lst xs => simp [okT] at h
    | _ => simp [D.flat] at hf
@[simp] theorem okT_int (i) : okT (.int i) = true := id rfl
@[simp] theorem okT_non : okT .non = true := id rfl
@[simp] theorem okT_bl (i) : okT (.bl i) = true := id rfl
@[simp] theorem okT_str (i) : okT (.str i) = true := id rfl
@[simp] theorem okT_pair (a b) : okT (.tup [a, b]) = (a.flat && b.flat) := by simp [okT]
@[simp] theorem okT_three (a b c) : okT (.tup [a, b, c]) = (a.flat && (b.flat && c.flat)) := by simp [okT]
@[simp] theorem fl_int (i) : D.flat (.int i) = true := id rfl
@[simp] theorem fl_non : D.flat .non = true := id rfl
@[simp] theorem fl_bl (i) : D.flat (.bl i) = true := id rfl
@[simp] theorem fl_str (i) : D.flat (.str i) = true := id rfl
@[simp] theorem isIntD_int (i) : isIntD (.int i) = true := id rfl
@[simp] theorem isIntD_non : isIntD .non = false := id rfl
@[simp] theorem isIntD_bl (i) : isIntD (.bl i) = false := id rfl
@[simp] theorem isIntD_str (i) : isIntD (.str i) = false := id rfl
@[simp] theorem isIntD_tup (i) : isIntD (.tup i) = false := id rfl
@[simp] theorem isIntD_lst (i) : isIntD (.lst i) = false := id rfl
/-- a row handed in: a tuple, an own list, a list -/
inductive Rw : Sl → List D → Prop where
  | t (xs) : Rw (.val (.tup xs)) xs
  | o (xs) : Rw (.own xs) xs
  | l (xs) : Rw (.val (.lst xs)) xs
theorem at_nat {xs : List D} {k : Nat} {x : D} (h : xs[k]? = some x) : atD xs (k : Nat) = some x := by
  unfold atD
  rw [if_pos (by omega), Int.toNat_natCast, h]
theorem at_map {xs : List Int} {k : Nat} (h : k < xs.length) : atD (xs.map D.int) (k : Nat) = some (.int xs[k]) := at_nat (by rw [List.getElem?_map, List.getElem?_eq_getElem h]; rfl)
end Pw
set_option maxRecDepth 100000
namespace Pw
open Pv Pv.Pq
def tlJ (n : Nat) (d d' : D) : Es := (run prog (n + 1) i__law_just [.val d, .val d']).es.drop 2
/-- two things told are the same -/
@[simp] theorem just_same (n : Nat) (d d' : D) (he : d = d') (h1 : ld d' = true) (h2 : sz d' ≤ 900000) : run prog (n + 1) i__law_just [.val d, .val d'] = .ok (.val (.bl true)) (some (.val d) :: some (.val d') :: tlJ n d d') := by
  subst he
  obtain ⟨ce, q⟩ := run_just n d h1 h2
  unfold tlJ
  rw [q]
  rfl
@[simp] theorem ld_int (i) : ld (.int i) = true := id rfl
@[simp] theorem ld_bl (i) : ld (.bl i) = true := id rfl
@[simp] theorem ld_str (i) : ld (.str i) = true := id rfl
@[simp] theorem ld_non : ld .non = true := id rfl
@[simp] theorem ld_tup (xs) : ld (.tup xs) = lds xs := id rfl
@[simp] theorem lds_nil : lds [] = true := id rfl
@[simp] theorem lds_cons (x xs) : lds (x :: xs) = (ld x && lds xs) := id rfl
@[simp] theorem sz_int (i) : sz (.int i) = 1 := id rfl
@[simp] theorem sz_bl (i) : sz (.bl i) = 1 := id rfl
@[simp] theorem sz_str (i) : sz (.str i) = 1 := id rfl
@[simp] theorem sz_non : sz .non = 1 := id rfl
@[simp] theorem sz_tup (xs) : sz (.tup xs) = szs xs + 1 := id rfl
@[simp] theorem szs_nil : szs [] = 0 := id rfl
@[simp] theorem szs_cons (x xs) : szs (x :: xs) = sz x + szs xs := id rfl
@[simp] theorem lds_ints (zs : List Int) : lds (zs.map D.int) = true := by
  induction zs with
  | nil => rfl
  | cons z zs ih => simp [ih]
@[simp] theorem szs_ints (zs : List Int) : szs (zs.map D.int) = zs.length := by
  induction zs with
  | nil => rfl
  | cons z zs ih => simp [ih]; omega
end Pw
set_option maxRecDepth 100000
namespace Pw
open Pv Pv.Pq
@[simp] theorem mk_BadNumber (n : Nat) (d : D) (h : okT d = true) : mkD prog (run prog (n + 2)) k_BadNumber d = some d := mk_tupled n _ cls_BadNumber d h
@[simp] theorem mk_BadRow (n : Nat) (d : D) (h : okT d = true) : mkD prog (run prog (n + 2)) k_BadRow d = some d := mk_tupled n _ cls_BadRow d h
@[simp] theorem mk_BadCase (n : Nat) (d : D) (h : okT d = true) : mkD prog (run prog (n + 2)) k_BadCase d = some d := mk_tupled n _ cls_BadCase d h
@[simp] theorem mk_TooMany (n : Nat) (d : D) : mkD prog (run prog n) k_TooMany d = some d := by
  unfold mkD
  rw [cls_TooMany]
end Pw
set_option maxRecDepth 100000
namespace Pw
open Pv Pv.Pq
def mx (zs : List Int) : Int := (maxL zs).getD 0
def mn (zs : List Int) : Int := (minL zs).getD 0
theorem maxL_ne {zs : List Int} (h : zs ≠ []) : maxL zs = some (mx zs) := by
  cases zs with
  | nil => exact absurd rfl h
  | cons z zs => rfl
theorem minL_ne {zs : List Int} (h : zs ≠ []) : minL zs = some (mn zs) := by
  cases zs with
  | nil => exact absurd rfl h
  | cons z zs => rfl
theorem foldmax (zs : List Int) : ∀ a : Int, a ≤ zs.foldl max a ∧ (∀ z ∈ zs, z ≤ zs.foldl max a) ∧ (zs.foldl max a = a ∨ zs.foldl max a ∈ zs) := by
  induction zs with
  | nil => intro a; simp
  | cons z zs ih =>
    intro a
    rw [List.foldl_cons]
    obtain ⟨h1, h2, h3⟩ := ih (max a z)
    refine ⟨by omega, fun y hy => ?_, ?_⟩
    · rcases List.mem_cons.mp hy with rfl | hy
      · omega
      · exact h2 y hy
    · rcases h3 with h3 | h3
      · by_cases hz : z ≤ a
        · left; rw [h3]; omega
        · right; rw [h3, show max a z = z by omega]; exact List.mem_cons_self
      · exact .inr (List.mem_cons_of_mem _ h3)
theorem foldmin (zs : List Int) : ∀ a : Int, zs.foldl min a ≤ a ∧ (∀ z ∈ zs, zs.foldl min a ≤ z) ∧ (zs.foldl min a = a ∨ zs.foldl min a ∈ zs) := by
  induction zs with
  | nil => intro a; simp
  | cons z zs ih =>
    intro a
    rw [List.foldl_cons]
    obtain ⟨h1, h2, h3⟩ := ih (min a z)
    refine ⟨by omega, fun y hy => ?_, ?_⟩
    · rcases List.mem_cons.mp hy with rfl | hy
      · omega
      · exact h2 y hy
    · rcases h3 with h3 | h3
      · by_cases hz : a ≤ z
        · left; rw [h3]; omega
        · right; rw [h3, show min a z = z by omega]; exact List.mem_cons_self
      · exact .inr (List.mem_cons_of_mem _ h3)
theorem le_mx {zs : List Int} {z : Int} (h : z ∈ zs) : z ≤ mx zs := by
  cases zs with
  | nil => cases h
  | cons a zs =>
    obtain ⟨h1, h2, _⟩ := foldmax zs a
    rcases List.mem_cons.mp h with rfl | h
    · exact h1
    · exact h2 z h
theorem mx_mem {zs : List Int} (h : zs ≠ []) : mx zs ∈ zs := by
  cases zs with
  | nil => exact absurd rfl h
  | cons a zs =>
    obtain ⟨_, _, h3⟩ := foldmax zs a
    rcases h3 with h3 | h3
    · show zs.foldl max a ∈ _
      rw [h3]
      exact List.mem_cons_self
    · exact List.mem_cons_of_mem _ h3
theorem mn_le {zs : List Int} {z : Int} (h : z ∈ zs) : mn zs ≤ z := by
  cases zs with
  | nil => cases h
  | cons a zs =>
    obtain ⟨h1, h2, _⟩ := foldmin zs a
    rcases List.mem_cons.mp h with rfl | h
    · exact h1
    · exact h2 z h
theorem mn_mem {zs : List Int} (h : zs ≠ []) : mn zs ∈ zs := by
  cases zs with
  | nil => exact absurd rfl h
  | cons a zs =>
    obtain ⟨_, _, h3⟩ := foldmin zs a
    rcases h3 with h3 | h3
    · show zs.foldl min a ∈ _
      rw [h3]
      exact List.mem_cons_self
    · exact List.mem_cons_of_mem _ h3
theorem mx_eq {zs : List Int} {m : Int} (h1 : m ∈ zs) (h2 : ∀ z ∈ zs, z ≤ m) : mx zs = m := by
  have a := le_mx h1
  have b := h2 _ (mx_mem (List.ne_nil_of_mem h1))
  omega
theorem mn_eq {zs : List Int} {m : Int} (h1 : m ∈ zs) (h2 : ∀ z ∈ zs, m ≤ z) : mn zs = m := by
  have a := mn_le h1
  have b := h2 _ (mn_mem (List.ne_nil_of_mem h1))
  omega
theorem mx_app {xs ys : List Int} (hx : xs ≠ []) (hy : ys ≠ []) : mx (xs ++ ys) = max (mx xs) (mx ys) := by
  refine mx_eq ?_ (fun z hz => ?_)
  · by_cases h : mx xs ≤ mx ys
    · rw [Int.max_eq_right h]
      exact List.mem_append_right _ (mx_mem hy)
    · rw [Int.max_eq_left (by omega)]
      exact List.mem_append_left _ (mx_mem hx)
  · rcases List.mem_append.mp hz with hz | hz
    · have := le_mx hz
      omega
    · have := le_mx hz
      omega
theorem divOk_of {j : Int} (h0 : 0 < j) (h : j < 2 ^ 1000) : divOk j = true := by
  unfold divOk
  have hn : j.natAbs ≠ 0 := by omega
  have h1 : j.natAbs.log2 < 1000 := (Nat.log2_lt hn).mpr (by omega)
  simp only [Bool.and_eq_true, decide_eq_true_eq]
  omega
theorem mulOk_l {i j : Int} (h : -(2 ^ 64) < i ∧ i < 2 ^ 64) : mulOk i j = true := by
  unfold mulOk
  rw [Bool.or_eq_true, Bool.or_eq_true]
  exact .inl (.inl (decide_eq_true h))
theorem mulOk_r {i j : Int} (h : -(2 ^ 64) < j ∧ j < 2 ^ 64) : mulOk i j = true := by
  unfold mulOk
  rw [Bool.or_eq_true, Bool.or_eq_true]
  exact .inl (.inr (decide_eq_true h))
theorem mulOk_b {i j : Int} (hi : -(2 ^ 10000) < i ∧ i < 2 ^ 10000) (hj : -(2 ^ 10000) < j ∧ j < 2 ^ 10000) : mulOk i j = true := by
  have key : ∀ x : Int, -(2 ^ 10000) < x ∧ x < 2 ^ 10000 → x.natAbs.log2 < 10000 := fun x hx => by
    by_cases h0 : x.natAbs = 0
    · rw [h0]; decide
    · refine (Nat.log2_lt h0).mpr ?_
      have e : ((x.natAbs : Nat) : Int) < ((2 ^ 10000 : Nat) : Int) := by
        rw [Int.natCast_pow]
        generalize (((2 : Nat) : Int) ^ 10000) = q at *
        have e2 : ((2 : Int) ^ 10000) = (((2 : Nat) : Int) ^ 10000) := rfl
        omega
      exact Int.ofNat_lt.mp e
  unfold mulOk
  rw [Bool.or_eq_true]
  have a := key i hi
  have b := key j hj
  exact .inr (decide_eq_true (by omega))
end Pw
set_option maxRecDepth 100000
namespace Pw
open Pv Pv.Pq
theorem cut_take (xs : List D) (a : Nat) : cutD xs none (some (a : Nat)) = xs.take a := by
  unfold cutD
  simp only [endIx]
  rw [if_neg (by omega)]
  simp only [List.drop_zero, Nat.sub_zero, Int.toNat_natCast]
  by_cases h : a ≤ xs.length
  · rw [Nat.min_eq_left h]
  · rw [Nat.min_eq_right (by omega), List.take_of_length_le (by omega), List.take_of_length_le (by omega)]
theorem cut_drop (xs : List D) (a : Nat) : cutD xs (some (a : Nat)) none = xs.drop a := by
  unfold cutD
  simp only [endIx]
  rw [if_neg (by omega)]
  simp only [Int.toNat_natCast]
  by_cases h : a ≤ xs.length
  · rw [Nat.min_eq_left h, List.take_of_length_le (by simp)]
  · rw [Nat.min_eq_right (by omega), List.drop_eq_nil_of_le (by omega), List.drop_eq_nil_of_le (by omega)]
    simp
theorem cut_mid (xs : List D) (a b : Nat) : cutD xs (some (a : Nat)) (some (b : Nat)) = (xs.take b).drop a := by
  unfold cutD
  simp only [endIx]
  rw [if_neg (by omega), if_neg (by omega)]
  simp only [Int.toNat_natCast]
  rw [List.drop_take]
  by_cases h : a ≤ xs.length
  · rw [Nat.min_eq_left h]
    by_cases hb : b ≤ xs.length
    · rw [Nat.min_eq_left hb]
    · rw [Nat.min_eq_right (by omega), List.take_of_length_le (by simp), List.take_of_length_le (by simp; omega)]
  · rw [Nat.min_eq_right (show xs.length ≤ a by omega), List.drop_eq_nil_of_le (Nat.le_refl _), List.drop_eq_nil_of_le (show xs.length ≤ a by omega)]
    simp
end Pw
set_option maxRecDepth 100000
namespace Pw
open Pv Pv.Pq
theorem fuel_e : prog.fuel = 1048576 := rfl
@[simp] theorem chknum_ok (n : Nat) (x l : Int) (h : l ≤ x) : run prog (n + 3) i_check_number [.val (.int x), .val (.int l)] = .ok (.val (.int x)) [some (.val (.int x)), some (.val (.int l))] := by
  rw [run_body at_check_number _ rfl]
  have h1 : ¬ x < l := by omega
  simp [c_check_number, h1]
/-! rows of asks -/
def Rising (ts : List Int) : Prop := ∀ k (h : k + 1 < ts.length), ts[k]'(by omega) < ts[k + 1]
theorem enumL_at {zs : List Int} {k : Nat} {x : D} (h : (enumL (zs.map D.int))[k]? = some x) : ∃ hk : k < zs.length, x = .tup [.int k, .int zs[k]] := by
  unfold enumL at h
  rw [List.getElem?_map, Option.map_eq_some_iff] at h
  obtain ⟨p, h1, rfl⟩ := h
  rw [List.getElem?_zipIdx, Option.map_eq_some_iff] at h1
  obtain ⟨d0, h1, rfl⟩ := h1
  rw [List.getElem?_map, Option.map_eq_some_iff] at h1
  obtain ⟨z, h1, rfl⟩ := h1
  obtain ⟨hk, h1⟩ := List.getElem?_eq_some_iff.mp h1
  exact ⟨hk, by simp [h1]⟩
theorem enumL_length (ds : List D) : (enumL ds).length = ds.length := by simp [enumL]
/-- a slot holds what a row becomes when it is walked in pairs -/
def walked : Sl → Sl
  | .own ds => .val (.lst ds)
  | s => s
theorem casks_ok (n : Nat) {s : Sl} {zs : List Int} (h : Rw s (zs.map D.int)) (h1 : Rising zs) : ∃ ce, run prog (n + 3) i_check_asks [s] = .ok (.val (.tup (zs.map D.int))) (some (walked s) :: ce) := by
  rw [run_body at_check_asks _ rfl]
  have main : ∀ w, Rw w (zs.map D.int) → walked w = w → ∃ a b : Fr, forK prog.prot (run prog (n + 2)) (mkD prog (run prog (n + 2))) prog.sub 1 prog.fuel (.tup [1, 2]) it_check_asks_1 bd_check_asks_1 (enumL (zs.map D.int)) [some w, none, none] = .ok .next [some w, a.sl, b.sl] := fun w hw ew => by
    rw [forK_e]
    refine forGo_after (fun k e => ∃ a b : Fr, e = [some w, a.sl, b.sl]) (fun r => ∃ a b : Fr, r.mapE (unlockE it_check_asks_1 [some w, none, none]) = .ok .next [some w, a.sl, b.sl]) 0 (fun k x e hx hi => ?_) (fun e hi => ?_) _ ⟨.non, .non, by simp [it_check_asks_1]; rfl⟩
    · obtain ⟨a, b, rfl⟩ := hi
      obtain ⟨hk, rfl⟩ := enumL_at hx
      refine turnT_ex (P := prog.prot) (C := run prog (n + 2)) (M := mkD prog (run prog (n + 2))) (S := prog.sub) (np := 1) (fl := prog.fuel) ?_
      by_cases h0 : k = 0
      · subst h0
        cases hw <;> (simp [bd_check_asks_1]; exact ⟨⟨.val _, rfl⟩, .val _, rfl⟩)
      · obtain ⟨j, rfl⟩ : ∃ j, k = j + 1 := ⟨k - 1, by omega⟩
        have hb := at_map (xs := zs) (k := j) (by omega)
        have h2 : ¬ zs[j + 1] ≤ zs[j] := by
          have := h1 j hk
          omega
        have e1 : (j : Int) + 1 - 1 = j := by omega
        have hp : (0 : Int) < (j : Int) + 1 := by omega
        cases hw <;> (simp [bd_check_asks_1, hb, h2, e1, hp]; exact ⟨⟨.val (.int (j + 1)), rfl⟩, .val _, rfl⟩)
    · obtain ⟨a, b, rfl⟩ := hi
      exact ⟨a, b, by simp [it_check_asks_1]⟩
  have hx : ∀ e, exec prog.prot (run prog (n + 2)) (mkD prog (run prog (n + 2))) prog.sub 1 prog.fuel lp_check_asks_1 e = (evI prog.prot (run prog (n + 2)) prog.sub it_check_asks_1 e).bind (forK prog.prot (run prog (n + 2)) (mkD prog (run prog (n + 2))) prog.sub 1 prog.fuel (.tup [1, 2]) it_check_asks_1 bd_check_asks_1) := fun e => x_for ..
  cases h with
  | t =>
    obtain ⟨a, b, q⟩ := main _ (.t _) rfl
    exact ⟨[a.sl, b.sl], by simp [c_check_asks, hx, it_check_asks_1] at q ⊢; simp [q, walked]⟩
  | o =>
    obtain ⟨a, b, q⟩ := main _ (.l _) rfl
    exact ⟨[a.sl, b.sl], by simp [c_check_asks, hx, it_check_asks_1] at q ⊢; simp [q, walked]⟩
  | l =>
    obtain ⟨a, b, q⟩ := main _ (.l _) rfl
    exact ⟨[a.sl, b.sl], by simp [c_check_asks, hx, it_check_asks_1] at q ⊢; simp [q, walked]⟩
end Pw
set_option maxRecDepth 100000
namespace Pw
open Pv Pv.Pq
theorem rising_lt {zs : List Int} (h : Rising zs) : ∀ {i j : Nat} (hj : j < zs.length) (hij : i < j), zs[i]'(by omega) < zs[j] := by
  intro i j
  induction j with
  | zero => intro _ h; omega
  | succ j ih =>
    intro hj hij
    have h1 := h j hj
    by_cases e : i = j
    · subst e; exact h1
    · have := ih (by omega) (by omega)
      omega
/-- how many of a rising row come ahead of h -/
def ahead (zs : List Int) (h : Int) : Nat := (zs.takeWhile fun z => decide (z < h)).length
theorem ahead_le (zs : List Int) (h : Int) : ahead zs h ≤ zs.length := by
  unfold ahead
  exact (List.takeWhile_sublist _).length_le
theorem takeWhile_all {p : Int → Bool} : ∀ {zs : List Int} {z : Int}, z ∈ zs.takeWhile p → p z = true
  | [], z, h => by simp at h
  | x :: zs, z, h => by
    rw [List.takeWhile_cons] at h
    split at h
    · rcases List.mem_cons.mp h with rfl | h
      · assumption
      · exact takeWhile_all h
    · simp at h
theorem ahead_lt {zs : List Int} {h : Int} {i : Nat} (hi : i < ahead zs h) : zs[i]'(Nat.lt_of_lt_of_le hi (ahead_le zs h)) < h := by
  have hi' : i < (zs.takeWhile fun z => decide (z < h)).length := hi
  have e : (zs.takeWhile fun z => decide (z < h))[i] = zs[i]'(Nat.lt_of_lt_of_le hi (ahead_le zs h)) := (List.takeWhile_prefix _).getElem hi'
  have := takeWhile_all (List.getElem_mem hi')
  rw [e] at this
  exact of_decide_eq_true this
theorem ahead_ge {zs : List Int} (hr : Rising zs) {h : Int} {i : Nat} (hi : ahead zs h ≤ i) (hl : i < zs.length) : h ≤ zs[i] := by
  have key : ∀ (zs : List Int) (hl : ahead zs h < zs.length), h ≤ zs[ahead zs h] := by
    intro zs
    induction zs with
    | nil => intro hl; simp at hl
    | cons z zs ih =>
      intro hl
      by_cases hz : z < h
      · have e : ahead (z :: zs) h = ahead zs h + 1 := by
          unfold ahead
          rw [List.takeWhile_cons, if_pos (by simpa using hz)]
          rfl
        have := ih (by rw [e, List.length_cons] at hl; omega)
        simp only [e, List.getElem_cons_succ]
        exact this
      · have e : ahead (z :: zs) h = 0 := by
          unfold ahead
          rw [List.takeWhile_cons, if_neg (by simpa using hz)]
          rfl
        simp only [e, List.getElem_cons_zero]
        omega
  have h1 := key zs (by omega)
  by_cases e : ahead zs h = i
  · subst e; exact h1
  · have := rising_lt hr hl (show ahead zs h < i by omega)
    omega
theorem ahead_eq {zs : List Int} (hr : Rising zs) {h : Int} {r : Nat} (h0 : r ≤ zs.length) (h1 : ∀ i (hi : i < r), zs[i]'(by omega) < h) (h2 : ∀ i (hi : r ≤ i) (hl : i < zs.length), h ≤ zs[i]) : ahead zs h = r := by
  have a := ahead_le zs h
  by_cases c1 : ahead zs h < r
  · have := h1 _ c1
    have := ahead_ge hr (Nat.le_refl (ahead zs h)) (by omega)
    omega
  · by_cases c2 : r < ahead zs h
    · have := ahead_lt c2
      have := h2 r (Nat.le_refl _) (by omega)
      omega
    · omega
def AI2 (zs : List Int) (h : Int) (k : Nat) (e : Es) : Prop := ∃ (lo hi : Nat) (m : Fr), e = [some (.val (.tup (zs.map D.int))), some (.val (.int h)), some (.val (.int lo)), some (.val (.int hi)), m.sl] ∧ lo ≤ hi ∧ hi ≤ zs.length ∧ hi - lo = k ∧ (∀ i (hi' : i < lo), zs[i]? = none ∨ ∃ z, zs[i]? = some z ∧ z < h) ∧ (∀ i (hi' : hi ≤ i) (hl : i < zs.length), h ≤ zs[i])
theorem nahead (n : Nat) (zs : List Int) (hl : zs.length ≤ 1000000) (hr : Rising zs) (h : Int) : ∃ ce, run prog (n + 1) i_number_ahead [.val (.tup (zs.map D.int)), .val (.int h)] = .ok (.val (.int (ahead zs h))) (some (.val (.tup (zs.map D.int))) :: some (.val (.int h)) :: ce) := by
  rw [run_body at_number_ahead _ rfl]
  obtain ⟨m, hiT, q⟩ := exec_while (P := prog.prot) (C := run prog n) (M := mkD prog (run prog n)) (S := prog.sub) (np := 2) (fl := prog.fuel) (c := wc_number_ahead_1) (b := bd_number_ahead_1) (e := [some (.val (.tup (zs.map D.int))), some (.val (.int h)), some (.val (.int 0)), some (.val (.int zs.length)), none]) (AI2 zs h)
    (fun r => ∃ (m hiT : Fr), r = .ok .next [some (.val (.tup (zs.map D.int))), some (.val (.int h)), some (.val (.int (ahead zs h))), hiT.sl, m.sl]) zs.length (by rw [fuel_e]; omega)
    ⟨0, zs.length, .non, rfl, by omega, by omega, by omega, fun i hi => by omega, fun i hi hl => by omega⟩ (fun k e hi => by
      obtain ⟨lo, hh, m, rfl, a1, a2, a3, a4, a5⟩ := hi
      by_cases c : lo < hh
      · have dv : divOk 2 = true := by decide
        have em : ((lo : Int) + hh) / 2 = ((lo + hh) / 2 : Nat) := by omega
        have hm : (lo + hh) / 2 < zs.length := by omega
        have ha := at_map hm
        rw [← em] at ha
        by_cases d : zs[(lo + hh) / 2] < h
        · simp [wc_number_ahead_1, c, bd_number_ahead_1, dv, ha, d]
          refine ⟨hh - ((lo + hh) / 2 + 1), by omega, (lo + hh) / 2 + 1, hh, .val (.int (((lo + hh) / 2 : Nat) : Int)), by simp [Fr.sl], by omega, a2, rfl, fun i hi' => ?_, a5⟩
          right
          refine ⟨zs[i]'(by omega), List.getElem?_eq_getElem _, ?_⟩
          by_cases e : i = (lo + hh) / 2
          · subst e; exact d
          · have := rising_lt hr hm (show i < (lo + hh) / 2 by omega)
            omega
        · simp [wc_number_ahead_1, c, bd_number_ahead_1, dv, ha, d]
          refine ⟨(lo + hh) / 2 - lo, by omega, lo, (lo + hh) / 2, .val (.int (((lo + hh) / 2 : Nat) : Int)), by simp [Fr.sl], by omega, by omega, rfl, a4, fun i hi' hl' => ?_⟩
          by_cases e : (lo + hh) / 2 = i
          · subst e; omega
          · have := rising_lt hr hl' (show (lo + hh) / 2 < i by omega)
            omega
      · have e : lo = hh := by omega
        subst e
        have ea : ahead zs h = lo := ahead_eq hr a2 (fun i hi => by
          rcases a4 i hi with h1 | ⟨z, h1, h2⟩
          · rw [List.getElem?_eq_getElem (by omega)] at h1; cases h1
          · rw [List.getElem?_eq_getElem (by omega)] at h1
            rw [Option.some.inj h1]
            exact h2) a5
        simp [wc_number_ahead_1, ea]
        exact ⟨⟨.val (.int lo), rfl⟩, m, rfl⟩)
  have q : exec prog.prot (run prog n) (mkD prog (run prog n)) prog.sub 2 prog.fuel lp_number_ahead_1 _ = _ := q
  exact ⟨_, by simp [c_number_ahead, q]; repeat' constructor⟩
/-- the run behind one -/
def nextR (zs : List Int) (y : Int) (p : Nat × Int) : Nat × Int := (max (p.1 + 1) (ahead zs (p.2 + y)), max (p.2 + y) (zs.getD p.1 0))
def pairN (p : Nat × Int) : D := .tup [.int p.1, .int p.2]
theorem rbehind_none (n : Nat) (zs : List Int) (b y : Int) : ∃ ce, run prog (n + 2) i_run_behind [.val (.tup (zs.map D.int)), .val (.int zs.length), .val (.int b), .val (.int y)] = .ok (.val .non) ce := by
  rw [run_body at_run_behind _ rfl]
  exact ⟨_, by simp [c_run_behind]; repeat' constructor⟩
theorem rbehind_ok (n : Nat) (zs : List Int) (hl : zs.length ≤ 1000000) (hr : Rising zs) (i : Nat) (hi : i < zs.length) (b y : Int) : ∃ ce, run prog (n + 2) i_run_behind [.val (.tup (zs.map D.int)), .val (.int i), .val (.int b), .val (.int y)] = .ok (.val (pairN (nextR zs y (i, b)))) ce := by
  rw [run_body at_run_behind _ rfl]
  obtain ⟨ce, q⟩ := nahead n zs hl hr (b + y)
  have ha := at_map hi
  have h0 : ¬ ((i : Int) = zs.length) := by omega
  have h0' : ¬ (i = zs.length) := by omega
  have s2 : 2 ≤ sizeMax := by decide
  have e1 : zs[i]?.getD 0 = zs[i] := by rw [List.getElem?_eq_getElem hi]; rfl
  have e2 : ((max (i + 1) (ahead zs (b + y)) : Nat) : Int) = max ((i : Int) + 1) (ahead zs (b + y)) := by omega
  exact ⟨_, by simp [c_run_behind, h0, q, ha, s2, pairN, nextR, e1, e2]; repeat' constructor⟩
/-- the chain from a run on -/
def chainF (zs : List Int) (y : Int) : Nat → Nat × Int → List (Nat × Int)
  | 0, _ => []
  | f + 1, p => p :: (if p.1 < zs.length then chainF zs y f (nextR zs y p) else [])
def chain (zs : List Int) (y : Int) : List (Nat × Int) := if zs = [] then [] else chainF zs y zs.length (1, zs.getD 0 0)
theorem chainF_len (zs : List Int) (y : Int) : ∀ f p, (chainF zs y f p).length ≤ f
  | 0, _ => Nat.le_refl _
  | f + 1, p => by
    unfold chainF
    split
    · have := chainF_len zs y f (nextR zs y p)
      simp
      omega
    · simp
theorem nextR_le {zs : List Int} {y : Int} {p : Nat × Int} (h : p.1 < zs.length) : p.1 + 1 ≤ (nextR zs y p).1 ∧ (nextR zs y p).1 ≤ zs.length := by
  have := ahead_le zs (p.2 + y)
  unfold nextR
  simp only
  omega
theorem chainF_fuel {zs : List Int} {y : Int} : ∀ {f f' : Nat} {p : Nat × Int}, p.1 ≤ zs.length → zs.length - p.1 < f → zs.length - p.1 < f' → chainF zs y f p = chainF zs y f' p
  | 0, _, _, _, h, _ => by omega
  | _ + 1, 0, _, _, _, h => by omega
  | f + 1, f' + 1, p, hp, h1, h2 => by
    unfold chainF
    by_cases c : p.1 < zs.length
    · have hx := nextR_le (y := y) c
      rw [if_pos c, if_pos c, chainF_fuel (f := f) (f' := f') hx.2 (by omega) (by omega)]
    · rw [if_neg c, if_neg c]
/-- what is told, and the rest -/
def CI2 (zs : List Int) (y : Int) (k : Nat) (e : Es) : Prop := ∃ (told : List (Nat × Int)), (e = [some (.val (.tup (zs.map D.int))), some (.val (.int y)), some (.own (told.map pairN)), some (.val .non)] ∧ told = chain zs y ∧ told.length ≤ zs.length) ∨
  ∃ p : Nat × Int, e = [some (.val (.tup (zs.map D.int))), some (.val (.int y)), some (.own (told.map pairN)), some (.val (pairN p))] ∧ 1 ≤ p.1 ∧ p.1 ≤ zs.length ∧ told.length < p.1 ∧ k = zs.length - p.1 + 1 ∧ told ++ chainF zs y k p = chain zs y
theorem chain_ok (n : Nat) (zs : List Int) (hl : zs.length ≤ 1000000) (hr : Rising zs) (y : Int) : ∃ ce, run prog (n + 3) i_chain_of [.val (.tup (zs.map D.int)), .val (.int y)] = .ok (.val (.tup ((chain zs y).map pairN))) (some (.val (.tup (zs.map D.int))) :: some (.val (.int y)) :: ce) := by
  rw [run_body at_chain_of _ rfl]
  have s2 : 2 ≤ sizeMax := by decide
  have s0 : 0 ≤ sizeMax := by decide
  by_cases h0 : zs = []
  · subst h0
    exact ⟨_, by simp [c_chain_of, chain, s0]; repeat' constructor⟩
  · have hp : 0 < zs.length := List.length_pos_iff.mpr h0
    have ha := at_map hp
    have h0' : ¬ zs.length = 0 := by omega
    have e0 : zs[0]?.getD 0 = zs[0] := by rw [List.getElem?_eq_getElem hp]; rfl
    have q := exec_while (P := prog.prot) (C := run prog (n + 2)) (M := mkD prog (run prog (n + 2))) (S := prog.sub) (np := 2) (fl := prog.fuel) (c := wc_chain_of_1) (b := bd_chain_of_1) (e := [some (.val (.tup (zs.map D.int))), some (.val (.int y)), some (.own []), some (.val (pairN (1, zs[0])))]) (CI2 zs y)
      (fun r => r = .ok .next [some (.val (.tup (zs.map D.int))), some (.val (.int y)), some (.own ((chain zs y).map pairN)), some (.val .non)]) zs.length (by rw [fuel_e]; omega)
      ⟨[], .inr ⟨(1, zs[0]), rfl, by simp, by simp; omega, by simp, by simp; omega, by simp [chain, h0, e0]⟩⟩ (fun k e hi => by
        obtain ⟨told, ⟨rfl, e1, e2⟩ | ⟨p, rfl, p1, p2, p3, p4, p5⟩⟩ := hi
        · simp [wc_chain_of_1, e1]
        · have hs : told.length < sizeMax := by unfold sizeMax; omega
          obtain ⟨i, b⟩ := p
          simp only at p1 p2 p3 p4
          by_cases c : i < zs.length
          · obtain ⟨ce, q⟩ := rbehind_ok n zs hl hr i c b y
            have hx := nextR_le (y := y) (p := (i, b)) c
            simp only at hx
            simp [pairN] at q
            simp [wc_chain_of_1, bd_chain_of_1, hs, pairN, q]
            refine ⟨zs.length - (nextR zs y (i, b)).1 + 1, by omega, told ++ [(i, b)], .inr ⟨nextR zs y (i, b), by simp [pairN], by omega, hx.2, by simp; omega, rfl, ?_⟩⟩
            rw [← p5, List.append_assoc]
            congr 1
            subst p4
            rw [show chainF zs y (zs.length - i + 1) (i, b) = (i, b) :: (if i < zs.length then chainF zs y (zs.length - i) (nextR zs y (i, b)) else []) from rfl, if_pos c, chainF_fuel (f := zs.length - i) (f' := zs.length - (nextR zs y (i, b)).1 + 1) hx.2 (by omega) (by omega)]
            rfl
          · have e : i = zs.length := by omega
            subst e
            obtain ⟨ce, q⟩ := rbehind_none n zs b y
            simp [wc_chain_of_1, bd_chain_of_1, hs, pairN, q]
            refine ⟨0, by omega, told ++ [(zs.length, b)], .inl ⟨by simp [pairN], ?_, by simp; omega⟩⟩
            rw [← p5]
            congr 1
            subst p4
            simp [chainF])
    have q : exec prog.prot (run prog (n + 2)) (mkD prog (run prog (n + 2))) prog.sub 2 prog.fuel lp_chain_of_1 _ = _ := q
    simp [pairN] at q ha
    exact ⟨_, by simp [c_chain_of, h0', ha, s2, s0, q]; repeat' constructor⟩
end Pw
set_option maxRecDepth 100000
namespace Pw
open Pv Pv.Pq
def firsts (zs : List Int) (y : Int) : List Nat := (chain zs y).map (·.1)
/-- nobody comes too early -/
def NoLoss (zs : List Int) (y : Int) : Prop := ∀ (j k : Nat) (h : k + 2 < zs.length) (hj : j ≤ k), zs[j]'(by omega) + ((k : Int) - j + 1) * y ≤ zs[k + 2]
theorem chainF_all {zs : List Int} (hr : Rising zs) {y : Int} (h : NoLoss zs y) : ∀ (m f k : Nat) (b : Int) (hk : k < zs.length), zs.length - k = m → m ≤ f → (∃ j, ∃ hj : j ≤ k, b = zs[j]'(by omega) + ((k : Int) - j) * y) → (chainF zs y f (k + 1, b)).map (·.1) = (List.range m).map (· + (k + 1)) := by
  intro m
  induction m with
  | zero => intro f k b hk hm; omega
  | succ m ih =>
    intro f k b hk hm hf ⟨j, hj, hb⟩
    obtain ⟨f, rfl⟩ : ∃ g, f = g + 1 := ⟨f - 1, by omega⟩
    have e0 : (List.range (m + 1)).map (· + (k + 1)) = (k + 1) :: (List.range m).map (· + (k + 1 + 1)) := by
      rw [List.range_succ_eq_map]
      simp [Function.comp_def]
      intro a _
      omega
    rw [e0]
    unfold chainF
    by_cases c : k + 1 < zs.length
    · rw [if_pos c, List.map_cons]
      have hend : b + y = zs[j]'(by omega) + ((k : Int) - j + 1) * y := by
        rw [hb, Int.add_mul ((k : Int) - j) 1 y]
        omega
      have ha : ahead zs (b + y) ≤ k + 2 := by
        by_cases c2 : ahead zs (b + y) ≤ k + 2
        · exact c2
        · have h1 := ahead_le zs (b + y)
          have h2 := ahead_lt (zs := zs) (h := b + y) (i := k + 2) (by omega)
          have h3 := h j k (by omega) hj
          omega
      have e1 : nextR zs y (k + 1, b) = (k + 1 + 1, max (b + y) zs[k + 1]) := by
        unfold nextR
        simp only [Prod.mk.injEq]
        refine ⟨by omega, ?_⟩
        rw [List.getD_eq_getElem?_getD, List.getElem?_eq_getElem c]
        rfl
      rw [e1, ih f (k + 1) _ c (by omega) (by omega) ?_]
      by_cases c3 : zs[k + 1] ≤ b + y
      · refine ⟨j, by omega, ?_⟩
        rw [Int.max_eq_left c3, hend]
        congr 2
        omega
      · refine ⟨k + 1, Nat.le_refl _, ?_⟩
        rw [Int.max_eq_right (by omega)]
        simp
    · rw [if_neg c]
      have : m = 0 := by omega
      subst this
      simp
theorem firsts_all {zs : List Int} (hr : Rising zs) {y : Int} (h : NoLoss zs y) : firsts zs y = (List.range zs.length).map (· + 1) := by
  unfold firsts chain
  by_cases h0 : zs = []
  · subst h0; simp
  · rw [if_neg h0]
    have hp : 0 < zs.length := List.length_pos_iff.mpr h0
    refine chainF_all hr h zs.length zs.length 0 _ hp (by omega) (Nat.le_refl _) ⟨0, Nat.le_refl _, ?_⟩
    rw [List.getD_eq_getElem?_getD, List.getElem?_eq_getElem hp]
    simp
/-! even asks -/
def evens (n : Nat) (d : Int) : List Int := (List.range n).map fun (k : Nat) => (k : Int) * d
@[simp] theorem evens_len (n : Nat) (d : Int) : (evens n d).length = n := by simp [evens]
theorem evens_at {n : Nat} {d : Int} {k : Nat} (h : k < (evens n d).length) : (evens n d)[k] = (k : Int) * d := by simp [evens]
theorem mul1 (k : Nat) (d : Int) : ((k + 1 : Nat) : Int) * d = (k : Int) * d + d := by
  rw [Int.natCast_add, Int.add_mul]
  simp
theorem evens_rising {n : Nat} {d : Int} (hd : 0 < d) : Rising (evens n d) := by
  intro k hk
  rw [evens_at, evens_at, mul1]
  omega
theorem spread {n : Nat} {z g : Int} (hz : 0 < z) (hg : ((n : Int) - 2) * z ≤ ((n : Int) - 1) * g) {m : Nat} (h1 : 1 ≤ m) (h2 : m + 2 ≤ n) : (m : Int) * z ≤ ((m : Int) + 1) * g := by
  -- m (n - 1) <= (m + 1) (n - 2)
  have a : (m : Int) * (((n : Int) - 2) * z) ≤ (m : Int) * (((n : Int) - 1) * g) := Int.mul_le_mul_of_nonneg_left hg (by omega)
  have hn : (0 : Int) < (n : Int) - 1 := by omega
  refine Int.le_of_mul_le_mul_left ?_ hn
  have e1 : ((n : Int) - 1) * ((m : Int) * z) = (m : Int) * (((n : Int) - 2) * z) + (m : Int) * z := by grind
  have e2 : ((n : Int) - 1) * (((m : Int) + 1) * g) = (m : Int) * (((n : Int) - 1) * g) + ((n : Int) - 1) * g := by grind
  rw [e1, e2]
  have b : (m : Int) * z ≤ ((n : Int) - 2) * z := Int.mul_le_mul_of_nonneg_right (by omega) (by omega)
  omega
/-- gaps of at least g -/
theorem noloss_of {zs : List Int} {z g : Int} (hz : 0 < z) (hg : ((zs.length : Int) - 2) * z ≤ ((zs.length : Int) - 1) * g) (hs : ∀ k (h : k + 1 < zs.length), zs[k]'(by omega) + g ≤ zs[k + 1]) : NoLoss zs z := by
  have far : ∀ (m j : Nat) (h : j + m < zs.length), zs[j]'(by omega) + (m : Int) * g ≤ zs[j + m] := by
    intro m
    induction m with
    | zero => intro j h; simp
    | succ m ih =>
      intro j h
      have h1 := ih j (by omega)
      have h2 := hs (j + m) h
      rw [mul1]
      have e : zs[j + (m + 1)] = zs[j + m + 1] := rfl
      rw [e]
      omega
  intro j k h hj
  obtain ⟨m, rfl⟩ : ∃ m, k = j + m := ⟨k - j, by omega⟩
  have h1 := far (m + 2) j (by omega)
  have h2 := spread hz hg (m := m + 1) (by omega) (by omega)
  have e : zs[j + (m + 2)] = zs[j + m + 2] := rfl
  rw [e] at h1
  have e2 : ((m + 2 : Nat) : Int) * g = (((m + 1 : Nat) : Int) + 1) * g := by congr 1
  have e3 : (((j + m : Nat) : Int) - j + 1) * z = ((m + 1 : Nat) : Int) * z := by congr 1; omega
  rw [e3]
  rw [e2] at h1
  omega
/-! even asks that lose -/
def idx (n : Nat) (z d : Int) (k : Nat) : Nat := if k = 0 then 1 else min n (((k : Int) * z - 1) / d + 1).toNat
theorem ahead_even {n : Nat} {z d : Int} (hd : 0 < d) (hz : 0 < z) (k : Nat) : ahead (evens n d) (((k + 1 : Nat) : Int) * z) = idx n z d (k + 1) := by
  have q0 : 0 ≤ (((k + 1 : Nat) : Int) * z - 1) / d := Int.ediv_nonneg (by have : (0 : Int) ≤ k * z := Int.mul_nonneg (by omega) (by omega); rw [mul1]; omega) (by omega)
  unfold idx
  rw [if_neg (by omega)]
  refine ahead_eq (evens_rising hd) (by simp; omega) (fun i hi => ?_) (fun i hi hl => ?_)
  · rw [evens_at]
    have : (i : Int) ≤ (((k + 1 : Nat) : Int) * z - 1) / d := by omega
    have := (Int.le_ediv_iff_mul_le hd).mp this
    omega
  · rw [evens_at]
    rw [evens_len] at hl
    have : ¬ (i : Int) ≤ (((k + 1 : Nat) : Int) * z - 1) / d := by omega
    have : ¬ (i : Int) * d ≤ ((k + 1 : Nat) : Int) * z - 1 := fun z => this ((Int.le_ediv_iff_mul_le hd).mpr z)
    omega
theorem idx_lt {n : Nat} {z d : Int} (hd : 0 < d) (hz : d < z) (hn : 2 ≤ n) (k : Nat) : idx n z d k < n ↔ (k : Int) * z ≤ ((n : Int) - 1) * d := by
  unfold idx
  by_cases h0 : k = 0
  · subst h0
    rw [if_pos rfl]
    have : 0 ≤ ((n : Int) - 1) * d := Int.mul_nonneg (by omega) (by omega)
    constructor
    · intro _; simpa using this
    · intro _; omega
  · rw [if_neg h0]
    have key : (n : Int) - 1 ≤ ((k : Int) * z - 1) / d ↔ ((n : Int) - 1) * d ≤ (k : Int) * z - 1 := Int.le_ediv_iff_mul_le hd
    constructor
    · intro h
      have : ¬ (n : Int) - 1 ≤ ((k : Int) * z - 1) / d := by omega
      have := mt key.mpr this
      omega
    · intro h
      have : ¬ ((n : Int) - 1) * d ≤ (k : Int) * z - 1 := by omega
      have := mt key.mp this
      omega
theorem idx_mono {n : Nat} {z d : Int} (hd : 0 < d) (hz : d < z) (hn : 2 ≤ n) (k : Nat) (h : idx n z d k < n) : idx n z d k + 1 ≤ idx n z d (k + 1) := by
  have hq : ((k + 1 : Nat) : Int) * z - 1 = (k : Int) * z - 1 + z := by rw [mul1]; omega
  have h1 : ((k : Int) * z - 1) / d + 1 ≤ (((k + 1 : Nat) : Int) * z - 1) / d := by
    rw [hq]
    have : ((k : Int) * z - 1 + d) / d = ((k : Int) * z - 1) / d + 1 := Int.add_ediv_of_dvd_right (Int.dvd_refl d) |>.trans (by rw [Int.ediv_self (by omega)])
    rw [← this]
    exact Int.ediv_le_ediv hd (by omega)
  unfold idx at h ⊢
  rw [if_neg (show ¬ k + 1 = 0 by omega)]
  by_cases h0 : k = 0
  · subst h0
    rw [if_pos rfl] at h ⊢
    have : 1 ≤ (((0 + 1 : Nat) : Int) * z - 1) / d := (Int.le_ediv_iff_mul_le hd).mpr (by simp; omega)
    omega
  · rw [if_neg h0] at h ⊢
    have : 0 ≤ ((k : Int) * z - 1) / d := Int.ediv_nonneg (by have : 1 * z ≤ (k : Int) * z := Int.mul_le_mul_of_nonneg_right (by omega) (by omega); omega) (by omega)
    omega
theorem idx_low {n : Nat} {z d : Int} (hd : 0 < d) (hz : d < z) (hn : 2 ≤ n) (k : Nat) (h : idx n z d k < n) : (idx n z d k : Int) * d ≤ ((k + 1 : Nat) : Int) * z := by
  rw [mul1]
  unfold idx at h ⊢
  by_cases h0 : k = 0
  · subst h0
    rw [if_pos rfl]
    simp
    omega
  · rw [if_neg h0] at h ⊢
    have q0 : 0 ≤ ((k : Int) * z - 1) / d := Int.ediv_nonneg (by have : 1 * z ≤ (k : Int) * z := Int.mul_le_mul_of_nonneg_right (by omega) (by omega); omega) (by omega)
    have e : ((min n (((k : Int) * z - 1) / d + 1).toNat : Nat) : Int) = ((k : Int) * z - 1) / d + 1 := by omega
    rw [e, Int.add_mul]
    have := Int.ediv_mul_le ((k : Int) * z - 1) (show d ≠ 0 by omega)
    omega
theorem chainF_even {n : Nat} {z d : Int} (hd : 0 < d) (hz : d < z) (hn : 2 ≤ n) : ∀ (m f k : Nat), (k : Int) + m = ((n : Int) - 1) * d / z + 1 → n - idx n z d k < f → (chainF (evens n d) z f (idx n z d k, (k : Int) * z)).map (·.1) = (List.range (m + 1)).map fun j => idx n z d (k + j) := by
  have hz0 : 0 < z := by omega
  have fin : ∀ k : Nat, (k : Int) = ((n : Int) - 1) * d / z + 1 → ¬ idx n z d k < n := fun k hk h => by
    have h1 := (idx_lt hd hz hn k).mp h
    have : (k : Int) ≤ ((n : Int) - 1) * d / z := (Int.le_ediv_iff_mul_le hz0).mpr h1
    omega
  intro m
  induction m with
  | zero =>
    intro f k hk hf
    obtain ⟨f, rfl⟩ : ∃ g, f = g + 1 := ⟨f - 1, by omega⟩
    have := fin k (by omega)
    unfold chainF
    rw [if_neg (by simpa using this)]
    simp
  | succ m ih =>
    intro f k hk hf
    obtain ⟨f, rfl⟩ : ∃ g, f = g + 1 := ⟨f - 1, by omega⟩
    have h1 : idx n z d k < n := (idx_lt hd hz hn k).mpr ((Int.le_ediv_iff_mul_le hz0).mp (by omega))
    have h2 := idx_mono hd hz hn k h1
    have h3 := idx_low hd hz hn k h1
    have e1 : nextR (evens n d) z (idx n z d k, (k : Int) * z) = (idx n z d (k + 1), ((k + 1 : Nat) : Int) * z) := by
      unfold nextR
      simp only [Prod.mk.injEq]
      rw [← mul1, ahead_even hd hz0 k]
      refine ⟨by omega, ?_⟩
      rw [List.getD_eq_getElem?_getD, List.getElem?_eq_getElem (by simpa using h1), evens_at]
      simp only [Option.getD_some]
      omega
    have e0 : (List.range (m + 1 + 1)).map (fun j => idx n z d (k + j)) = idx n z d k :: (List.range (m + 1)).map (fun j => idx n z d (k + 1 + j)) := by
      rw [List.range_succ_eq_map]
      simp [Function.comp_def]
      intro a _
      congr 1
      omega
    unfold chainF
    rw [if_pos (by simpa using h1), List.map_cons, e1, ih f (k + 1) (by omega) (by omega), e0]
theorem firsts_even {n : Nat} {z d : Int} (hd : 0 < d) (hz : d < z) (hn : 2 ≤ n) {K : Nat} (hK : (K : Int) = ((n : Int) - 1) * d / z + 1) : firsts (evens n d) z = (List.range (K + 1)).map (idx n z d) := by
  have h0 : evens n d ≠ [] := fun e => by
    have := evens_len n d
    rw [e] at this
    simp at this
    omega
  unfold firsts chain
  rw [if_neg h0]
  have e : (evens n d).getD 0 0 = ((0 : Nat) : Int) * z := by
    rw [List.getD_eq_getElem?_getD, List.getElem?_eq_getElem (by simp; omega), evens_at]
    simp
  have := chainF_even hd hz hn K n 0 (by omega) (by simp [idx]; omega)
  rw [show idx n z d 0 = 1 from rfl] at this
  rw [e, evens_len, this]
  simp
end Pw
set_option maxRecDepth 100000
namespace Pw
open Pv Pv.Pq
theorem mulOk_m {i j : Int} (hi : -(10 ^ 45) < i ∧ i < 10 ^ 45) (hj : -(10 ^ 45) < j ∧ j < 10 ^ 45) : mulOk i j = true := by
  have key : ∀ x : Int, -(10 ^ 45) < x ∧ x < 10 ^ 45 → x.natAbs.log2 < 200 := fun x hx => by
    by_cases h0 : x.natAbs = 0
    · rw [h0]; decide
    · exact (Nat.log2_lt h0).mpr (by omega)
  unfold mulOk
  rw [Bool.or_eq_true]
  have a := key i hi
  have b := key j hj
  exact .inr (decide_eq_true (by omega))
/-! runs of given lengths -/
abbrev Run := Nat × Int × Int
def runsF (zs : List Int) : List Int → Nat × Int → List Run
  | [], _ => []
  | y :: ls, p => (p.1, p.2, p.2 + y) :: (if p.1 < zs.length then runsF zs ls (nextR zs y p) else [])
def runs (zs ls : List Int) : List Run := if zs = [] then [] else runsF zs ls (1, zs.getD 0 0)
theorem runsF_len (zs : List Int) : ∀ ls p, (runsF zs ls p).length ≤ ls.length
  | [], _ => Nat.le_refl _
  | y :: ls, p => by
    unfold runsF
    split
    · have := runsF_len zs ls (nextR zs y p)
      simp
      omega
    · simp
theorem runs_len (zs ls : List Int) : (runs zs ls).length ≤ ls.length := by
  unfold runs
  split
  · simp
  · exact runsF_len _ _ _
/-- the row made c times as great and moved -/
def grow (c by' : Int) (zs : List Int) : List Int := zs.map fun z => z * c + by'
@[simp] theorem grow_len (c b : Int) (zs : List Int) : (grow c b zs).length = zs.length := by simp [grow]
theorem grow_at {c b : Int} {zs : List Int} {k : Nat} (h : k < (grow c b zs).length) : (grow c b zs)[k] = zs[k]'(by simpa using h) * c + b := by simp [grow]
theorem grow_rising {c b : Int} (hc : 0 < c) {zs : List Int} (h : Rising zs) : Rising (grow c b zs) := by
  intro k hk
  rw [grow_at, grow_at]
  have h1 := h k (by simpa using hk)
  have := Int.mul_lt_mul_of_pos_right h1 hc
  omega
theorem ahead_grow {c b : Int} (hc : 0 < c) (zs : List Int) (h : Int) : ahead (grow c b zs) (h * c + b) = ahead zs h := by
  unfold ahead grow
  rw [List.takeWhile_map, List.length_map]
  congr 2
  funext z
  simp only [Function.comp]
  have : z * c + b < h * c + b ↔ z < h := by
    constructor
    · intro q
      exact Int.lt_of_mul_lt_mul_right (show z * c < h * c by omega) (by omega)
    · intro q
      have := Int.mul_lt_mul_of_pos_right q hc
      omega
  simp [this]
theorem max_grow {c b : Int} (hc : 0 < c) (x y : Int) : max (x * c + b) (y * c + b) = max x y * c + b := by
  by_cases h : x ≤ y
  · have := Int.mul_le_mul_of_nonneg_right h (show 0 ≤ c by omega)
    rw [Int.max_eq_right h, Int.max_eq_right (by omega)]
  · have := Int.mul_le_mul_of_nonneg_right (show y ≤ x by omega) (show 0 ≤ c by omega)
    rw [Int.max_eq_left (show y ≤ x by omega), Int.max_eq_left (by omega)]
theorem nextR_grow {c b : Int} (hc : 0 < c) {zs : List Int} {y : Int} {p : Nat × Int} (h : p.1 < zs.length) : nextR (grow c b zs) (y * c) (p.1, p.2 * c + b) = ((nextR zs y p).1, (nextR zs y p).2 * c + b) := by
  unfold nextR
  have e : p.2 * c + b + y * c = (p.2 + y) * c + b := by rw [Int.add_mul]; omega
  simp only [e, ahead_grow hc]
  congr 1
  rw [List.getD_eq_getElem?_getD, List.getD_eq_getElem?_getD, List.getElem?_eq_getElem (by simpa using h), List.getElem?_eq_getElem h, grow_at]
  exact max_grow hc _ _
def growR (c b : Int) (r : Run) : Run := (r.1, r.2.1 * c + b, r.2.2 * c + b)
theorem runsF_grow {c b : Int} (hc : 0 < c) {zs : List Int} : ∀ (ls : List Int) (p : Nat × Int), runsF (grow c b zs) (grow c 0 ls) (p.1, p.2 * c + b) = (runsF zs ls p).map (growR c b)
  | [], p => rfl
  | y :: ls, p => by
    have e : grow c 0 (y :: ls) = (y * c) :: grow c 0 ls := by simp [grow]
    rw [e]
    unfold runsF
    have e2 : p.2 * c + b + y * c = (p.2 + y) * c + b := by rw [Int.add_mul]; omega
    by_cases h : p.1 < zs.length
    · rw [if_pos (by simpa using h), if_pos h, nextR_grow hc h, runsF_grow hc ls (nextR zs y p), List.map_cons]
      simp [growR, e2]
    · rw [if_neg (by simpa using h), if_neg h]
      simp [growR, e2]
theorem runs_grow {c b : Int} (hc : 0 < c) (zs ls : List Int) : runs (grow c b zs) (grow c 0 ls) = (runs zs ls).map (growR c b) := by
  unfold runs
  by_cases h : zs = []
  · subst h; simp [grow]
  · have h2 : grow c b zs ≠ [] := fun e => h (by simpa [grow] using e)
    rw [if_neg h, if_neg h2]
    have hp : 0 < zs.length := List.length_pos_iff.mpr h
    have e : (grow c b zs).getD 0 0 = zs.getD 0 0 * c + b := by
      rw [List.getD_eq_getElem?_getD, List.getD_eq_getElem?_getD, List.getElem?_eq_getElem (by simpa using hp), List.getElem?_eq_getElem hp, grow_at]
      rfl
    rw [e]
    exact runsF_grow hc ls (1, zs.getD 0 0)
/-- enough lengths: the last run is the last change's -/
def Full (zs : List Int) : List Int → Nat × Int → Prop
  | [], _ => False
  | y :: ls, p => p.1 < zs.length → Full zs ls (nextR zs y p)
theorem full_of {zs : List Int} : ∀ {ls : List Int} {p : Nat × Int}, p.1 ≤ zs.length → zs.length < p.1 + ls.length → Full zs ls p
  | [], p, h, h1 => by simp at h1; omega
  | y :: ls, p, h, h1 => fun c => by
    have hx := nextR_le (y := y) c
    exact full_of hx.2 (by rw [List.length_cons] at h1; omega)
/-- a chain's runs all last y -/
theorem chainF_runs {zs : List Int} {y : Int} : ∀ (f : Nat) (p : Nat × Int), chainF zs y f p = (runsF zs (List.replicate f y) p).map fun r => (r.1, r.2.1)
  | 0, p => rfl
  | f + 1, p => by
    rw [List.replicate_succ]
    unfold chainF runsF
    by_cases h : p.1 < zs.length
    · rw [if_pos h, if_pos h, chainF_runs f, List.map_cons]
    · rw [if_neg h, if_neg h]
      rfl
theorem chain_runs (zs : List Int) (y : Int) : chain zs y = (runs zs (List.replicate zs.length y)).map fun r => (r.1, r.2.1) := by
  unfold chain runs
  split
  · rfl
  · exact chainF_runs _ _
theorem chain_grow {c b : Int} (hc : 0 < c) (zs : List Int) (y : Int) : chain (grow c b zs) (y * c) = (chain zs y).map fun p => (p.1, p.2 * c + b) := by
  rw [chain_runs, chain_runs, grow_len]
  have e : List.replicate zs.length (y * c) = grow c 0 (List.replicate zs.length y) := by simp [grow]
  rw [e, runs_grow hc, List.map_map, List.map_map]
  rfl
theorem ahead_filter {zs : List Int} (hr : Rising zs) (h : Int) : (zs.filter fun z => decide (z < h)).length = ahead zs h := by
  have key : ∀ zs : List Int, (∀ i (hi : ahead zs h ≤ i) (hl : i < zs.length), h ≤ zs[i]) → zs.filter (fun z => decide (z < h)) = zs.takeWhile fun z => decide (z < h) := by
    intro zs
    induction zs with
    | nil => intro _; rfl
    | cons z zs ih =>
      intro hh
      by_cases c : z < h
      · rw [List.filter_cons, if_pos (by simpa using c), List.takeWhile_cons, if_pos (by simpa using c), ih]
        intro i hi hl
        have e : ahead (z :: zs) h = ahead zs h + 1 := by
          unfold ahead
          rw [List.takeWhile_cons, if_pos (by simpa using c)]
          rfl
        have := hh (i + 1) (by omega) (by simpa using hl)
        simpa using this
      · rw [List.takeWhile_cons, if_neg (by simpa using c), List.filter_eq_nil_iff]
        intro x hx
        obtain ⟨i, hi, rfl⟩ := List.mem_iff_getElem.mp hx
        have e : ahead (z :: zs) h = 0 := by
          unfold ahead
          rw [List.takeWhile_cons, if_neg (by simpa using c)]
          rfl
        have := hh i (by omega) hi
        simp
        exact this
  rw [key zs fun i hi hl => ahead_ge hr hi hl]
  rfl
end Pw
set_option maxRecDepth 100000
namespace Pw
open Pv Pv.Pq
theorem clens_ok (n : Nat) {s : Sl} {zs : List Int} (h : Rw s (zs.map D.int)) (h1 : ∀ z ∈ zs, 1 ≤ z) (side : Int) : ∃ ce, run prog (n + 3) i_check_lens [s, .val (.int side)] = .ok (.val (.tup (zs.map D.int))) (some (walked s) :: some (.val (.int side)) :: ce) := by
  rw [run_body at_check_lens _ rfl]
  have main : ∀ w, Rw w (zs.map D.int) → walked w = w → ∃ a b : Fr, forK prog.prot (run prog (n + 2)) (mkD prog (run prog (n + 2))) prog.sub 2 prog.fuel (.tup [2, 3]) it_check_lens_1 bd_check_lens_1 (enumL (zs.map D.int)) [some w, some (.val (.int side)), none, none] = .ok .next [some w, some (.val (.int side)), a.sl, b.sl] := fun w hw ew => by
    rw [forK_e]
    refine forGo_after (fun k e => ∃ a b : Fr, e = [some w, some (.val (.int side)), a.sl, b.sl]) (fun r => ∃ a b : Fr, r.mapE (unlockE it_check_lens_1 [some w, some (.val (.int side)), none, none]) = .ok .next [some w, some (.val (.int side)), a.sl, b.sl]) 0 (fun k x e hx hi => ?_) (fun e hi => ?_) _ ⟨.non, .non, by simp [it_check_lens_1]; rfl⟩
    · obtain ⟨a, b, rfl⟩ := hi
      obtain ⟨hk, rfl⟩ := enumL_at hx
      refine turnT_ex (P := prog.prot) (C := run prog (n + 2)) (M := mkD prog (run prog (n + 2))) (S := prog.sub) (np := 2) (fl := prog.fuel) ?_
      have h2 : ¬ zs[k] < 1 := by
        have := h1 _ (List.getElem_mem hk)
        omega
      cases hw <;> (simp [bd_check_lens_1, h2]; exact ⟨⟨.val (.int k), rfl⟩, .val _, rfl⟩)
    · obtain ⟨a, b, rfl⟩ := hi
      exact ⟨a, b, by simp [it_check_lens_1]⟩
  have hx : ∀ e, exec prog.prot (run prog (n + 2)) (mkD prog (run prog (n + 2))) prog.sub 2 prog.fuel lp_check_lens_1 e = (evI prog.prot (run prog (n + 2)) prog.sub it_check_lens_1 e).bind (forK prog.prot (run prog (n + 2)) (mkD prog (run prog (n + 2))) prog.sub 2 prog.fuel (.tup [2, 3]) it_check_lens_1 bd_check_lens_1) := fun e => x_for ..
  cases h with
  | t =>
    obtain ⟨a, b, q⟩ := main _ (.t _) rfl
    exact ⟨[a.sl, b.sl], by simp [c_check_lens, hx, it_check_lens_1] at q ⊢; simp [q, walked]⟩
  | o =>
    obtain ⟨a, b, q⟩ := main _ (.l _) rfl
    exact ⟨[a.sl, b.sl], by simp [c_check_lens, hx, it_check_lens_1] at q ⊢; simp [q, walked]⟩
  | l =>
    obtain ⟨a, b, q⟩ := main _ (.l _) rfl
    exact ⟨[a.sl, b.sl], by simp [c_check_lens, hx, it_check_lens_1] at q ⊢; simp [q, walked]⟩
def runD (r : Run) : D := .tup [.int r.1, .int r.2.1, .int r.2.2]
def rEnv (zs ls : List Int) (told : List Run) (p : Nat × Int) (t : Option Sl) : Es := [some (.val (.tup (zs.map D.int))), some (.val (.tup (ls.map D.int))), some (.own (told.map runD)), some (.val (.int p.1)), some (.val (.int p.2)), t]
def RI3 (zs ls : List Int) (k : Nat) (e : Es) : Prop := ∃ (told : List Run) (p : Nat × Int) (t : Fr), e = rEnv zs ls told p t.sl ∧ told ++ runsF zs (ls.drop k) p = runs zs ls ∧ p.1 ≤ zs.length ∧ told.length = k ∧ Full zs (ls.drop k) p
def RB3 (zs ls : List Int) (r : R Flow) : Prop := ∃ e, r = .ok (.ret (.val (.tup ((runs zs ls).map runD)))) (some (.val (.tup (zs.map D.int))) :: some (.val (.tup (ls.map D.int))) :: e)
theorem rows_ok (n : Nat) (zs ls : List Int) (hl : zs.length ≤ 1000000) (hl2 : ls.length ≤ 1000000) (hr : Rising zs) (hf : zs.length ≤ ls.length) : ∃ ce, run prog (n + 3) i_rows_of_runs [.val (.tup (zs.map D.int)), .val (.tup (ls.map D.int))] = .ok (.val (.tup ((runs zs ls).map runD))) (some (.val (.tup (zs.map D.int))) :: some (.val (.tup (ls.map D.int))) :: ce) := by
  rw [run_body at_rows_of_runs _ rfl]
  have s0 : 0 ≤ sizeMax := by decide
  have s3 : 3 ≤ sizeMax := by decide
  by_cases h0 : zs = []
  · subst h0
    exact ⟨_, by simp [c_rows_of_runs, runs, s0]; repeat' constructor⟩
  · have hp : 0 < zs.length := List.length_pos_iff.mpr h0
    have ha := at_map hp
    have h0' : ¬ zs.length = 0 := by omega
    have e0 : zs.getD 0 0 = zs[0] := by rw [List.getD_eq_getElem?_getD, List.getElem?_eq_getElem hp]; rfl
    obtain ⟨e, q⟩ : RB3 zs ls (exec prog.prot (run prog (n + 2)) (mkD prog (run prog (n + 2))) prog.sub 2 prog.fuel lp_rows_of_runs_1 (rEnv zs ls [] (1, zs[0]) none)) := by
      refine exec_for (xs := ls.map D.int) (e1 := rEnv zs ls [] (1, zs[0]) none) (RI3 zs ls) (RB3 zs ls) (by simp [it_rows_of_runs_1, rEnv]) ⟨[], (1, zs[0]), .non, by simp [it_rows_of_runs_1, rEnv]; rfl, by simp [runs, h0, ← e0], by simp; omega, rfl, full_of (by simp; omega) (by simp; omega)⟩ (fun k x e hx hi => ?_) (fun e hi => ?_)
      · obtain ⟨told, p, t, rfl, i1, i2, i3, i4⟩ := hi
        obtain ⟨hk, hx⟩ := List.getElem?_eq_some_iff.mp hx
        rw [List.length_map] at hk
        rw [List.getElem_map] at hx
        subst hx
        have hs : told.length < sizeMax := by unfold sizeMax; omega
        have ed : ls.drop k = ls[k] :: ls.drop (k + 1) := List.drop_eq_getElem_cons hk
        rw [ed] at i1 i4
        obtain ⟨i, b⟩ := p
        have em : (told.map runD) ++ [runD (i, b, b + ls[k])] = (told ++ [(i, b, b + ls[k])]).map runD := by simp
        simp only [runD] at em
        by_cases c : i < zs.length
        · obtain ⟨ce, q⟩ := rbehind_ok n zs hl hr i c b ls[k]
          have hx := nextR_le (y := ls[k]) (p := (i, b)) c
          have c' : ¬ (i : Int) = zs.length := by omega
          unfold runsF at i1
          rw [if_pos c] at i1
          simp [pairN] at q
          simp [rEnv, bd_rows_of_runs_1, hs, s3, c', q]
          refine ⟨told ++ [(i, b, b + ls[k])], nextR zs ls[k] (i, b), .val (.int ls[k]), by simp [rEnv, runD, Fr.sl], by simpa using i1, hx.2, by simp [i3], i4 c⟩
        · have c' : i = zs.length := by simp only at i2; omega
          unfold runsF at i1
          rw [if_neg c] at i1
          simp [rEnv, bd_rows_of_runs_1, hs, s3, c']
          exact ⟨[some (.own ((told ++ [(i, b, b + ls[k])]).map runD)), some (.val (.int i)), some (.val (.int b)), some (.val (.int ls[k]))], by simp [it_rows_of_runs_1, ← i1, runD, c']⟩
      · obtain ⟨told, p, t, rfl, i1, i2, i3, i4⟩ := hi
        rw [List.length_map, List.drop_length] at i4
        exact i4.elim
    simp only [rEnv, List.map_nil] at q
    simp at ha q
    exact ⟨_, by simp [c_rows_of_runs, h0', ha, s0, q]; repeat' constructor⟩
theorem played_ok (n : Nat) {s t : Sl} {zs ls : List Int} (hs : Rw s (zs.map D.int)) (ht : Rw t (ls.map D.int)) (hl : zs.length ≤ 1000000) (hl2 : ls.length ≤ 1000000) (hr : Rising zs) (h1 : ∀ z ∈ ls, 1 ≤ z) (hf : zs.length ≤ ls.length) : ∃ ce, run prog (n + 4) i_played [s, t] = .ok (.val (.tup ((runs zs ls).map runD))) (some (walked s) :: some (walked t) :: ce) := by
  rw [run_body at_played _ rfl]
  obtain ⟨_, q1⟩ := casks_ok n hs hr
  obtain ⟨_, q2⟩ := clens_ok n ht h1 (-1)
  obtain ⟨_, q3⟩ := rows_ok n zs ls hl hl2 hr hf
  cases hs <;> cases ht <;> (simp only [walked] at q1 q2 ⊢; exact ⟨_, by simp [c_played, q1, q2, q3]; repeat' constructor⟩)
theorem crows_ok (n : Nat) {s : Sl} {zs : List Int} (hs : Rw s (zs.map D.int)) (hl : zs.length ≤ 1000000) (hr : Rising zs) (y : Int) (hy : 1 ≤ y) : ∃ ce, run prog (n + 4) i_chain_rows [s, .val (.int y)] = .ok (.val (.tup ((chain zs y).map pairN))) (some (walked s) :: ce) := by
  rw [run_body at_chain_rows _ rfl]
  obtain ⟨ce, q⟩ := casks_ok n hs hr
  obtain ⟨ce2, q2⟩ := chain_ok n zs hl hr y
  have h1 : ¬ y < 1 := by omega
  cases hs <;> (simp only [walked] at q ⊢; exact ⟨_, by simp [c_chain_rows, q, q2, h1]; repeat' constructor⟩)
theorem rnum_ok (n : Nat) {s : Sl} {zs : List Int} (hs : Rw s (zs.map D.int)) (hl : zs.length ≤ 1000000) (hr : Rising zs) (y : Int) (hy : 1 ≤ y) : ∃ ce, run prog (n + 4) i_run_number [s, .val (.int y)] = .ok (.val (.int (chain zs y).length)) (some (walked s) :: ce) := by
  rw [run_body at_run_number _ rfl]
  obtain ⟨ce, q⟩ := casks_ok n hs hr
  obtain ⟨ce2, q2⟩ := chain_ok n zs hl hr y
  have h1 : ¬ y < 1 := by omega
  cases hs <;> (simp only [walked] at q ⊢; exact ⟨_, by simp [c_run_number, q, q2, h1]; repeat' constructor⟩)
theorem newest_ok (n : Nat) {s : Sl} {zs : List Int} (hs : Rw s (zs.map D.int)) (hl : zs.length ≤ 1000000) (hr : Rising zs) (h : Int) : ∃ ce, run prog (n + 4) i_newest_before [s, .val (.int h)] = .ok (.val (.int (ahead zs h))) (some (walked s) :: ce) := by
  rw [run_body at_newest_before _ rfl]
  obtain ⟨ce, q⟩ := casks_ok n hs hr
  obtain ⟨ce2, q2⟩ := nahead (n + 2) zs hl hr h
  cases hs <;> (simp only [walked] at q ⊢; exact ⟨_, by simp [c_newest_before, q, q2]; repeat' constructor⟩)
/-- what next_run tells -/
def nextD (zs : List Int) (y : Int) (p : Nat × Int) : D := if p.1 < zs.length then pairN (nextR zs y p) else .non
theorem nrun_ok (n : Nat) {s : Sl} {zs : List Int} (hs : Rw s (zs.map D.int)) (hl : zs.length ≤ 1000000) (hr : Rising zs) (i : Nat) (h1 : 1 ≤ i) (h2 : i ≤ zs.length) (b y : Int) (hb : zs[i - 1]'(by omega) ≤ b) (hy : 1 ≤ y) : ∃ ce, run prog (n + 4) i_next_run [s, .val (.int i), .val (.int b), .val (.int y)] = .ok (.val (nextD zs y (i, b))) (some (walked s) :: ce) := by
  rw [run_body at_next_run _ rfl]
  obtain ⟨ce, q⟩ := casks_ok n hs hr
  have qc : run prog (n + 3) i_check_change [.val (.tup (zs.map D.int)), .val (.int i)] = .ok (.val (.int i)) [some (.val (.tup (zs.map D.int))), some (.val (.int i))] := by
    rw [run_body at_check_change _ rfl]
    have a1 : ¬ (i : Int) < 1 := by omega
    have a2 : ¬ ((zs.length : Int) < i) := by omega
    simp [c_check_change, a1, a2]
  have ha := at_map (xs := zs) (k := i - 1) (by omega)
  rw [show ((i - 1 : Nat) : Int) = (i : Int) - 1 by omega] at ha
  have b1 : ¬ b < zs[i - 1]'(by omega) := by omega
  have y1 : ¬ y < 1 := by omega
  unfold nextD
  by_cases c : i < zs.length
  · obtain ⟨ce2, q2⟩ := rbehind_ok (n + 1) zs hl hr i c b y
    rw [if_pos c]
    cases hs <;> (simp only [walked] at q ⊢; exact ⟨_, by simp [c_next_run, q, qc, q2, ha, b1, y1]; repeat' constructor⟩)
  · have e : i = zs.length := by omega
    subst e
    obtain ⟨ce2, q2⟩ := rbehind_none (n + 1) zs b y
    rw [if_neg c]
    cases hs <;> (simp only [walked] at q ⊢; exact ⟨_, by simp [c_next_run, q, qc, q2, ha, b1, y1]; repeat' constructor⟩)
end Pw
set_option maxRecDepth 100000
namespace Pw
open Pv Pv.Pq
def badP (p : Run × Run) : Bool := decide (p.2.1 < p.1.1) || decide (p.2.2.1 < p.1.2.1)
def laterB (A B : List Run) : Bool := (A.zip B).all fun p => !badP p
theorem zipR_at {A B : List Run} {k : Nat} {x : D} (h : (zipL (A.map runD) (B.map runD))[k]? = some x) : ∃ a b, (A.zip B)[k]? = some (a, b) ∧ x = .tup [runD a, runD b] := by
  unfold zipL at h
  rw [List.zip_map, List.getElem?_map, List.getElem?_map, Option.map_eq_some_iff] at h
  obtain ⟨p, h1, rfl⟩ := h
  rw [Option.map_eq_some_iff] at h1
  obtain ⟨q, h1, rfl⟩ := h1
  exact ⟨q.1, q.2, h1, rfl⟩
def LB (A B : List Run) (pre : Es) (r : R Flow) : Prop := if laterB A B then ∃ a b : Fr, r = .ok .next (pre ++ [a.sl, b.sl]) else ∃ e, r = .ok (.ret (.val (.bl false))) e
theorem later_false {A B : List Run} {k : Nat} {a b : Run} (h : (A.zip B)[k]? = some (a, b)) (hb : badP (a, b) = true) : laterB A B = false := by
  unfold laterB
  rw [List.all_eq_false]
  exact ⟨(a, b), List.mem_of_getElem? h, by simp [hb]⟩
theorem later_true {A B : List Run} (h : ∀ (k : Nat) (p : Run × Run), (A.zip B)[k]? = some p → badP p = false) : laterB A B = true := by
  unfold laterB
  rw [List.all_eq_true]
  intro p hp
  obtain ⟨k, hk⟩ := List.getElem?_of_mem hp
  simp [h k p hk]
def LI2 (A B : List Run) (pre : Es) (k : Nat) (e : Es) : Prop := (∃ a b : Fr, e = pre ++ [a.sl, b.sl]) ∧ ∀ (j : Nat) (p : Run × Run), j < k → (A.zip B)[j]? = some p → badP p = false
theorem later_ok (n : Nat) {s t u : Sl} {zs ls ms : List Int} (hs : Rw s (zs.map D.int)) (ht : Rw t (ls.map D.int)) (hu : Rw u (ms.map D.int)) (hl : zs.length ≤ 1000000) (hl2 : ls.length ≤ 1000000) (hl3 : ms.length ≤ 1000000) (hr : Rising zs) (h1 : ∀ z ∈ ls, 1 ≤ z) (h2 : ∀ z ∈ ms, 1 ≤ z) (hf : zs.length ≤ ls.length) (hf2 : zs.length ≤ ms.length) : ∃ ce, run prog (n + 4) i_later_chain [s, t, u] = .ok (.val (.bl (laterB (runs zs ls) (runs zs ms)))) ce := by
  rw [run_body at_later_chain _ rfl]
  obtain ⟨_, q1⟩ := casks_ok n hs hr
  obtain ⟨_, q2⟩ := clens_ok n ht h1 (-1)
  obtain ⟨_, q2'⟩ := clens_ok n hu h2 (-2)
  obtain ⟨_, q3⟩ := rows_ok n zs ls hl hl2 hr hf
  obtain ⟨_, q4⟩ := rows_ok n zs ms hl hl3 hr hf2
  generalize runs zs ls = A at q3 ⊢
  generalize runs zs ms = B at q4 ⊢
  have hloop : ∀ w0 w1 w2 : Sl, LB A B [some w0, some w1, some w2, some (.val (.tup (zs.map D.int))), some (.val (.tup (ls.map D.int))), some (.val (.tup (ms.map D.int))), some (.val (.tup (A.map runD))), some (.val (.tup (B.map runD)))] (exec prog.prot (run prog (n + 3)) (mkD prog (run prog (n + 3))) prog.sub 3 prog.fuel lp_later_chain_1 [some w0, some w1, some w2, some (.val (.tup (zs.map D.int))), some (.val (.tup (ls.map D.int))), some (.val (.tup (ms.map D.int))), some (.val (.tup (A.map runD))), some (.val (.tup (B.map runD))), none, none]) := fun w0 w1 w2 => by
    refine exec_for (xs := zipL (A.map runD) (B.map runD)) (e1 := [some w0, some w1, some w2, some (.val (.tup (zs.map D.int))), some (.val (.tup (ls.map D.int))), some (.val (.tup (ms.map D.int))), some (.val (.tup (A.map runD))), some (.val (.tup (B.map runD))), none, none])
      (LI2 A B [some w0, some w1, some w2, some (.val (.tup (zs.map D.int))), some (.val (.tup (ls.map D.int))), some (.val (.tup (ms.map D.int))), some (.val (.tup (A.map runD))), some (.val (.tup (B.map runD)))])
      (LB A B _) (by simp [it_later_chain_1]) ⟨⟨.non, .non, rfl⟩, fun j p hj => by omega⟩ (fun k x e hx hi => ?_) (fun e hi => ?_)
    · obtain ⟨⟨a', b', rfl⟩, hg⟩ := hi
      obtain ⟨a, b, hz, rfl⟩ := zipR_at hx
      by_cases c : badP (a, b) = true
      · have hlat := later_false hz c
        by_cases c1 : b.1 < a.1
        · simp [bd_later_chain_1, runD, c1, LB, hlat, it_later_chain_1]
        · have c2 : b.2.1 < a.2.1 := by simpa [badP, c1] using c
          simp [bd_later_chain_1, runD, c1, c2, LB, hlat, it_later_chain_1]
      · have c1 : ¬ b.1 < a.1 := fun q => c (by simp [badP, q])
        have c2 : ¬ b.2.1 < a.2.1 := fun q => c (by simp [badP, q])
        simp [bd_later_chain_1, runD, c1, c2]
        refine ⟨⟨.val (runD a), .val (runD b), rfl⟩, fun j p hj hp => ?_⟩
        by_cases e : j = k
        · subst e
          rw [hz] at hp
          cases hp
          simpa using c
        · exact hg j p (by omega) hp
    · obtain ⟨⟨a, b, rfl⟩, hg⟩ := hi
      have hlat : laterB A B = true := later_true fun k p hp => hg k p (by
        have := (List.getElem?_eq_some_iff.mp hp).1
        rw [List.length_zip] at this
        simp [zipL]
        omega) hp
      unfold LB
      rw [if_pos hlat]
      exact ⟨a, b, by simp [it_later_chain_1]⟩
  have hloop := hloop (walked s) (walked t) (walked u)
  unfold LB at hloop
  cases hb : laterB A B with
  | true =>
    simp only [hb, if_true] at hloop
    obtain ⟨a, b, q⟩ := hloop
    cases hs <;> cases ht <;> cases hu <;> (simp [walked] at q1 q2 q2' q; exact ⟨_, by simp [c_later_chain, q1, q2, q2', q3, q4, q]; rfl⟩)
  | false =>
    simp only [hb] at hloop
    obtain ⟨e, q⟩ := hloop
    cases hs <;> cases ht <;> cases hu <;> (simp [walked] at q1 q2 q2' q; exact ⟨_, by simp [c_later_chain, q1, q2, q2', q3, q4, q]; rfl⟩)
end Pw
set_option maxRecDepth 100000
namespace Pw
open Pv Pv.Pq
theorem chainF_evenP {n : Nat} {z d : Int} (hd : 0 < d) (hz : d < z) (hn : 2 ≤ n) : ∀ (m f k : Nat), (k : Int) + m = ((n : Int) - 1) * d / z + 1 → n - idx n z d k < f → chainF (evens n d) z f (idx n z d k, (k : Int) * z) = (List.range (m + 1)).map fun j => (idx n z d (k + j), ((k + j : Nat) : Int) * z) := by
  have hz0 : 0 < z := by omega
  have fin : ∀ k : Nat, (k : Int) = ((n : Int) - 1) * d / z + 1 → ¬ idx n z d k < n := fun k hk h => by
    have h1 := (idx_lt hd hz hn k).mp h
    have : (k : Int) ≤ ((n : Int) - 1) * d / z := (Int.le_ediv_iff_mul_le hz0).mpr h1
    omega
  intro m
  induction m with
  | zero =>
    intro f k hk hf
    obtain ⟨f, rfl⟩ : ∃ g, f = g + 1 := ⟨f - 1, by omega⟩
    have := fin k (by omega)
    unfold chainF
    rw [if_neg (by simpa using this)]
    simp
  | succ m ih =>
    intro f k hk hf
    obtain ⟨f, rfl⟩ : ∃ g, f = g + 1 := ⟨f - 1, by omega⟩
    have h1 : idx n z d k < n := (idx_lt hd hz hn k).mpr ((Int.le_ediv_iff_mul_le hz0).mp (by omega))
    have h2 := idx_mono hd hz hn k h1
    have h3 := idx_low hd hz hn k h1
    have e1 : nextR (evens n d) z (idx n z d k, (k : Int) * z) = (idx n z d (k + 1), ((k + 1 : Nat) : Int) * z) := by
      unfold nextR
      simp only [Prod.mk.injEq]
      rw [← mul1, ahead_even hd hz0 k]
      refine ⟨by omega, ?_⟩
      rw [List.getD_eq_getElem?_getD, List.getElem?_eq_getElem (by simpa using h1), evens_at]
      simp only [Option.getD_some]
      omega
    have e0 : (List.range (m + 1 + 1)).map (fun j => (idx n z d (k + j), ((k + j : Nat) : Int) * z)) = (idx n z d k, (k : Int) * z) :: (List.range (m + 1)).map (fun j => (idx n z d (k + 1 + j), ((k + 1 + j : Nat) : Int) * z)) := by
      rw [List.range_succ_eq_map, List.map_cons, List.map_map]
      refine congr (congrArg _ (by simp)) (List.map_congr_left fun a _ => ?_)
      simp only [Function.comp]
      rw [show k + a.succ = k + 1 + a by omega]
    unfold chainF
    rw [if_pos (by simpa using h1), e1, ih f (k + 1) (by omega) (by omega), e0]
theorem chainF_calm {n : Nat} {z d : Int} (hd : 0 < d) (hz0 : 0 < z) (hz : z ≤ d) : ∀ (m f k : Nat), k + m + 1 = n → m < f → chainF (evens n d) z f (k + 1, (k : Int) * d) = (List.range (m + 1)).map fun j => (k + j + 1, ((k + j : Nat) : Int) * d) := by
  intro m
  induction m with
  | zero =>
    intro f k hk hf
    obtain ⟨f, rfl⟩ : ∃ g, f = g + 1 := ⟨f - 1, by omega⟩
    unfold chainF
    rw [if_neg (by simp; omega)]
    simp
  | succ m ih =>
    intro f k hk hf
    obtain ⟨f, rfl⟩ : ∃ g, f = g + 1 := ⟨f - 1, by omega⟩
    have ha : ahead (evens n d) ((k : Int) * d + z) ≤ k + 2 := by
      by_cases c : ahead (evens n d) ((k : Int) * d + z) ≤ k + 2
      · exact c
      · have h1 := ahead_le (evens n d) ((k : Int) * d + z)
        have h2 := ahead_lt (zs := evens n d) (h := (k : Int) * d + z) (i := k + 1) (by omega)
        rw [evens_at, mul1] at h2
        omega
    have e1 : nextR (evens n d) z (k + 1, (k : Int) * d) = (k + 1 + 1, ((k + 1 : Nat) : Int) * d) := by
      unfold nextR
      simp only [Prod.mk.injEq]
      refine ⟨by omega, ?_⟩
      rw [List.getD_eq_getElem?_getD, List.getElem?_eq_getElem (by simp; omega), evens_at, mul1]
      simp only [Option.getD_some]
      omega
    have e0 : (List.range (m + 1 + 1)).map (fun j => (k + j + 1, ((k + j : Nat) : Int) * d)) = (k + 1, (k : Int) * d) :: (List.range (m + 1)).map (fun j => (k + 1 + j + 1, ((k + 1 + j : Nat) : Int) * d)) := by
      rw [List.range_succ_eq_map, List.map_cons, List.map_map]
      refine congr (congrArg _ (by simp)) (List.map_congr_left fun a _ => ?_)
      simp only [Function.comp]
      rw [show k + a.succ = k + 1 + a by omega]
    unfold chainF
    rw [if_pos (by simp; omega), e1, ih f (k + 1) (by omega) (by omega), e0]
/-- one run of a stream, and their number -/
def sRun (n : Nat) (d z : Int) (j : Nat) : Nat × Int := if n = 1 ∨ z ≤ d then (j + 1, (j : Int) * d) else (idx n z d j, (j : Int) * z)
def sMany (n : Nat) (d z : Int) : Nat := if n = 1 ∨ z ≤ d then n else (((n : Int) - 1) * d / z + 2).toNat
theorem chain_stream {n : Nat} {z d : Int} (hn : 1 ≤ n) (hd : 1 ≤ d) (hz : 1 ≤ z) : chain (evens n d) z = (List.range (sMany n d z)).map (sRun n d z) := by
  have h0 : evens n d ≠ [] := fun e => by
    have := evens_len n d
    rw [e] at this
    simp at this
    omega
  have e : (evens n d).getD 0 0 = 0 := by
    rw [List.getD_eq_getElem?_getD, List.getElem?_eq_getElem (by simp; omega), evens_at]
    simp
  unfold chain
  rw [if_neg h0, evens_len, e]
  unfold sMany sRun
  by_cases c : n = 1 ∨ z ≤ d
  · rw [if_pos c]
    simp only [if_pos c]
    by_cases c1 : n = 1
    · subst c1
      have : chainF (evens 1 d) z 1 (1, 0) = [(1, 0)] := by
        unfold chainF
        rw [if_neg (by simp)]
      rw [this]
      simp
    · have h := chainF_calm (n := n) (by omega) (by omega) (show z ≤ d by omega) (n - 1) n 0 (by omega) (by omega)
      rw [show n - 1 + 1 = n by omega] at h
      simpa using h
  · rw [if_neg c]
    simp only [if_neg c]
    have K0 : 0 ≤ ((n : Int) - 1) * d / z := Int.ediv_nonneg (Int.mul_nonneg (by omega) (by omega)) (by omega)
    have h := chainF_evenP (n := n) (z := z) (d := d) (by omega) (by omega) (by omega) (((n : Int) - 1) * d / z + 1).toNat n 0 (by omega) (by simp [idx]; omega)
    rw [show idx n z d 0 = 1 from rfl] at h
    rw [show (((n : Int) - 1) * d / z + 2).toNat = (((n : Int) - 1) * d / z + 1).toNat + 1 by omega]
    simpa using h
theorem calmK (n : Nat) (a d z : Int) : run prog (n + 1) i_is_calm [.val (.int a), .val (.int d), .val (.int z)] = .ok (.val (.bl (decide (a = 1 ∨ z ≤ d)))) [some (.val (.int a)), some (.val (.int d)), some (.val (.int z))] := by
  rw [run_body at_is_calm _ rfl]
  by_cases h : a = 1
  · simp [c_is_calm, h]
  · simp [c_is_calm, h]
def Sm (n : Nat) (d z : Int) : Prop := 1 ≤ n ∧ n ≤ 1000 ∧ 1 ≤ d ∧ d ≤ 10 ^ 40 ∧ 1 ≤ z ∧ z ≤ 10 ^ 40
theorem finalK (n m : Nat) (d z : Int) (h : Sm m d z) : ∃ ce, run prog (n + 2) i_final_run [.val (.int m), .val (.int d), .val (.int z)] = .ok (.val (.int ((sMany m d z : Int) - 1))) ce := by
  rw [run_body at_final_run _ rfl]
  obtain ⟨h1, h2, h3, h4, h5, h6⟩ := h
  have q := calmK n m d z
  have m1 : mulOk ((m : Int) - 1) d = true := mulOk_m (by omega) (by omega)
  have dv : divOk z = true := divOk_of (by omega) (by omega)
  unfold sMany
  have K0 : 0 ≤ ((m : Int) - 1) * d / z := Int.ediv_nonneg (Int.mul_nonneg (by omega) (by omega)) (by omega)
  by_cases c : m = 1 ∨ z ≤ d
  · have c' : (m : Int) = 1 ∨ z ≤ d := by omega
    rw [if_pos c]
    exact ⟨_, by simp [c_final_run, q, c']; rfl⟩
  · have c' : ¬ ((m : Int) = 1 ∨ z ≤ d) := by omega
    rw [if_neg c]
    have e : (((((m : Int) - 1) * d / z + 2).toNat : Nat) : Int) - 1 = ((m : Int) - 1) * d / z + 1 := by omega
    rw [e]
    exact ⟨_, by simp [c_final_run, q, c', m1, dv]; rfl⟩
theorem countK (n m : Nat) (d z : Int) (h : Sm m d z) : ∃ ce, run prog (n + 3) i_steady_count [.val (.int m), .val (.int d), .val (.int z)] = .ok (.val (.int (sMany m d z))) ce := by
  rw [run_body at_steady_count _ rfl]
  obtain ⟨_, q⟩ := finalK n m d z h
  exact ⟨_, by simp [c_steady_count, q]; rfl⟩
theorem sMany_le {m : Nat} {d z : Int} (h : Sm m d z) : sMany m d z ≤ m ∧ 1 ≤ sMany m d z := by
  obtain ⟨h1, h2, h3, h4, h5, h6⟩ := h
  unfold sMany
  by_cases c : m = 1 ∨ z ≤ d
  · rw [if_pos c]; omega
  · rw [if_neg c]
    have K0 : 0 ≤ ((m : Int) - 1) * d / z := Int.ediv_nonneg (Int.mul_nonneg (by omega) (by omega)) (by omega)
    have : ¬ (m : Int) - 1 ≤ ((m : Int) - 1) * d / z := fun q => by
      have := (Int.le_ediv_iff_mul_le (show 0 < z by omega)).mp q
      have : ((m : Int) - 1) * d < ((m : Int) - 1) * z := Int.mul_lt_mul_of_pos_left (by omega) (by omega)
      omega
    omega
theorem idx_le' {n : Nat} {z d : Int} {k : Nat} : idx n z d k ≤ max n 1 := by
  unfold idx
  split <;> omega
def sRunD (m : Nat) (d z : Int) (j : Nat) : D := .tup [.int ((sRun m d z j).1 - 1 : Int), .int (sRun m d z j).2]
theorem srunK (n m : Nat) (d z : Int) (h : Sm m d z) (j : Nat) (hj : j < sMany m d z) : ∃ ce, run prog (n + 3) i_steady_run [.val (.int m), .val (.int d), .val (.int z), .val (.int j)] = .ok (.val (sRunD m d z j)) ce := by
  rw [run_body at_steady_run _ rfl]
  have hs := sMany_le h
  obtain ⟨_, qf⟩ := finalK n m d z h
  have q := calmK (n + 1) m d z
  obtain ⟨h1, h2, h3, h4, h5, h6⟩ := h
  have s2 : 2 ≤ sizeMax := by decide
  have m1 : mulOk (j : Int) d = true := mulOk_m (by omega) (by omega)
  have m2 : mulOk (j : Int) z = true := mulOk_m (by omega) (by omega)
  have dv : divOk d = true := divOk_of (by omega) (by omega)
  unfold sRunD sRun
  by_cases c : m = 1 ∨ z ≤ d
  · have c' : (m : Int) = 1 ∨ z ≤ d := by omega
    simp only [if_pos c]
    exact ⟨_, by simp [c_steady_run, q, c', m1, s2]; rfl⟩
  · have c' : ¬ ((m : Int) = 1 ∨ z ≤ d) := by omega
    simp only [if_neg c]
    have K0 : 0 ≤ ((m : Int) - 1) * d / z := Int.ediv_nonneg (Int.mul_nonneg (by omega) (by omega)) (by omega)
    by_cases j0 : j = 0
    · subst j0
      exact ⟨_, by simp [c_steady_run, q, c', s2, idx]; rfl⟩
    · have j0' : ¬ (j : Int) = 0 := by omega
      have hM : (sMany m d z : Int) = ((m : Int) - 1) * d / z + 2 := by
        unfold sMany
        rw [if_neg c]
        omega
      have il := idx_lt (n := m) (z := z) (d := d) (by omega) (by omega) (by omega) j
      have iu := idx_le' (n := m) (z := z) (d := d) (k := j)
      by_cases jf : (j : Int) = (sMany m d z : Int) - 1
      · have e : (idx m z d j : Int) - 1 = (m : Int) - 1 := by
          have : ¬ idx m z d j < m := fun w => by
            have w2 := il.mp w
            have := (Int.le_ediv_iff_mul_le (show 0 < z by omega)).mpr w2
            omega
          have := iu
          omega
        exact ⟨_, by simp [c_steady_run, q, c', j0, j0', qf, eq_true jf, m2, s2, e]; rfl⟩
      · have e : (idx m z d j : Int) - 1 = ((j : Int) * z - 1) / d := by
          have hlt : idx m z d j < m := il.mpr ((Int.le_ediv_iff_mul_le (show 0 < z by omega)).mp (by omega))
          have q0 : 0 ≤ ((j : Int) * z - 1) / d := Int.ediv_nonneg (by have : 1 * 1 ≤ (j : Int) * z := Int.mul_le_mul (by omega) (by omega) (by omega) (by omega); omega) (by omega)
          unfold idx at hlt ⊢
          rw [if_neg j0] at hlt ⊢
          omega
        exact ⟨_, by simp [c_steady_run, q, c', j0, j0', qf, jf, m2, s2, dv, e]; rfl⟩
end Pw
set_option maxRecDepth 100000
namespace Pw
open Pv Pv.Pq
theorem stayrun_ok (n m : Nat) (d z : Int) (h : Sm m d z) (j : Nat) (hj : j < sMany m d z) : ∃ ce, run prog (n + 4) i_stay_run [.val (.int m), .val (.int d), .val (.int z), .val (.int j)] = .ok (.val (sRunD m d z j)) ce := by
  rw [run_body at_stay_run _ rfl]
  obtain ⟨_, q1⟩ := countK n m d z h
  obtain ⟨_, q2⟩ := srunK n m d z h j hj
  obtain ⟨h1, h2, h3, h4, h5, h6⟩ := h
  have h1' : (1 : Int) ≤ m := by omega
  have qc : run prog (n + 3) i_check_change_at [.val (.int j), .val (.int (sMany m d z))] = .ok (.val (.int j)) [some (.val (.int j)), some (.val (.int (sMany m d z)))] := by
    rw [run_body at_check_change_at _ rfl]
    simp [c_check_change_at, hj]
  exact ⟨_, by simp [c_stay_run, h1', h3, h5, q1, q2, qc]; rfl⟩
def doneD (m : Nat) (d z : Int) : List D := (List.range (sMany m d z)).map fun j => .int ((sRun m d z j).1 - 1 : Int)
theorem staydone_ok (n m : Nat) (d z : Int) (h : Sm m d z) : ∃ ce, run prog (n + 5) i_stay_done [.val (.int m), .val (.int d), .val (.int z)] = .ok (.val (.tup (doneD m d z))) ce := by
  rw [run_body at_stay_done _ rfl]
  obtain ⟨_, q1⟩ := countK n m d z h
  obtain ⟨_, q1'⟩ := countK (n + 1) m d z h
  have hs := sMany_le h
  have ok := okR_nat (n := sMany m d z) (by have := h.2.1; omega)
  have q2 := fun j hj => srunK n m d z h j hj
  have ql : ∃ ce, run prog (n + 4) i_steady_list [.val (.int m), .val (.int d), .val (.int z)] = .ok (.own (doneD m d z)) ce := by
    rw [run_body at_steady_list _ rfl]
    have key : ∀ E, E = [some (.val (.int m)), some (.val (.int d)), some (.val (.int z)), none] → evE prog.prot (run prog (n + 3)) prog.sub cp_steady_list_1 E = .ok (.own (doneD m d z)) E := fun E hE => by
      have hmap := ev_map (P := prog.prot) (C := run prog (n + 3)) (S := prog.sub) (tg := .one 3) (it := ci_steady_list_1) (elt := ce_steady_list_1) (e := E) (e1 := E) (e0 := E) (xs := rangeL 0 (sMany m d z : Int)) (doneD m d z) (by rw [rangeL_length]; have := h.2.1; unfold sizeMax; omega)
        (by subst hE; simp [ci_steady_list_1, q1, ok]) (by subst hE; simp [ci_steady_list_1]) (by simp [doneD]) (fun k x y hx hy => by
          subst hE
          obtain ⟨rfl, hk⟩ := rangeL_nth hx
          have hk : k < sMany m d z := by omega
          obtain ⟨_, q⟩ := q2 k hk
          unfold doneD at hy
          rw [List.getElem?_map, List.getElem?_range hk] at hy
          simp at hy
          simp [ce_steady_list_1, q, sRunD, hy])
      rw [show cp_steady_list_1 = .comp (.one 3) ci_steady_list_1 .yes ce_steady_list_1 from rfl, hmap]
      subst hE
      simp [ci_steady_list_1]
    have key := key _ rfl
    exact ⟨_, by simp [c_steady_list, key]; rfl⟩
  obtain ⟨_, ql⟩ := ql
  obtain ⟨h1, h2, h3, h4, h5, h6⟩ := h
  have h1' : (1 : Int) ≤ m := by omega
  have c4 : ¬ (4000 : Int) < sMany m d z := by omega
  exact ⟨_, by simp [c_stay_done, h1', h3, h5, q1', ql, c4]; rfl⟩
end Pw
set_option maxRecDepth 100000
namespace Pw
open Pv Pv.Pq
/-- rows of a law: rising, few, small -/
structure Asks (zs : List Int) : Prop where
  few : zs.length ≤ 100
  rise : Rising zs
  small : ∀ z ∈ zs, -(10 ^ 12) ≤ z ∧ z ≤ 10 ^ 12
def AR (most : Int) (k : Nat) (e : Es) : Prop := ∃ (ts zs : List Int) (x : Int) (t : Fr), e = [some (.own (ts.map D.int)), some (.val (.int most)), some (.own ((zs ++ [x]).map D.int)), t.sl] ∧ Tape ts ∧ zs.length = k ∧ Rising (zs ++ [x]) ∧ (∀ z ∈ zs, -(10 ^ 11) ≤ z) ∧ (-(10 ^ 11) ≤ x ∧ x ≤ 10 + 6 * k) ∧ ∀ z ∈ zs, z ≤ x
theorem rising_snoc {zs : List Int} {z : Int} (h : Rising zs) (hz : ∀ k (hk : k + 1 = zs.length), zs[k]'(by omega) < z) : Rising (zs ++ [z]) := by
  intro k hk
  rw [List.length_append, List.length_singleton] at hk
  by_cases h1 : k + 1 < zs.length
  · rw [List.getElem_append_left h1, List.getElem_append_left (by omega)]
    exact h k h1
  · rw [List.getElem_append_left (show k < zs.length by omega), List.getElem_append_right (show zs.length ≤ k + 1 by omega)]
    simp
    exact hz k (by omega)
theorem ask_row (n : Nat) {ts : List Int} (ht : Tape ts) : ∃ zs ts' ce, zs ≠ [] ∧ Asks zs ∧ Tape ts' ∧ run prog (n + 2) i__law_ask_row [.own (ts.map D.int), .val (.int 12)] = .ok (.val (.tup (zs.map D.int))) (some (.own (ts'.map D.int)) :: some (.val (.int 12)) :: ce) := by
  rw [run_body at__law_ask_row _ rfl]
  obtain ⟨v, ts1, hv0, hv1, ht1, q1⟩ := run_take n 4 (by decide) ht
  obtain ⟨w, ts2, hw0, hw1, ht2, q2⟩ := run_take n 12 (by decide) ht1
  obtain ⟨m, m0, m1, hm⟩ : ∃ m : Int, -(10 ^ 11) ≤ m ∧ m ≤ 10 ∧ atD [.int 0, .int 3, .int (-7), .int (-1000000000)] v = some (.int m) := by
    obtain rfl | rfl | rfl | rfl : v = 0 ∨ v = 1 ∨ v = 2 ∨ v = 3 := by omega
    · exact ⟨0, by simp⟩
    · exact ⟨3, by simp⟩
    · exact ⟨-7, by simp⟩
    · exact ⟨-1000000000, by simp⟩
  have s4 : 4 ≤ sizeMax := by decide
  have s1 : 1 ≤ sizeMax := by decide
  have pk : powOk 10 9 = true := by decide
  obtain ⟨e, q, ts', zs, x, a, rfl, b1, b2, b3, b4, b5, b6⟩ := exec_range_to (P := prog.prot) (C := run prog (n + 1)) (M := mkD prog (run prog (n + 1))) (S := prog.sub) (np := 2) (fl := prog.fuel) (i := 3) (a := (.call i__law_take (.cons (.var 0) (.cons (.var 1) .nil)))) (b := bd__law_ask_row_1)
    (e := [some (.own (ts1.map D.int)), some (.val (.int 12)), some (.own [.int m]), none]) (e1 := [some (.own (ts2.map D.int)), some (.val (.int 12)), some (.own [.int m]), none]) (n := w.toNat) (by omega) (AR 12) (fun r => ∃ e, r = .ok .next e ∧ AR 12 w.toNat e)
    (by simp [q2]; omega) ⟨ts2, [], m, .non, rfl, ht2, rfl, (fun k hk => by simp at hk), by simp, by omega, by simp⟩ (fun k e hk hi => by
      obtain ⟨ts, zs, x, a, rfl, ht, hz, hr, hlo, hx, hb⟩ := hi
      obtain ⟨v, ts1, hv0, hv1, ht1, q1⟩ := run_take n 6 (by decide) ht
      have hl : zs.length + 1 < sizeMax := by unfold sizeMax; omega
      simp [bd__law_ask_row_1, q1, hl]
      refine ⟨ts1, zs ++ [x], x + 1 + v, .val (.int k), by simp [Fr.sl], ht1, by simp [hz], rising_snoc hr fun j hj => ?_, fun z hz => ?_, by omega, fun z hz => ?_⟩
      · rw [List.length_append, List.length_singleton] at hj
        have : j = zs.length := by omega
        subst this
        simp
        omega
      · rcases List.mem_append.mp hz with hz | hz
        · exact hlo z hz
        · rw [List.mem_singleton.mp hz]; omega
      · rcases List.mem_append.mp hz with hz | hz
        · have := hb z hz
          omega
        · rw [List.mem_singleton.mp hz]; omega) (fun e hi => ⟨e, rfl, hi⟩)
  have q : exec prog.prot (run prog (n + 1)) (mkD prog (run prog (n + 1))) prog.sub 2 prog.fuel lp__law_ask_row_1 _ = _ := q
  refine ⟨zs ++ [x], ts', [some (.own ((zs ++ [x]).map D.int)), a.sl], by simp, ⟨by simp; omega, b3, fun z hz => ?_⟩, b1, by simp [c__law_ask_row, q1, q, hm, s1, s4, pk]⟩
  rcases List.mem_append.mp hz with hz | hz
  · have := b6 z hz
    have := b4 z hz
    omega
  · rw [List.mem_singleton.mp hz]; omega
theorem grown_ok (n : Nat) (zs : List Int) (c b : Int) (hl : zs.length ≤ 1000) (hc : -(10 ^ 40) < c ∧ c < 10 ^ 40) (hz : ∀ z ∈ zs, -(10 ^ 40) < z ∧ z < 10 ^ 40) : ∃ ce, run prog (n + 1) i__law_grown [.val (.tup (zs.map D.int)), .val (.int c), .val (.int b)] = .ok (.val (.tup ((grow c b zs).map D.int))) (some (.val (.tup (zs.map D.int))) :: some (.val (.int c)) :: some (.val (.int b)) :: ce) := by
  rw [run_body at__law_grown _ rfl]
  have key : ∀ E, E = [some (.val (.tup (zs.map D.int))), some (.val (.int c)), some (.val (.int b)), none] → evE prog.prot (run prog n) prog.sub cp__law_grown_1 E = .ok (.own ((grow c b zs).map D.int)) E := fun E hE => by
    have hmap := ev_map (P := prog.prot) (C := run prog n) (S := prog.sub) (tg := .one 3) (it := ci__law_grown_1) (elt := ce__law_grown_1) (e := E) (e1 := E) (e0 := E) (xs := zs.map D.int) ((grow c b zs).map D.int) (by rw [List.length_map]; unfold sizeMax; omega)
      (by subst hE; simp [ci__law_grown_1]) (by subst hE; simp [ci__law_grown_1]) (by simp) (fun k x y hx hy => by
        subst hE
        rw [List.getElem?_map, Option.map_eq_some_iff] at hx
        obtain ⟨z, hx, rfl⟩ := hx
        unfold grow at hy
        rw [List.getElem?_map, List.getElem?_map, hx] at hy
        simp at hy
        have hb := hz z (List.mem_of_getElem? hx)
        have mo : mulOk z c = true := mulOk_m (by omega) (by omega)
        simp [ce__law_grown_1, mo, hy])
    rw [show cp__law_grown_1 = .comp (.one 3) ci__law_grown_1 .yes ce__law_grown_1 from rfl, hmap]
    subst hE
    simp [ci__law_grown_1]
  have key := key _ rfl
  exact ⟨_, by simp [c__law_grown, key]; repeat' constructor⟩
def LnI (most : Int) (k : Nat) (e : Es) (acc : List D) : Prop := ∃ (ts ls : List Int), e = [some (.own (ts.map D.int)), some (.val (.int most)), none] ∧ Tape ts ∧ acc = ls.map D.int ∧ ls.length = k ∧ ∀ l ∈ ls, 1 ≤ l ∧ l ≤ 9
theorem lens_ok (n m : Nat) (hm : m ≤ 1000) {ts : List Int} (ht : Tape ts) : ∃ (ls ts' : List Int) (ce : Es), ls.length = m ∧ (∀ l ∈ ls, 1 ≤ l ∧ l ≤ 9) ∧ Tape ts' ∧ run prog (n + 2) i__law_lens [.own (ts.map D.int), .val (.int m)] = .ok (.val (.tup (ls.map D.int))) (some (.own (ts'.map D.int)) :: some (.val (.int m)) :: ce) := by
  rw [run_body at__law_lens _ rfl]
  have ok := okR_nat (n := m) (by omega)
  obtain ⟨ts', ls, h1, h2, h3, q⟩ : ∃ ts' ls : List Int, Tape ts' ∧ ls.length = m ∧ (∀ l ∈ ls, 1 ≤ l ∧ l ≤ 9) ∧ evE prog.prot (run prog (n + 1)) prog.sub cp__law_lens_1 [some (.own (ts.map D.int)), some (.val (.int m)), none] = .ok (.own (ls.map D.int)) [some (.own (ts'.map D.int)), some (.val (.int m)), none] := by
    refine ev_comp (P := prog.prot) (C := run prog (n + 1)) (S := prog.sub) (tg := .one 2) (it := ci__law_lens_1) (c := .yes) (elt := ce__law_lens_1) (xs := rangeL 0 (m : Int)) (e1 := [some (.own (ts.map D.int)), some (.val (.int m)), none]) (by rw [rangeL_length]; unfold sizeMax; omega)
      (LnI m) (fun r => ∃ ts' ls : List Int, Tape ts' ∧ ls.length = m ∧ (∀ l ∈ ls, 1 ≤ l ∧ l ≤ 9) ∧ r = .ok (.own (ls.map D.int)) [some (.own (ts'.map D.int)), some (.val (.int m)), none]) (by simp [ci__law_lens_1, ok]) ⟨ts, [], by simp [ci__law_lens_1], ht, rfl, rfl, by simp⟩ (fun k x e acc hx hi => ?_) (fun e acc hi => ?_)
    · obtain ⟨ts, ls, rfl, ht, rfl, hk, hb⟩ := hi
      obtain ⟨v, ts1, hv0, hv1, ht1, q1⟩ := run_take n 9 (by decide) ht
      simp [ce__law_lens_1, q1]
      refine ⟨ts1, ls ++ [1 + v], rfl, ht1, by simp, by simp [hk], fun l hl => ?_⟩
      rcases List.mem_append.mp hl with hl | hl
      · exact hb l hl
      · rw [List.mem_singleton.mp hl]; omega
    · obtain ⟨ts, ls, rfl, ht, rfl, hk, hb⟩ := hi
      rw [rangeL_length] at hk
      exact ⟨ts, ls, ht, by omega, hb, by simp [ci__law_lens_1]⟩
  exact ⟨ls, ts', _, h2, h3, h1, by simp [c__law_lens, q]; repeat' constructor⟩
end Pw
set_option maxRecDepth 100000
namespace Pw
open Pv Pv.Pq
/-- 0-based, as the law tells it -/
def lnextD (zs : List Int) (y : Int) (i : Nat) (b : Int) : D := if i + 1 < zs.length then .tup [.int ((nextR zs y (i + 1, b)).1 - 1 : Int), .int (nextR zs y (i + 1, b)).2] else .non
def NX (zs : List Int) (i : Nat) (b y : Int) (best : Int) (t : Option Sl) : Es := [some (.val (.tup (zs.map D.int))), some (.val (.int i)), some (.val (.int b)), some (.val (.int y)), some (.val (.int (b + y))), some (.val (.int best)), t]
def NI (zs : List Int) (i : Nat) (b y : Int) (k : Nat) (e : Es) : Prop := ∃ (best : Nat) (t : Fr), e = NX zs i b y best t.sl ∧ best = max (i + 1) (min (i + 1 + k) (ahead zs (b + y)) - 1)
theorem lnext (n : Nat) (zs : List Int) (hl : zs.length ≤ 1000000) (hr : Rising zs) (i : Nat) (hi : i < zs.length) (b y : Int) : ∃ ce, run prog (n + 1) i__law_next [.val (.tup (zs.map D.int)), .val (.int i), .val (.int b), .val (.int y)] = .ok (.val (lnextD zs y i b)) ce := by
  rw [run_body at__law_next _ rfl]
  unfold lnextD
  have s2 : 2 ≤ sizeMax := by decide
  by_cases c : i + 1 < zs.length
  · have c' : ¬ (zs.length : Int) ≤ (i : Int) + 1 := by omega
    have ha := at_map c
    simp at ha
    rw [if_pos c]
    by_cases d : b + y ≤ zs[i + 1]
    · have hA : ahead zs (b + y) ≤ i + 1 := by
        by_cases w : ahead zs (b + y) ≤ i + 1
        · exact w
        · have := ahead_lt (zs := zs) (h := b + y) (i := i + 1) (by omega)
          omega
      have e1 : nextR zs y (i + 1, b) = (i + 2, zs[i + 1]) := by
        unfold nextR
        simp only [Prod.mk.injEq, List.getD_eq_getElem?_getD, List.getElem?_eq_getElem c, Option.getD_some]
        omega
      rw [e1]
      have e2 : (i : Int) + 2 - 1 = (i : Int) + 1 := by omega
      exact ⟨_, by simp [c__law_next, c', ha, d, s2, e2]; rfl⟩
    · have hA : i + 1 < ahead zs (b + y) := by
        by_cases w : i + 1 < ahead zs (b + y)
        · exact w
        · have := ahead_ge hr (h := b + y) (i := i + 1) (by omega) c
          omega
      have hAl := ahead_le zs (b + y)
      have e1 : nextR zs y (i + 1, b) = (ahead zs (b + y), b + y) := by
        unfold nextR
        simp only [Prod.mk.injEq, List.getD_eq_getElem?_getD, List.getElem?_eq_getElem c, Option.getD_some]
        omega
      rw [e1]
      obtain ⟨t, q⟩ : ∃ t : Fr, exec prog.prot (run prog n) (mkD prog (run prog n)) prog.sub 4 prog.fuel lp__law_next_1 (NX zs i b y ((i + 1 : Nat) : Int) none) = .ok .next (NX zs i b y ((ahead zs (b + y) - 1 : Nat) : Int) t.sl) := by
        refine exec_range2 (lo := (i + 1 : Nat)) (hi := zs.length) (by omega) (by omega) (NI zs i b y) (fun r => ∃ t : Fr, r = .ok .next (NX zs i b y ((ahead zs (b + y) - 1 : Nat) : Int) t.sl)) (by simp [NX]) (by simp [NX]) ⟨i + 1, .non, rfl, by omega⟩ (fun k e hk hi' => ?_) (fun e hi' => ?_)
        · obtain ⟨best, t, rfl, hb⟩ := hi'
          have hk' : i + 1 + k < zs.length := by omega
          have ha := at_map hk'
          have e3 : ((i + 1 + k : Nat) : Int) = (i : Int) + 1 + k := by omega
          rw [e3] at ha
          by_cases w : zs[i + 1 + k] < b + y
          · have hlt : i + 1 + k < ahead zs (b + y) := by
              by_cases w2 : i + 1 + k < ahead zs (b + y)
              · exact w2
              · have := ahead_ge hr (h := b + y) (i := i + 1 + k) (by omega) hk'
                omega
            simp [NX, bd__law_next_1, ha, w]
            exact ⟨i + 1 + k, .val (.int ((i : Int) + 1 + k)), by simp [NX, Fr.sl], by omega⟩
          · have hle : ahead zs (b + y) ≤ i + 1 + k := by
              by_cases w2 : ahead zs (b + y) ≤ i + 1 + k
              · exact w2
              · have := ahead_lt (zs := zs) (h := b + y) (i := i + 1 + k) (by omega)
                omega
            simp [NX, bd__law_next_1, ha, w]
            exact ⟨best, .val (.int ((i : Int) + 1 + k)), by simp [NX, Fr.sl], by omega⟩
        · obtain ⟨best, t, rfl, hb⟩ := hi'
          refine ⟨t, ?_⟩
          have : best = ahead zs (b + y) - 1 := by omega
          rw [this]
      simp [NX] at q
      have e4 : ((ahead zs (b + y) - 1 : Nat) : Int) = (ahead zs (b + y) : Int) - 1 := by omega
      rw [e4] at q
      exact ⟨_, by simp [c__law_next, c', ha, d, s2, q]; rfl⟩
  · have c' : (zs.length : Int) ≤ (i : Int) + 1 := by omega
    rw [if_neg c]
    exact ⟨_, by simp [c__law_next, c']; rfl⟩
/-- where the law's walk stands: the run to come, 0-based, or none -/
def hereD (zs : List Int) (o : Option (Nat × Int)) : D := match o with
  | none => .non
  | some p => .tup [.int (p.1 - 1 : Int), .int p.2]
def lrEnv (zs ls : List Int) (told : List Run) (o : Option (Nat × Int)) (t : Option Sl) : Es := [some (.val (.tup (zs.map D.int))), some (.val (.tup (ls.map D.int))), some (.own (told.map runD)), some (.val (hereD zs o)), t]
def restO (zs ls : List Int) : Option (Nat × Int) → List Run
  | none => []
  | some p => runsF zs ls p
def LRI (zs ls : List Int) (k : Nat) (e : Es) : Prop := ∃ (told : List Run) (o : Option (Nat × Int)) (t : Fr), e = lrEnv zs ls told o t.sl ∧ told ++ restO zs (ls.drop k) o = runs zs ls ∧ told.length ≤ k ∧ ∀ p, o = some p → 1 ≤ p.1 ∧ p.1 ≤ zs.length
def LRB (zs ls : List Int) (r : R Flow) : Prop := ∃ (a b : Fr), r = .ok .next [some (.val (.tup (zs.map D.int))), some (.val (.tup (ls.map D.int))), some (.own ((runs zs ls).map runD)), a.sl, b.sl]
theorem lruns (n : Nat) (zs ls : List Int) (hl : zs.length ≤ 1000000) (hl2 : ls.length ≤ 1000000) (hr : Rising zs) : ∃ ce, run prog (n + 2) i__law_runs [.val (.tup (zs.map D.int)), .val (.tup (ls.map D.int))] = .ok (.val (.tup ((runs zs ls).map runD))) (some (.val (.tup (zs.map D.int))) :: some (.val (.tup (ls.map D.int))) :: ce) := by
  rw [run_body at__law_runs _ rfl]
  have s2 : 2 ≤ sizeMax := by decide
  have s3 : 3 ≤ sizeMax := by decide
  have s0 : 0 ≤ sizeMax := by decide
  have hloop : ∀ o : Option (Nat × Int), restO zs ls o = runs zs ls → (∀ p, o = some p → 1 ≤ p.1 ∧ p.1 ≤ zs.length) → LRB zs ls (exec prog.prot (run prog (n + 1)) (mkD prog (run prog (n + 1))) prog.sub 2 prog.fuel lp__law_runs_1 (lrEnv zs ls [] o none)) := fun o ho hp => by
    refine exec_for (xs := ls.map D.int) (e1 := lrEnv zs ls [] o none) (LRI zs ls) (LRB zs ls) (by simp [it__law_runs_1, lrEnv]) ⟨[], o, .non, by simp [it__law_runs_1, lrEnv]; rfl, by simpa using ho, by simp, hp⟩ (fun k x e hx hi => ?_) (fun e hi => ?_)
    · obtain ⟨told, o, t, rfl, i1, i2, i3⟩ := hi
      obtain ⟨hk, hx⟩ := List.getElem?_eq_some_iff.mp hx
      rw [List.length_map] at hk
      rw [List.getElem_map] at hx
      subst hx
      have hs : told.length < sizeMax := by unfold sizeMax; omega
      have ed : ls.drop k = ls[k] :: ls.drop (k + 1) := List.drop_eq_getElem_cons hk
      cases o with
      | none =>
        simp [restO] at i1
        simp [lrEnv, bd__law_runs_1, hereD]
        exact ⟨.val .non, .val (.int ls[k]), by simp [it__law_runs_1, i1, Fr.sl]⟩
      | some p =>
        obtain ⟨i, b⟩ := p
        obtain ⟨p1, p2⟩ := i3 _ rfl
        simp only at p1 p2
        have ei : ((i - 1 : Nat) : Int) = (i : Int) - 1 := by omega
        obtain ⟨_, q⟩ := lnext n zs hl hr (i - 1) (by omega) b ls[k]
        rw [ei] at q
        have em : (told.map runD) ++ [runD (i, b, b + ls[k])] = (told ++ [(i, b, b + ls[k])]).map runD := by simp
        simp only [runD] at em
        rw [ed] at i1
        have i1 : told ++ ((i, b, b + ls[k]) :: (if i < zs.length then runsF zs (ls.drop (k + 1)) (nextR zs ls[k] (i, b)) else [])) = runs zs ls := i1
        have e1 : (i : Int) - 1 + 1 = i := by omega
        simp [lrEnv, bd__law_runs_1, hereD, s3, hs, q, e1]
        by_cases c : i < zs.length
        · rw [if_pos c] at i1
          have hx := nextR_le (y := ls[k]) (p := (i, b)) c
          refine ⟨told ++ [(i, b, b + ls[k])], some (nextR zs ls[k] (i, b)), .val (.int ls[k]), ?_, by simpa [restO] using i1, by simp; omega, fun p hp => by cases hp; omega⟩
          have e2 : i - 1 + 1 = i := by omega
          simp [lrEnv, hereD, lnextD, e2, c, runD, Fr.sl]
        · rw [if_neg c] at i1
          refine ⟨told ++ [(i, b, b + ls[k])], none, .val (.int ls[k]), ?_, by simpa [restO] using i1, by simp; omega, fun p hp => by cases hp⟩
          have e2 : i - 1 + 1 = i := by omega
          simp [lrEnv, hereD, lnextD, e2, c, runD, Fr.sl]
    · obtain ⟨told, o, t, rfl, i1, i2, i3⟩ := hi
      rw [List.length_map, List.drop_length] at i1
      have : told = runs zs ls := by
        cases o with
        | none => simpa [restO] using i1
        | some p => simpa [restO, runsF] using i1
      subst this
      exact ⟨.val (hereD zs o), t, by simp [it__law_runs_1, lrEnv, Fr.sl]⟩
  by_cases h0 : zs = []
  · subst h0
    obtain ⟨a, b, q⟩ := hloop none (by simp [restO, runs]) (fun p hp => by cases hp)
    simp [lrEnv, hereD] at q
    exact ⟨_, by simp [c__law_runs, q, s0]; repeat' constructor⟩
  · have hp : 0 < zs.length := List.length_pos_iff.mpr h0
    have hp' : (0 : Int) < zs.length := by omega
    have ha := at_map hp
    simp at ha
    have e0 : zs.getD 0 0 = zs[0] := by rw [List.getD_eq_getElem?_getD, List.getElem?_eq_getElem hp]; rfl
    obtain ⟨a, b, q⟩ := hloop (some (1, zs[0])) (by unfold restO runs; rw [if_neg h0, e0]) (fun p hp => by cases hp; simp only; omega)
    simp [lrEnv, hereD] at q
    exact ⟨_, by simp [c__law_runs, q, s0, s2, ha, hp, hp']; repeat' constructor⟩
end Pw
set_option maxRecDepth 100000
namespace Pw
open Pv Pv.Pq
structure RunOk (zs : List Int) (U : Int) (r : Run) : Prop where
  lo : 1 ≤ r.1
  hi : r.1 ≤ zs.length
  at' : zs.getD (r.1 - 1) 0 ≤ r.2.1
  len : ∃ y, 1 ≤ y ∧ y ≤ 9 ∧ r.2.2 = r.2.1 + y
  dn : -(10 ^ 12) ≤ r.2.1
  up : r.2.1 ≤ U
theorem next_at {zs : List Int} {y : Int} {p : Nat × Int} (c : p.1 < zs.length) : zs.getD ((nextR zs y p).1 - 1) 0 ≤ (nextR zs y p).2 := by
  have hA := ahead_le zs (p.2 + y)
  unfold nextR
  simp only
  have e0 : zs.getD p.1 0 = zs[p.1] := by rw [List.getD_eq_getElem?_getD, List.getElem?_eq_getElem c]; rfl
  by_cases h : p.1 + 1 < ahead zs (p.2 + y)
  · rw [Nat.max_eq_right (by omega)]
    have h1 := ahead_lt (zs := zs) (h := p.2 + y) (i := ahead zs (p.2 + y) - 1) (by omega)
    have e1 : zs.getD (ahead zs (p.2 + y) - 1) 0 = zs[ahead zs (p.2 + y) - 1]'(by omega) := by rw [List.getD_eq_getElem?_getD, List.getElem?_eq_getElem (by omega)]; rfl
    rw [e1]
    omega
  · rw [Nat.max_eq_left (by omega)]
    rw [show p.1 + 1 - 1 = p.1 by omega]
    omega
theorem runsF_good {zs : List Int} {V : Int} (hz : ∀ z ∈ zs, z ≤ V) : ∀ (ls : List Int) (p : Nat × Int), (∀ y ∈ ls, 1 ≤ y ∧ y ≤ 9) → 1 ≤ p.1 → p.1 ≤ zs.length → zs.getD (p.1 - 1) 0 ≤ p.2 → -(10 ^ 12) ≤ p.2 → V ≤ 10 ^ 20 → ∀ U, p.2 + 9 * ls.length ≤ U → V + 9 * ls.length ≤ U → ∀ r ∈ runsF zs ls p, RunOk zs U r
  | [], p, _, _, _, _, _, _, U, _, _, r, h => by simp [runsF] at h
  | y :: ls, p, hy, p1, p2, p3, p4, hV, U, hU, hU2, r, h => by
    obtain ⟨y1, y2⟩ := hy y List.mem_cons_self
    rw [List.length_cons] at hU hU2
    unfold runsF at h
    rcases List.mem_cons.mp h with rfl | h
    · exact ⟨p1, p2, p3, ⟨y, y1, y2, rfl⟩, p4, by simp only; omega⟩
    · split at h
      · rename_i c
        have hx := nextR_le (y := y) c
        have h2 : (nextR zs y p).2 = max (p.2 + y) (zs.getD p.1 0) := rfl
        have e0 : zs.getD p.1 0 = zs[p.1] := by rw [List.getD_eq_getElem?_getD, List.getElem?_eq_getElem c]; rfl
        have h3 := hz _ (List.getElem_mem c)
        refine runsF_good hz ls (nextR zs y p) (fun y hy' => hy y (List.mem_cons_of_mem _ hy')) (by omega) hx.2 (next_at c) ?_ hV U ?_ (by omega) r h
        · rw [h2]; omega
        · rw [h2, e0]; omega
      · simp at h
theorem runs_good {zs ls : List Int} (hz : Asks zs) (hl : ls.length ≤ 100) (hy : ∀ y ∈ ls, 1 ≤ y ∧ y ≤ 9) : ∀ r ∈ runs zs ls, RunOk zs (10 ^ 13) r := by
  intro r h
  unfold runs at h
  split at h
  · simp at h
  · rename_i h0
    have hp : 0 < zs.length := List.length_pos_iff.mpr h0
    have e0 : zs.getD 0 0 = zs[0] := by rw [List.getD_eq_getElem?_getD, List.getElem?_eq_getElem hp]; rfl
    have hs := hz.small _ (List.getElem_mem hp)
    exact runsF_good (V := 10 ^ 12) (fun z hz' => (hz.small z hz').2) ls (1, zs.getD 0 0) hy (by simp) (by simp; omega) (by simp) (by simp only; omega) (by omega) _ (by simp only; omega) (by omega) r h
theorem form_t (n : Nat) (xs : List D) (way : Int) (h : ¬ way = 1) : run prog (n + 1) i__law_form [.val (.tup xs), .val (.int way)] = .ok (.val (.tup xs)) [some (.val (.tup xs)), some (.val (.int way))] := by
  rw [run_body at__law_form _ rfl]
  simp [c__law_form, h]
theorem form_l (n : Nat) (xs : List D) : run prog (n + 1) i__law_form [.val (.tup xs), .val (.int 1)] = .ok (.own xs) [some (.val (.tup xs)), some (.val (.int 1))] := by
  rw [run_body at__law_form _ rfl]
  simp [c__law_form]
theorem scaled_ok (n : Nat) (rs : List Run) (c b : Int) (hl : rs.length ≤ 1000) (hc : -(10 ^ 30) < c ∧ c < 10 ^ 30) (hz : ∀ r ∈ rs, (-(10 ^ 40) < r.2.1 ∧ r.2.1 < 10 ^ 40) ∧ -(10 ^ 40) < r.2.2 ∧ r.2.2 < 10 ^ 40) : ∃ ce, run prog (n + 1) i__law_scaled [.val (.tup (rs.map runD)), .val (.int c), .val (.int b)] = .ok (.val (.tup ((rs.map (growR c b)).map runD))) (some (.val (.tup (rs.map runD))) :: some (.val (.int c)) :: some (.val (.int b)) :: ce) := by
  rw [run_body at__law_scaled _ rfl]
  have s3 : 3 ≤ sizeMax := by decide
  have key : ∀ E, E = [some (.val (.tup (rs.map runD))), some (.val (.int c)), some (.val (.int b)), none] → evE prog.prot (run prog n) prog.sub cp__law_scaled_1 E = .ok (.own ((rs.map (growR c b)).map runD)) E := fun E hE => by
    have hmap := ev_map (P := prog.prot) (C := run prog n) (S := prog.sub) (tg := .one 3) (it := ci__law_scaled_1) (elt := ce__law_scaled_1) (e := E) (e1 := E) (e0 := E) (xs := rs.map runD) ((rs.map (growR c b)).map runD) (by rw [List.length_map]; unfold sizeMax; omega)
      (by subst hE; simp [ci__law_scaled_1]) (by subst hE; simp [ci__law_scaled_1]) (by simp) (fun k x y hx hy => by
        subst hE
        rw [List.getElem?_map, Option.map_eq_some_iff] at hx
        obtain ⟨z, hx, rfl⟩ := hx
        rw [List.getElem?_map, List.getElem?_map, hx] at hy
        simp [growR, runD] at hy
        have hb := hz z (List.mem_of_getElem? hx)
        have m1 : mulOk z.2.1 c = true := mulOk_m (by omega) (by omega)
        have m2 : mulOk z.2.2 c = true := mulOk_m (by omega) (by omega)
        simp [ce__law_scaled_1, runD, m1, m2, s3, hy])
    rw [show cp__law_scaled_1 = .comp (.one 3) ci__law_scaled_1 .yes ce__law_scaled_1 from rfl, hmap]
    subst hE
    simp [ci__law_scaled_1]
  have key := key _ rfl
  exact ⟨_, by simp only [c__law_scaled]; simp [key]; repeat' constructor⟩
end Pw
set_option maxRecDepth 100000
namespace Pw
open Pv Pv.Pq
@[simp] theorem lds_runs (rs : List Run) : lds (rs.map runD) = true := by
  induction rs with
  | nil => rfl
  | cons r rs ih => simp [ih, runD]
@[simp] theorem szs_runs (rs : List Run) : szs (rs.map runD) = 4 * rs.length := by
  induction rs with
  | nil => rfl
  | cons r rs ih => simp [ih, runD]; omega
theorem lds_pairs (rs : List Run) (f : Run → Nat × Int) : lds (rs.map fun r => pairN (f r)) = true := by
  induction rs with
  | nil => rfl
  | cons r rs ih => simp only [List.map_cons, lds_cons, ih]; simp [pairN]
theorem szs_pairs (rs : List Run) (f : Run → Nat × Int) : szs (rs.map fun r => pairN (f r)) = 3 * rs.length := by
  induction rs with
  | nil => rfl
  | cons r rs ih => simp only [List.map_cons, szs_cons, ih]; simp [pairN]; omega
theorem factor_ok (n : Nat) {ts : List Int} (ht : Tape ts) : ∃ (c : Int) (ts' : List Int), (1 ≤ c ∧ c ≤ 10 ^ 20) ∧ Tape ts' ∧ run prog (n + 2) i__law_factor [.own (ts.map D.int)] = .ok (.val (.int c)) [some (.own (ts'.map D.int))] := by
  rw [run_body at__law_factor _ rfl]
  obtain ⟨v, ts1, hv0, hv1, ht1, q1⟩ := run_take n 6 (by decide) ht
  obtain ⟨m, hm1, hm⟩ : ∃ m : Int, (1 ≤ m ∧ m ≤ 10 ^ 20) ∧ atD [.int 1, .int 2, .int 7, .int 60, .int 1000000000, .int 100000000000000000000] v = some (.int m) := by
    obtain rfl | rfl | rfl | rfl | rfl | rfl : v = 0 ∨ v = 1 ∨ v = 2 ∨ v = 3 ∨ v = 4 ∨ v = 5 := by omega
    · exact ⟨1, by decide, by simp⟩
    · exact ⟨2, by decide, by simp⟩
    · exact ⟨7, by decide, by simp⟩
    · exact ⟨60, by decide, by simp⟩
    · exact ⟨10 ^ 9, by decide, by simp⟩
    · exact ⟨10 ^ 20, by decide, by simp⟩
  have p1 : powOk 10 20 = true := by decide
  have p3 : powOk 10 9 = true := by decide
  have s6 : 6 ≤ sizeMax := by decide
  exact ⟨m, ts1, hm1, ht1, by simp [c__law_factor, q1, hm, p1, p3, s6]⟩
theorem chains_ok (n : Nat) {zs : List Int} (hz : Asks zs) (y c b : Int) (hy : 1 ≤ y ∧ y ≤ 9) (hc : 1 ≤ c ∧ c ≤ 10 ^ 20) : ∃ ce, run prog (n + 5) i__law_chains_hold [.val (.tup (zs.map D.int)), .val (.int y), .val (.int c), .val (.int b)] = .ok (.val (.bl true)) ce := by
  rw [run_body at__law_chains_hold _ rfl]
  have hfew := hz.few
  have hg := grow_rising (b := b) (show 0 < c by omega) hz.rise
  have yc : 1 ≤ y * c := by
    have : 1 * 1 ≤ y * c := Int.mul_le_mul hy.1 hc.1 (by omega) (by omega)
    omega
  have m1 : mulOk y c = true := mulOk_m (by omega) (by omega)
  obtain ⟨_, q1⟩ := grown_ok (n + 3) zs c b (by omega) (by omega) (fun z h => by have := hz.small z h; omega)
  obtain ⟨L, hL⟩ : ∃ L, L = List.replicate zs.length y := ⟨_, rfl⟩
  have hLl : L.length = zs.length := by subst hL; simp
  have hLm : ∀ x ∈ L, 1 ≤ x ∧ x ≤ 9 := fun x hx => by
    subst hL
    rw [(List.mem_replicate.mp hx).2]
    exact hy
  obtain ⟨_, q2⟩ := lruns (n + 2) zs L (by omega) (by omega) hz.rise
  have hgood := runs_good hz (by omega) hLm
  have hrl := runs_len zs L
  obtain ⟨_, q3⟩ := crows_ok n (.t ((grow c b zs).map D.int)) (by simp; omega) hg (y * c) yc
  obtain ⟨_, q4⟩ := rnum_ok n (.t ((grow c b zs).map D.int)) (by simp; omega) hg (y * c) yc
  simp only [walked] at q3 q4
  have ech : chain (grow c b zs) (y * c) = (runs zs L).map fun r => (r.1, r.2.1 * c + b) := by
    rw [chain_grow (by omega), chain_runs, List.map_map, ← hL]
    rfl
  rw [ech, List.map_map] at q3
  rw [ech, List.length_map] at q4
  generalize runs zs L = rs at *
  have k1 : ∀ E, E = [some (.val (.tup (zs.map D.int))), some (.val (.int y)), some (.val (.int c)), some (.val (.int b)), some (.val (.tup ((grow c b zs).map D.int))), none, none, none, none] → evE prog.prot (run prog (n + 4)) prog.sub cp__law_chains_hold_1 E = .ok (.own (L.map D.int)) E := fun E hE => by
    have hmap := ev_map (P := prog.prot) (C := run prog (n + 4)) (S := prog.sub) (tg := .one 6) (it := ci__law_chains_hold_1) (elt := ce__law_chains_hold_1) (e := E) (e1 := E) (e0 := E) (xs := zs.map D.int) (L.map D.int) (by rw [List.length_map]; unfold sizeMax; omega)
      (by subst hE; simp [ci__law_chains_hold_1]) (by subst hE; simp [ci__law_chains_hold_1]) (by simp [hLl]) (fun k x w hx hw => by
        subst hE
        rw [List.getElem?_map, Option.map_eq_some_iff] at hw
        obtain ⟨w, hw, rfl⟩ := hw
        subst hL
        have := (List.mem_replicate.mp (List.mem_of_getElem? hw)).2
        subst this
        simp [ce__law_chains_hold_1])
    rw [show cp__law_chains_hold_1 = .comp (.one 6) ci__law_chains_hold_1 .yes ce__law_chains_hold_1 from rfl, hmap]
    subst hE
    simp [ci__law_chains_hold_1]
  have s2 : 2 ≤ sizeMax := by decide
  have k2 : ∀ E, E = [some (.val (.tup (zs.map D.int))), some (.val (.int y)), some (.val (.int c)), some (.val (.int b)), some (.val (.tup ((grow c b zs).map D.int))), some (.val (.tup (rs.map runD))), none, none, none] → evE prog.prot (run prog (n + 4)) prog.sub cp__law_chains_hold_2 E = .ok (.own (rs.map fun r => pairN (r.1, r.2.1 * c + b))) E := fun E hE => by
    have hmap := ev_map (P := prog.prot) (C := run prog (n + 4)) (S := prog.sub) (tg := .one 8) (it := ci__law_chains_hold_2) (elt := ce__law_chains_hold_2) (e := E) (e1 := E) (e0 := E) (xs := rs.map runD) (rs.map fun r => pairN (r.1, r.2.1 * c + b)) (by rw [List.length_map]; unfold sizeMax; omega)
      (by subst hE; simp [ci__law_chains_hold_2]) (by subst hE; simp [ci__law_chains_hold_2]) (by simp) (fun k x w hx hw => by
        subst hE
        rw [List.getElem?_map, Option.map_eq_some_iff] at hx
        obtain ⟨r, hx, rfl⟩ := hx
        rw [List.getElem?_map, hx] at hw
        have hr := hgood r (List.mem_of_getElem? hx)
        have h1 := hr.dn
        have h2 := hr.up
        have m1 : mulOk r.2.1 c = true := mulOk_m (by omega) (by omega)
        simp [pairN] at hw
        simp [ce__law_chains_hold_2, runD, m1, s2, hw])
    rw [show cp__law_chains_hold_2 = .comp (.one 8) ci__law_chains_hold_2 .yes ce__law_chains_hold_2 from rfl, hmap]
    subst hE
    simp [ci__law_chains_hold_2]
  have k1 := k1 _ rfl
  have k2 := k2 _ rfl
  have hld := lds_pairs rs fun r => (r.1, r.2.1 * c + b)
  have hsz := szs_pairs rs fun r => (r.1, r.2.1 * c + b)
  have q3 : run prog (n + 4) i_chain_rows [.val (.tup ((grow c b zs).map D.int)), .val (.int (y * c))] = .ok (.val (.tup (rs.map fun r => pairN (r.1, r.2.1 * c + b)))) _ := q3
  generalize (rs.map fun r => pairN (r.1, r.2.1 * c + b)) = dd at k2 q3 hld hsz
  have j1 := just_same (n + 3) (.tup dd) (.tup dd) rfl (by simpa using hld) (by simp; omega)
  exact ⟨_, by simp [c__law_chains_hold, q1, k1, q2, k2, q3, q4, m1, j1]; repeat' constructor⟩
end Pw
set_option maxRecDepth 100000
namespace Pw
open Pv Pv.Pq
def NwI (zs : List Int) (c b : Int) (k : Nat) (e : Es) : Prop := ∃ (ts : List Int) (o1 o2 o3 : Fr), e = [some (.own (ts.map D.int)), some (.val (.tup (zs.map D.int))), some (.val (.int c)), some (.val (.int b)), some (.val (.tup ((grow c b zs).map D.int))), o1.sl, o2.sl, o3.sl, none] ∧ Tape ts
def ltD (h : Int) : D → Bool
  | .int z => decide (z < h)
  | _ => false
theorem filt_ints (zs : List Int) (h : Int) : (zs.map D.int).filter (ltD h) = (zs.filter fun z => decide (z < h)).map D.int := by
  rw [List.filter_map]
  rfl
theorem newesthold_ok (n : Nat) {zs : List Int} (hz : Asks zs) (c b : Int) (hc : 1 ≤ c ∧ c ≤ 10 ^ 20) {ts : List Int} (ht : Tape ts) : ∃ (ts' : List Int) (ce : Es), Tape ts' ∧ run prog (n + 5) i__law_newest_hold [.own (ts.map D.int), .val (.tup (zs.map D.int)), .val (.int c), .val (.int b)] = .ok (.val (.bl true)) (some (.own (ts'.map D.int)) :: some (.val (.tup (zs.map D.int))) :: some (.val (.int c)) :: some (.val (.int b)) :: ce) := by
  rw [run_body at__law_newest_hold _ rfl]
  have hfew := hz.few
  have hg := grow_rising (b := b) (show 0 < c by omega) hz.rise
  obtain ⟨_, q1⟩ := grown_ok (n + 3) zs c b (by omega) (by omega) (fun z h => by have := hz.small z h; omega)
  have body : ∀ (ts : List Int) (h : Int) (o1 o3 : Option Sl), Tape ts → ∃ a3 : Fr, True := fun _ _ _ _ _ => ⟨.non, trivial⟩
  have key : ∀ (E : Es) (h : Int) (t o1 o3 : Option Sl), E = [t, some (.val (.tup (zs.map D.int))), some (.val (.int c)), some (.val (.int b)), some (.val (.tup ((grow c b zs).map D.int))), o1, some (.val (.int h)), o3, none] → evE prog.prot (run prog (n + 4)) prog.sub cp__law_newest_hold_1 E = .ok (.own ((zs.filter fun z => decide (z < h)).map D.int)) E := fun E h t o1 o3 hE => by
    have hmap := ev_filter (P := prog.prot) (C := run prog (n + 4)) (S := prog.sub) (tg := .one 8) (it := ci__law_newest_hold_1) (c := cc__law_newest_hold_1) (elt := ce__law_newest_hold_1) (e := E) (e1 := E) (e0 := E) (xs := zs.map D.int) (ltD h) (fun x => x) (by rw [List.length_map]; unfold sizeMax; omega)
      (by subst hE; simp [ci__law_newest_hold_1]) (by subst hE; simp [ci__law_newest_hold_1]) (fun x hx => by
        subst hE
        obtain ⟨z, _, rfl⟩ := List.mem_map.mp hx
        by_cases w : z < h
        · simp [cc__law_newest_hold_1, ce__law_newest_hold_1, ltD, w]
        · simp [cc__law_newest_hold_1, ce__law_newest_hold_1, ltD, w])
    rw [show cp__law_newest_hold_1 = .comp (.one 8) ci__law_newest_hold_1 cc__law_newest_hold_1 ce__law_newest_hold_1 from rfl, hmap, filt_ints]
    subst hE
    simp [ci__law_newest_hold_1]
  obtain ⟨e, q2, ts', o1, o2, o3, rfl, ht'⟩ := exec_range (P := prog.prot) (C := run prog (n + 4)) (M := mkD prog (run prog (n + 4))) (S := prog.sub) (np := 4) (fl := prog.fuel) (i := 5) (a := .int 3) (b := bd__law_newest_hold_1) (n := 3)
    (e := [some (.own (ts.map D.int)), some (.val (.tup (zs.map D.int))), some (.val (.int c)), some (.val (.int b)), some (.val (.tup ((grow c b zs).map D.int))), none, none, none, none]) (by omega)
    (NwI zs c b) (fun r => ∃ e, r = .ok .next e ∧ NwI zs c b 3 e) (by simp) ⟨ts, .non, .non, .non, rfl, ht⟩ (fun k e hk hi => by
      obtain ⟨ts, o1, o2, o3, rfl, ht⟩ := hi
      obtain ⟨v, ts1, hv0, hv1, ht1, t1⟩ := run_take (n + 3) 60 (by decide) ht
      have fin : ∀ h : Int, -(10 ^ 13) ≤ h ∧ h ≤ 10 ^ 13 → mulOk h c = true ∧ (∃ ce, run prog (n + 4) i_newest_before [.val (.tup ((grow c b zs).map D.int)), .val (.int (h * c + b))] = .ok (.val (.int (zs.filter fun z => decide (z < h)).length)) (some (.val (.tup ((grow c b zs).map D.int))) :: ce)) := fun h hh => by
        refine ⟨mulOk_m (by omega) (by omega), ?_⟩
        have := newest_ok n (.t ((grow c b zs).map D.int)) (by simp; omega) hg (h * c + b)
        rw [ahead_grow (by omega), ← ahead_filter hz.rise] at this
        exact this
      by_cases w : zs = []
      · obtain ⟨m1, _, q3⟩ := fin (-8 + v) (by omega)
        have k1 := key _ (-8 + v) (some (.own (ts1.map D.int))) (some (.val (.int k))) o3.sl rfl
        subst w
        simp at k1 q3
        simp [bd__law_newest_hold_1, t1, k1, m1, q3]
        exact ⟨ts1, .val (.int k), .val (.int (-8 + v)), .val (.int 0), rfl, ht1⟩
      · have hp : 0 < zs.length := List.length_pos_iff.mpr w
        obtain ⟨u, ts2, hu0, hu1, ht2, t2⟩ := run_take (n + 3) 60 (by decide) ht1
        obtain ⟨s, ts3, hs0, hs1, ht3, t3⟩ := run_take (n + 3) 3 (by decide) ht2
        obtain ⟨j, hj⟩ : ∃ j : Nat, (j : Int) = u % (zs.length : Int) := ⟨(u % (zs.length : Int)).toNat, by have := Int.emod_nonneg u (show (zs.length : Int) ≠ 0 by omega); omega⟩
        have hjl : j < zs.length := by have := Int.emod_lt_of_pos u (show (0 : Int) < zs.length by omega); omega
        have ha := at_map hjl
        have hb := hz.small _ (List.getElem_mem hjl)
        obtain ⟨m1, _, q3⟩ := fin (zs[j] + s - 1) (by omega)
        have k1 := key _ (zs[j] + s - 1) (some (.own (ts3.map D.int))) (some (.val (.int k))) o3.sl rfl
        have dv : divOk (zs.length : Int) = true := divOk_of (by omega) (by omega)
        have hp' : (0 : Int) < zs.length := by omega
        have hq := hz.few
        simp [bd__law_newest_hold_1, t1, t2, t3, hp, hp', ← hj, ha, dv, k1, m1, q3]
        exact ⟨ts3, .val (.int k), .val (.int (zs[j] + s - 1)), .val (.int _), rfl, ht3⟩) (fun e hi => ⟨e, rfl, hi⟩)
  have q2 : exec prog.prot (run prog (n + 4)) (mkD prog (run prog (n + 4))) prog.sub 4 prog.fuel lp__law_newest_hold_1 _ = _ := q2
  exact ⟨ts', _, ht', by simp [c__law_newest_hold, q1, q2]; rfl⟩
end Pw
set_option maxRecDepth 100000
namespace Pw
open Pv Pv.Pq
def LkI (A B : List Run) (k : Nat) (e : Es) : Prop := (∃ a : Fr, e = [some (.val (.tup (A.map runD))), some (.val (.tup (B.map runD))), a.sl]) ∧ ∀ (j : Nat) (p : Run × Run), j < k → (A.zip B)[j]? = some p → badP p = false
def LkB (A B : List Run) (r : R Flow) : Prop := if laterB A B then ∃ a : Fr, r = .ok .next [some (.val (.tup (A.map runD))), some (.val (.tup (B.map runD))), a.sl] else ∃ e, r = .ok (.ret (.val (.bl false))) e
theorem at_run {A : List Run} {k : Nat} (h : k < A.length) : atD (A.map runD) (k : Nat) = some (runD A[k]) := at_nat (by rw [List.getElem?_map, List.getElem?_eq_getElem h]; rfl)
theorem llater (n : Nat) (A B : List Run) (hA : A.length ≤ 1000) (hB : B.length ≤ 1000) : ∃ ce, run prog (n + 1) i__law_later [.val (.tup (A.map runD)), .val (.tup (B.map runD))] = .ok (.val (.bl (laterB A B))) ce := by
  rw [run_body at__law_later _ rfl]
  have q : LkB A B (exec prog.prot (run prog n) (mkD prog (run prog n)) prog.sub 2 prog.fuel (.for_ (.one 2) (.range1 (.bi .min (.cons (.bi .len (.cons (.var 0) .nil)) (.cons (.bi .len (.cons (.var 1) .nil)) .nil)))) bd__law_later_1) [some (.val (.tup (A.map runD))), some (.val (.tup (B.map runD))), none]) := by
    refine exec_range (n := min A.length B.length) (e := [some (.val (.tup (A.map runD))), some (.val (.tup (B.map runD))), none]) (by omega) (LkI A B) (LkB A B) (by simp [minL]; omega) ⟨⟨.non, rfl⟩, fun j p hj => by omega⟩ (fun k e hk hi => ?_) (fun e hi => ?_)
    · obtain ⟨⟨a', rfl⟩, hg⟩ := hi
      have hkA : k < A.length := by omega
      have hkB : k < B.length := by omega
      have hz : (A.zip B)[k]? = some (A[k], B[k]) := by
        rw [List.getElem?_eq_getElem (by rw [List.length_zip]; omega), List.getElem_zip]
      have ha := at_run hkA
      have hb := at_run hkB
      by_cases c : badP (A[k], B[k]) = true
      · have hlat := later_false hz c
        by_cases c1 : B[k].1 < A[k].1
        · simp [bd__law_later_1, ha, hb, runD, c1, LkB, hlat]
        · have c2 : B[k].2.1 < A[k].2.1 := by simpa [badP, c1] using c
          simp [bd__law_later_1, ha, hb, runD, c1, c2, LkB, hlat]
      · have c1 : ¬ B[k].1 < A[k].1 := fun q => c (by simp [badP, q])
        have c2 : ¬ B[k].2.1 < A[k].2.1 := fun q => c (by simp [badP, q])
        simp [bd__law_later_1, ha, hb, runD, c1, c2]
        refine ⟨⟨.val (.int k), rfl⟩, fun j p hj hp => ?_⟩
        by_cases e : j = k
        · subst e
          rw [hz] at hp
          cases hp
          simpa using c
        · exact hg j p (by omega) hp
    · obtain ⟨⟨a, rfl⟩, hg⟩ := hi
      have hlat : laterB A B = true := later_true fun k p hp => hg k p (by
        have := (List.getElem?_eq_some_iff.mp hp).1
        rw [List.length_zip] at this
        omega) hp
      unfold LkB
      rw [if_pos hlat]
      exact ⟨a, rfl⟩
  have q : LkB A B (exec prog.prot (run prog n) (mkD prog (run prog n)) prog.sub 2 prog.fuel lp__law_later_1 [some (.val (.tup (A.map runD))), some (.val (.tup (B.map runD))), none]) := q
  unfold LkB at q
  cases hb : laterB A B with
  | true =>
    simp only [hb, if_true] at q
    obtain ⟨a, q⟩ := q
    exact ⟨_, by simp [c__law_later, q]; rfl⟩
  | false =>
    simp only [hb] at q
    obtain ⟨e, q⟩ := q
    exact ⟨_, by simp [c__law_later, q]; rfl⟩
theorem later_grow {c b : Int} (hc : 0 < c) (A B : List Run) : laterB (A.map (growR c b)) (B.map (growR c b)) = laterB A B := by
  unfold laterB
  rw [List.zip_map, List.all_map]
  congr 1
  funext p
  obtain ⟨p, q⟩ := p
  have e : q.2.1 * c + b < p.2.1 * c + b ↔ q.2.1 < p.2.1 := by
    constructor
    · intro w
      exact Int.lt_of_mul_lt_mul_right (show q.2.1 * c < p.2.1 * c by omega) (by omega)
    · intro w
      have := Int.mul_lt_mul_of_pos_right w hc
      omega
  have h : badP (growR c b p, growR c b q) = badP (p, q) := by
    have h1 : ∀ a b : Run, badP (a, b) = true ↔ b.1 < a.1 ∨ b.2.1 < a.2.1 := fun a b => by
      unfold badP
      rw [Bool.or_eq_true, decide_eq_true_iff, decide_eq_true_iff]
    rw [Bool.eq_iff_iff, h1, h1]
    exact or_congr Iff.rfl e
  show (!badP (growR c b p, growR c b q)) = !badP (p, q)
  rw [h]
def LoI (pre : Es) (ls : List Int) (k : Nat) (e : Es) (acc : List D) : Prop := ∃ (ts os : List Int), e = some (.own (ts.map D.int)) :: pre ∧ Tape ts ∧ acc = os.map D.int ∧ os.length = k ∧ ∀ l ∈ os, 1 ≤ l ∧ l ≤ 13
theorem laterhold_ok (n : Nat) {zs ls : List Int} (hz : Asks zs) (hl : ls.length = zs.length) (hy : ∀ y ∈ ls, 1 ≤ y ∧ y ≤ 9) (c b : Int) (hc : 1 ≤ c ∧ c ≤ 10 ^ 20) {ts : List Int} (ht : Tape ts) : ∃ (ts' : List Int) (ce : Es), Tape ts' ∧ run prog (n + 5) i__law_later_hold [.own (ts.map D.int), .val (.tup (zs.map D.int)), .val (.tup (ls.map D.int)), .val (.int c), .val (.int b)] = .ok (.val (.bl true)) (some (.own (ts'.map D.int)) :: some (.val (.tup (zs.map D.int))) :: some (.val (.tup (ls.map D.int))) :: some (.val (.int c)) :: some (.val (.int b)) :: ce) := by
  rw [run_body at__law_later_hold _ rfl]
  have hfew := hz.few
  have hg := grow_rising (b := b) (show 0 < c by omega) hz.rise
  obtain ⟨_, q1⟩ := grown_ok (n + 3) zs c b (by omega) (by omega) (fun z h => by have := hz.small z h; omega)
  obtain ⟨ts', os, h1, h2, h3, k1⟩ : ∃ ts' os : List Int, Tape ts' ∧ os.length = zs.length ∧ (∀ l ∈ os, 1 ≤ l ∧ l ≤ 13) ∧ evE prog.prot (run prog (n + 4)) prog.sub cp__law_later_hold_1 [some (.own (ts.map D.int)), some (.val (.tup (zs.map D.int))), some (.val (.tup (ls.map D.int))), some (.val (.int c)), some (.val (.int b)), some (.val (.tup ((grow c b zs).map D.int))), none, none, none, none] = .ok (.own (os.map D.int)) [some (.own (ts'.map D.int)), some (.val (.tup (zs.map D.int))), some (.val (.tup (ls.map D.int))), some (.val (.int c)), some (.val (.int b)), some (.val (.tup ((grow c b zs).map D.int))), none, none, none, none] := by
    refine ev_comp (P := prog.prot) (C := run prog (n + 4)) (S := prog.sub) (tg := .one 7) (it := ci__law_later_hold_1) (c := .yes) (elt := ce__law_later_hold_1) (xs := ls.map D.int) (e1 := [some (.own (ts.map D.int)), some (.val (.tup (zs.map D.int))), some (.val (.tup (ls.map D.int))), some (.val (.int c)), some (.val (.int b)), some (.val (.tup ((grow c b zs).map D.int))), none, none, none, none]) (by rw [List.length_map]; unfold sizeMax; omega)
      (LoI [some (.val (.tup (zs.map D.int))), some (.val (.tup (ls.map D.int))), some (.val (.int c)), some (.val (.int b)), some (.val (.tup ((grow c b zs).map D.int))), none, none, none, none] ls) (fun r => ∃ ts' os : List Int, Tape ts' ∧ os.length = zs.length ∧ (∀ l ∈ os, 1 ≤ l ∧ l ≤ 13) ∧ r = .ok (.own (os.map D.int)) [some (.own (ts'.map D.int)), some (.val (.tup (zs.map D.int))), some (.val (.tup (ls.map D.int))), some (.val (.int c)), some (.val (.int b)), some (.val (.tup ((grow c b zs).map D.int))), none, none, none, none]) (by simp [ci__law_later_hold_1]) ⟨ts, [], by simp [ci__law_later_hold_1], ht, rfl, rfl, by simp⟩ (fun k x e acc hx hi => ?_) (fun e acc hi => ?_)
    · obtain ⟨ts, os, rfl, ht, rfl, hk, hb⟩ := hi
      obtain ⟨hkl, hx⟩ := List.getElem?_eq_some_iff.mp hx
      rw [List.length_map] at hkl
      rw [List.getElem_map] at hx
      subst hx
      have hyk := hy _ (List.getElem_mem hkl)
      obtain ⟨v, ts1, hv0, hv1, ht1, t1⟩ := run_take (n + 3) 5 (by decide) ht
      simp [ce__law_later_hold_1, t1, maxL]
      refine ⟨ts1, os ++ [max 1 (ls[k] + v - 1)], rfl, ht1, by simp, by simp [hk], fun l hl => ?_⟩
      rcases List.mem_append.mp hl with hl | hl
      · exact hb l hl
      · rw [List.mem_singleton.mp hl]; omega
    · obtain ⟨ts, os, rfl, ht, rfl, hk, hb⟩ := hi
      rw [List.length_map] at hk
      exact ⟨ts, os, ht, by omega, hb, by simp [ci__law_later_hold_1]⟩
  obtain ⟨_, q2⟩ := lruns (n + 2) zs ls (by omega) (by omega) hz.rise
  obtain ⟨_, q3⟩ := lruns (n + 2) zs os (by omega) (by omega) hz.rise
  have r1 := runs_len zs ls
  have r2 := runs_len zs os
  obtain ⟨_, q4⟩ := llater (n + 3) (runs zs ls) (runs zs os) (by omega) (by omega)
  have pos : ∀ {xs : List Int} {m : Int}, (∀ x ∈ xs, 1 ≤ x ∧ x ≤ m) → ∀ x ∈ grow c 0 xs, 1 ≤ x := fun hx x h => by
    unfold grow at h
    obtain ⟨w, hw, rfl⟩ := List.mem_map.mp h
    have h1 := hx w hw
    have : 1 * 1 ≤ w * c := Int.mul_le_mul h1.1 hc.1 (by omega) (by omega)
    omega
  obtain ⟨_, q5⟩ := grown_ok (n + 3) ls c 0 (by omega) (by omega) (fun z h => by have := hy z h; omega)
  obtain ⟨_, q6⟩ := grown_ok (n + 3) os c 0 (by omega) (by omega) (fun z h => by have := h3 z h; omega)
  have q7 : ∀ t, Rw t ((grow c 0 ls).map D.int) → ∃ ce, run prog (n + 4) i_later_chain [.val (.tup ((grow c b zs).map D.int)), t, .val (.tup ((grow c 0 os).map D.int))] = .ok (.val (.bl (laterB (runs zs ls) (runs zs os)))) ce := fun t hRt => by
    have := later_ok n (.t ((grow c b zs).map D.int)) hRt (.t ((grow c 0 os).map D.int)) (by simp; omega) (by simp; omega) (by simp; omega) hg (pos hy) (pos h3) (by simp; omega) (by simp; omega)
    rwa [runs_grow (by omega), runs_grow (by omega), later_grow (by omega)] at this
  obtain ⟨_, q8⟩ := q7 _ (.o _)
  generalize laterB (runs zs ls) (runs zs os) = B at *
  have s1 : 1 ≤ sizeMax := by decide
  have sl : ls.length ≤ sizeMax := by unfold sizeMax; omega
  exact ⟨ts', _, h1, by simp [c__law_later_hold, q1, k1, q2, q3, q4, q5, q6, q8, sl]; repeat' constructor⟩
end Pw
set_option maxRecDepth 100000
namespace Pw
open Pv Pv.Pq
theorem evens_grow (n : Nat) (d c : Int) : evens n (d * c) = grow c 0 (evens n d) := by
  unfold evens grow
  rw [List.map_map]
  refine List.map_congr_left fun k _ => ?_
  simp [Int.mul_assoc]
theorem rows_even {n : Nat} {d y c : Int} (hn : 1 ≤ n) (hd : 1 ≤ d) (hy : 1 ≤ y) (hc : 1 ≤ c) : (List.range (sMany n (d * c) (y * c))).map (sRun n (d * c) (y * c)) = (runs (evens n d) (List.replicate n y)).map fun r => (r.1, r.2.1 * c) := by
  have h1 : 1 ≤ d * c := by
    have : 1 * 1 ≤ d * c := Int.mul_le_mul hd hc (by omega) (by omega)
    omega
  have h2 : 1 ≤ y * c := by
    have : 1 * 1 ≤ y * c := Int.mul_le_mul hy hc (by omega) (by omega)
    omega
  have el : (evens n d).length = n := by simp [evens]
  rw [← chain_stream hn h1 h2, evens_grow, chain_grow (by omega), chain_runs, el, List.map_map]
  refine List.map_congr_left fun r _ => ?_
  simp
def StI (ts : List Int) (n : Nat) (d y c : Int) (zs : List Int) (rs : List Run) (k : Nat) (e : Es) : Prop := ∃ (o : Fr), e = [some (.own (ts.map D.int)), some (.val (.int c)), some (.val (.int n)), some (.val (.int d)), some (.val (.int y)), some (.val (.tup (zs.map D.int))), o.sl, some (.val (.tup (rs.map runD))), none, none]
theorem stream_ok (N : Nat) (c : Int) (hc : 1 ≤ c ∧ c ≤ 10 ^ 20) {ts : List Int} (ht : Tape ts) : ∃ (ts' : List Int) (ce : Es), run prog (N + 6) i__law_stream_hold [.own (ts.map D.int), .val (.int c)] = .ok (.val (.bl true)) (some (.own (ts'.map D.int)) :: some (.val (.int c)) :: ce) := by
  rw [run_body at__law_stream_hold _ rfl]
  obtain ⟨v1, ts1, a1, b1, ht1, t1⟩ := run_take (N + 4) 12 (by decide) ht
  obtain ⟨v2, ts2, a2, b2, ht2, t2⟩ := run_take (N + 4) 7 (by decide) ht1
  obtain ⟨v3, ts3, a3, b3, ht3, t3⟩ := run_take (N + 4) 9 (by decide) ht2
  obtain ⟨n, hn⟩ : ∃ n : Nat, (n : Int) = 1 + v1 := ⟨(1 + v1).toNat, by omega⟩
  obtain ⟨d, hd⟩ : ∃ d, d = 1 + v2 := ⟨_, rfl⟩
  obtain ⟨y, hy⟩ : ∃ y, y = 1 + v3 := ⟨_, rfl⟩
  have n1 : 1 ≤ n := by omega
  have n2 : n ≤ 12 := by omega
  have hdc : 1 ≤ d * c ∧ d * c ≤ 7 * 10 ^ 20 := by
    have h1 : 1 * 1 ≤ d * c := Int.mul_le_mul (by omega) hc.1 (by omega) (by omega)
    have h2 : d * c ≤ 7 * 10 ^ 20 := Int.mul_le_mul (by omega) hc.2 (by omega) (by omega)
    omega
  have hyc : 1 ≤ y * c ∧ y * c ≤ 9 * 10 ^ 20 := by
    have h1 : 1 * 1 ≤ y * c := Int.mul_le_mul (by omega) hc.1 (by omega) (by omega)
    have h2 : y * c ≤ 9 * 10 ^ 20 := Int.mul_le_mul (by omega) hc.2 (by omega) (by omega)
    omega
  have hS : Sm n (d * c) (y * c) := by unfold Sm; omega
  have mdc : mulOk d c = true := mulOk_m (by omega) (by omega)
  have myc : mulOk y c = true := mulOk_m (by omega) (by omega)
  have ok : okR (n : Int) := okR_nat (by omega)
  have el : (evens n d).length = n := by simp [evens]
  have erise : Rising (evens n d) := evens_rising (by omega)
  have eb : ∀ z ∈ evens n d, 0 ≤ z ∧ z ≤ 100 := fun z hz => by
    unfold evens at hz
    obtain ⟨k, hk, rfl⟩ := List.mem_map.mp hz
    have hk := List.mem_range.mp hk
    have h1 : (k : Int) * d ≤ 12 * 7 := Int.mul_le_mul (by omega) (by omega) (by omega) (by omega)
    have h2 : 0 ≤ (k : Int) * d := Int.mul_nonneg (by omega) (by omega)
    omega
  have eA : Asks (evens n d) := ⟨by omega, erise, fun z hz => by have := eb z hz; omega⟩
  obtain ⟨L, hL⟩ : ∃ L, L = List.replicate n y := ⟨_, rfl⟩
  have hLl : L.length = n := by subst hL; simp
  have hLm : ∀ x ∈ L, 1 ≤ x ∧ x ≤ 9 := fun x hx => by
    subst hL
    rw [(List.mem_replicate.mp hx).2]
    omega
  have rE := rows_even (n := n) (d := d) (y := y) (c := c) n1 (by omega) (by omega) hc.1
  rw [← hL] at rE
  obtain ⟨_, q2⟩ := lruns (N + 3) (evens n d) L (by omega) (by omega) erise
  have hgood := runs_good eA (by omega) hLm
  have hrl := runs_len (evens n d) L
  obtain ⟨_, q3⟩ := staydone_ok N n (d * c) (y * c) hS
  have hQ : ∀ j, j < sMany n (d * c) (y * c) → ∃ ce, run prog (N + 5) i_stay_run [.val (.int n), .val (.int (d * c)), .val (.int (y * c)), .val (.int j)] = .ok (.val (sRunD n (d * c) (y * c) j)) ce := fun j hj => stayrun_ok (N + 1) n (d * c) (y * c) hS j hj
  have eD : doneD n (d * c) (y * c) = (runs (evens n d) L).map fun r => D.int ((r.1 : Int) - 1) := by
    have e1 : doneD n (d * c) (y * c) = ((List.range (sMany n (d * c) (y * c))).map (sRun n (d * c) (y * c))).map fun p => D.int ((p.1 : Int) - 1) := by
      unfold doneD
      rw [List.map_map]
      rfl
    rw [e1, rE, List.map_map]
    rfl
  have eK : sMany n (d * c) (y * c) = (runs (evens n d) L).length := by
    have := congrArg List.length rE
    simpa using this
  have eS : ∀ j (h : j < (runs (evens n d) L).length), sRun n (d * c) (y * c) j = ((runs (evens n d) L)[j].1, (runs (evens n d) L)[j].2.1 * c) := fun j h => by
    have e1 : ((List.range (sMany n (d * c) (y * c))).map (sRun n (d * c) (y * c)))[j]? = ((runs (evens n d) L).map fun r => (r.1, r.2.1 * c))[j]? := by rw [rE]
    rw [List.getElem?_map, List.getElem?_range (by omega), List.getElem?_map, List.getElem?_eq_getElem h] at e1
    simpa using e1
  rw [eD] at q3
  rw [eK] at hQ
  generalize runs (evens n d) L = rs at *
  have k1 : ∀ E, E = [some (.own (ts3.map D.int)), some (.val (.int c)), some (.val (.int n)), some (.val (.int d)), some (.val (.int y)), none, none, none, none, none] → evE prog.prot (run prog (N + 5)) prog.sub cp__law_stream_hold_1 E = .ok (.own ((evens n d).map D.int)) E := fun E hE => by
    have hmap := ev_map (P := prog.prot) (C := run prog (N + 5)) (S := prog.sub) (tg := .one 6) (it := ci__law_stream_hold_1) (elt := ce__law_stream_hold_1) (e := E) (e1 := E) (e0 := E) (xs := rangeL 0 (n : Int)) ((evens n d).map D.int) (by rw [rangeL_length]; unfold sizeMax; omega)
      (by subst hE; simp [ci__law_stream_hold_1, ok]) (by subst hE; simp [ci__law_stream_hold_1]) (by rw [rangeL_length, List.length_map, el]; omega) (fun k x w hx hw => by
        subst hE
        obtain ⟨rfl, hk⟩ := rangeL_nth hx
        have hk : k < n := by omega
        unfold evens at hw
        rw [List.getElem?_map, List.getElem?_map, List.getElem?_range hk] at hw
        simp at hw
        have m3 : mulOk (k : Int) d = true := mulOk_m (by omega) (by omega)
        simp [ce__law_stream_hold_1, m3, hw])
    rw [show cp__law_stream_hold_1 = .comp (.one 6) ci__law_stream_hold_1 .yes ce__law_stream_hold_1 from rfl, hmap]
    subst hE
    simp [ci__law_stream_hold_1]
  have k2 : ∀ E, E = [some (.own (ts3.map D.int)), some (.val (.int c)), some (.val (.int n)), some (.val (.int d)), some (.val (.int y)), some (.val (.tup ((evens n d).map D.int))), none, none, none, none] → evE prog.prot (run prog (N + 5)) prog.sub cp__law_stream_hold_2 E = .ok (.own (L.map D.int)) E := fun E hE => by
    have hmap := ev_map (P := prog.prot) (C := run prog (N + 5)) (S := prog.sub) (tg := .one 8) (it := ci__law_stream_hold_2) (elt := ce__law_stream_hold_2) (e := E) (e1 := E) (e0 := E) (xs := (evens n d).map D.int) (L.map D.int) (by rw [List.length_map]; unfold sizeMax; omega)
      (by subst hE; simp [ci__law_stream_hold_2]) (by subst hE; simp [ci__law_stream_hold_2]) (by simp [hLl, el]) (fun k x w hx hw => by
        subst hE
        rw [List.getElem?_map, Option.map_eq_some_iff] at hw
        obtain ⟨w, hw, rfl⟩ := hw
        subst hL
        have := (List.mem_replicate.mp (List.mem_of_getElem? hw)).2
        subst this
        simp [ce__law_stream_hold_2])
    rw [show cp__law_stream_hold_2 = .comp (.one 8) ci__law_stream_hold_2 .yes ce__law_stream_hold_2 from rfl, hmap]
    subst hE
    simp [ci__law_stream_hold_2]
  have k3 : ∀ E, E = [some (.own (ts3.map D.int)), some (.val (.int c)), some (.val (.int n)), some (.val (.int d)), some (.val (.int y)), some (.val (.tup ((evens n d).map D.int))), none, some (.val (.tup (rs.map runD))), none, none] → evE prog.prot (run prog (N + 5)) prog.sub cp__law_stream_hold_3 E = .ok (.own (rs.map fun r => D.int ((r.1 : Int) - 1))) E := fun E hE => by
    have hmap := ev_map (P := prog.prot) (C := run prog (N + 5)) (S := prog.sub) (tg := .one 9) (it := ci__law_stream_hold_3) (elt := ce__law_stream_hold_3) (e := E) (e1 := E) (e0 := E) (xs := rs.map runD) (rs.map fun r => D.int ((r.1 : Int) - 1)) (by rw [List.length_map]; unfold sizeMax; omega)
      (by subst hE; simp [ci__law_stream_hold_3]) (by subst hE; simp [ci__law_stream_hold_3]) (by simp) (fun k x w hx hw => by
        subst hE
        rw [List.getElem?_map, Option.map_eq_some_iff] at hx
        obtain ⟨r, hx, rfl⟩ := hx
        rw [List.getElem?_map, hx] at hw
        simp at hw
        simp [ce__law_stream_hold_3, runD, hw])
    rw [show cp__law_stream_hold_3 = .comp (.one 9) ci__law_stream_hold_3 .yes ce__law_stream_hold_3 from rfl, hmap]
    subst hE
    simp [ci__law_stream_hold_3]
  have k1 := k1 _ rfl
  have k2 := k2 _ rfl
  have k3 := k3 _ rfl
  have s2 : 2 ≤ sizeMax := by decide
  obtain ⟨o, q4⟩ : ∃ o : Fr, exec prog.prot (run prog (N + 5)) (mkD prog (run prog (N + 5))) prog.sub 2 prog.fuel lp__law_stream_hold_1 [some (.own (ts3.map D.int)), some (.val (.int c)), some (.val (.int n)), some (.val (.int d)), some (.val (.int y)), some (.val (.tup ((evens n d).map D.int))), none, some (.val (.tup (rs.map runD))), none, none] = .ok .next [some (.own (ts3.map D.int)), some (.val (.int c)), some (.val (.int n)), some (.val (.int d)), some (.val (.int y)), some (.val (.tup ((evens n d).map D.int))), o.sl, some (.val (.tup (rs.map runD))), none, none] := by
    refine exec_range (i := 6) (a := .bi .len (.cons (.var 7) .nil)) (b := bd__law_stream_hold_1) (n := rs.length) (by omega) (StI ts3 n d y c (evens n d) rs) (fun r => ∃ o : Fr, r = .ok .next [some (.own (ts3.map D.int)), some (.val (.int c)), some (.val (.int n)), some (.val (.int d)), some (.val (.int y)), some (.val (.tup ((evens n d).map D.int))), o.sl, some (.val (.tup (rs.map runD))), none, none]) (by simp) ⟨.non, rfl⟩ (fun k e hk hi => ?_) (fun e hi => ?_)
    · obtain ⟨o, rfl⟩ := hi
      have ha : atD (rs.map runD) (k : Nat) = some (runD rs[k]) := at_nat (by rw [List.getElem?_map, List.getElem?_eq_getElem hk]; rfl)
      obtain ⟨_, w⟩ := hQ k hk
      unfold sRunD at w
      rw [eS k hk] at w
      have hr := hgood _ (List.getElem_mem hk)
      have h1 := hr.dn
      have h2 := hr.up
      have m1 : mulOk rs[k].2.1 c = true := mulOk_m (by omega) (by omega)
      simp [bd__law_stream_hold_1, w, ha, runD, m1, s2, mdc, myc]
      exact ⟨.val (.int k), rfl⟩
    · obtain ⟨o, rfl⟩ := hi
      exact ⟨o, rfl⟩
  have hld : lds (rs.map fun r => D.int ((r.1 : Int) - 1)) = true := by
    have := lds_ints (rs.map fun r => (r.1 : Int) - 1)
    rwa [List.map_map] at this
  have hsz : szs (rs.map fun r => D.int ((r.1 : Int) - 1)) = rs.length := by
    have := szs_ints (rs.map fun r => (r.1 : Int) - 1)
    rw [List.map_map, List.length_map] at this
    exact this
  generalize (rs.map fun r => D.int ((r.1 : Int) - 1)) = dd at k3 q3 hld hsz
  have j1 := just_same (N + 4) (.tup dd) (.tup dd) rfl (by simpa using hld) (by simp; omega)
  exact ⟨ts3, _, by simp [c__law_stream_hold, t1, t2, t3, ← hn, ← hd, ← hy, mdc, myc, k1, q2, k2, q3, k3, j1, q4]; rfl⟩
end Pw
set_option maxRecDepth 100000
namespace Pw
open Pv Pv.Pq
theorem eqv_ints (zs : List Int) : D.eqvs (zs.map D.int) (zs.map D.int) = true := by
  induction zs with
  | nil => rfl
  | cons z zs ih => simp [D.eqvs, D.eqv, ih]
theorem lay_ints (zs : List Int) : PySem.PyData.canLayAll0 (D.pys (zs.map D.int)) = true := by
  induction zs with
  | nil => rfl
  | cons z zs ih => simp [D.pys, D.py, PySem.PyData.canLayAll0, PySem.PyData.canLay0, ih]
theorem dep_ints (zs : List Int) : PySem.PyData.depthAll (D.pys (zs.map D.int)) = 0 := by
  induction zs with
  | nil => rfl
  | cons z zs ih => simp [D.pys, D.py, PySem.PyData.depthAll, PySem.PyData.depth, ih]
theorem eq_lst (zs : List Int) : eqD (.lst (zs.map D.int)) (.lst (zs.map D.int)) = some true := by
  have h : okD (.lst (zs.map D.int)) = true := by
    unfold okD PySem.SeqAt.shaped
    simp [D.py, PySem.PyData.canLay0, PySem.PyData.depth, lay_ints, dep_ints]
  unfold eqD
  simp [h, D.eqv, eqv_ints]
theorem eq_tup (zs : List Int) : eqD (.tup (zs.map D.int)) (.tup (zs.map D.int)) = some true := by
  have h : okD (.tup (zs.map D.int)) = true := by
    unfold okD PySem.SeqAt.shaped
    simp [D.py, PySem.PyData.canLay0, PySem.PyData.depth, lay_ints, dep_ints]
  unfold eqD
  simp [h, D.eqv, eqv_ints]
end Pw
set_option maxRecDepth 100000
namespace Pw
open Pv Pv.Pq
def PlE (zs ls : List Int) (c b way : Int) (w : D) (rs : List Run) (told : D) (o1 o2 o3 : Option Sl) : Es := [some (.val (.tup (zs.map D.int))), some (.val (.tup (ls.map D.int))), some (.val (.int c)), some (.val (.int b)), some (.val (.int way)), some (.val w), some (.val (.tup (rs.map runD))), some (.val told), o1, o2, o3]
def PlI (zs ls : List Int) (c b way : Int) (w : D) (rs : List Run) (told : D) (k : Nat) (e : Es) : Prop := ∃ o1 o2 o3 : Fr, e = PlE zs ls c b way w rs told o1.sl o2.sl o3.sl
def PlB (zs ls : List Int) (c b way : Int) (w : D) (rs : List Run) (told : D) (r : R Flow) : Prop := ∃ o1 o2 o3 : Fr, r = .ok .next (PlE zs ls c b way w rs told o1.sl o2.sl o3.sl)
theorem plays_loop (n : Nat) {zs ls : List Int} (hz : Asks zs) (c b way : Int) (hc : 1 ≤ c ∧ c ≤ 10 ^ 20) {w : D} (hw : Rw (.val w) ((grow c b zs).map D.int)) {rs : List Run} (hgood : ∀ r ∈ rs, RunOk zs (10 ^ 13) r) (hrl : rs.length ≤ 1000) (told : D) : PlB zs ls c b way w rs told (exec prog.prot (run prog (n + 4)) (mkD prog (run prog (n + 4))) prog.sub 5 prog.fuel lp__law_plays_hold_1 (PlE zs ls c b way w rs told none none none)) := by
  have hfew := hz.few
  have hg := grow_rising (b := b) (show 0 < c by omega) hz.rise
  have s2 : 2 ≤ sizeMax := by decide
  refine exec_for (xs := rs.map runD) (e1 := PlE zs ls c b way w rs told none none none) (PlI zs ls c b way w rs told) (PlB zs ls c b way w rs told) (by simp [it__law_plays_hold_1, PlE]) ⟨.non, .non, .non, by simp [it__law_plays_hold_1, PlE]; repeat' constructor⟩ (fun k x e hx hi => ?_) (fun e hi => ?_)
  · obtain ⟨o1, o2, o3, rfl⟩ := hi
    rw [List.getElem?_map, Option.map_eq_some_iff] at hx
    obtain ⟨r, hx, rfl⟩ := hx
    have hr := hgood r (List.mem_of_getElem? hx)
    obtain ⟨r1, u, v⟩ := r
    obtain ⟨y, y1, y2, hv⟩ := hr.len
    have l1 := hr.lo
    have l2 := hr.hi
    have l3 := hr.at'
    have l4 := hr.dn
    have l5 := hr.up
    simp only at hv l1 l2 l3 l4 l5
    subst hv
    obtain ⟨i, rfl⟩ : ∃ i, r1 = i + 1 := ⟨r1 - 1, by omega⟩
    obtain ⟨_, q1⟩ := lnext (n + 3) zs (by omega) hz.rise i (by omega) u y
    have yc : 1 ≤ y * c := by
      have : 1 * 1 ≤ y * c := Int.mul_le_mul y1 hc.1 (by omega) (by omega)
      omega
    have i1 : i < zs.length := by omega
    have e0 : zs.getD (i + 1 - 1) 0 = zs[i] := by rw [show i + 1 - 1 = i by omega, List.getD_eq_getElem?_getD, List.getElem?_eq_getElem i1]; rfl
    rw [e0] at l3
    have hb : (grow c b zs)[i + 1 - 1]'(by simp; omega) ≤ u * c + b := by
      rw [grow_at]
      have h1 := Int.mul_le_mul_of_nonneg_right l3 (show 0 ≤ c by omega)
      have h2 : zs[i + 1 - 1]'(by omega) * c = zs[i] * c := rfl
      omega
    have q2 : ∃ ce, run prog (n + 4) i_next_run [.val w, .val (.int ((i + 1 : Nat) : Int)), .val (.int (u * c + b)), .val (.int (y * c))] = .ok (.val (nextD (grow c b zs) (y * c) (i + 1, u * c + b))) (some (.val w) :: ce) := by
      have := nrun_ok n hw (by simp; omega) hg (i + 1) (by omega) (by simp; omega) (u * c + b) (y * c) hb yc
      exact this
    obtain ⟨_, q2⟩ := q2
    have m1 : mulOk u c = true := mulOk_m (by omega) (by omega)
    have m2 : mulOk y c = true := mulOk_m (by omega) (by omega)
    have e2 : u + y - u = y := by omega
    have e3 : ((i + 1 : Nat) : Int) = (i : Int) + 1 := by omega
    rw [e3] at q2
    unfold nextD at q2
    unfold lnextD at q1
    by_cases d : i + 1 < zs.length
    · rw [if_pos d] at q1
      rw [if_pos (by simpa using d)] at q2
      have hn := nextR_grow (c := c) (b := b) (y := y) (p := (i + 1, u)) (show 0 < c by omega) d
      simp only at hn
      rw [hn] at q2
      have hx2 : (nextR zs y (i + 1, u)).2 = max (u + y) zs[i + 1] := by
        unfold nextR
        simp only [List.getD_eq_getElem?_getD, List.getElem?_eq_getElem d, Option.getD_some]
      have hs := hz.small _ (List.getElem_mem d)
      have m3 : mulOk (nextR zs y (i + 1, u)).2 c = true := by
        rw [hx2]
        exact mulOk_m (by omega) (by omega)
      generalize nextR zs y (i + 1, u) = nx at q1 q2 m3
      obtain ⟨p, h⟩ := nx
      simp only [pairN] at q1 q2 m3
      simp [PlE, bd__law_plays_hold_1, runD, e2, q1, q2, m1, m2, m3, s2]
      exact ⟨.val (.tup [.int (i + 1), .int u, .int (u + y)]), .val (.tup [.int p, .int (h * c + b)]), .val (.tup [.int p, .int (h * c + b)]), rfl⟩
    · rw [if_neg d] at q1
      rw [if_neg (by simpa using d)] at q2
      simp [PlE, bd__law_plays_hold_1, runD, e2, q1, q2, m1, m2, s2]
      exact ⟨.val (.tup [.int (i + 1), .int u, .int (u + y)]), .val .non, .val .non, rfl⟩
  · obtain ⟨o1, o2, o3, rfl⟩ := hi
    exact ⟨o1, o2, o3, by simp [it__law_plays_hold_1, PlE]⟩
theorem plays_ok (n : Nat) {zs ls : List Int} (hz : Asks zs) (hl : ls.length = zs.length) (hy : ∀ y ∈ ls, 1 ≤ y ∧ y ≤ 9) (c b way : Int) (hc : 1 ≤ c ∧ c ≤ 10 ^ 20) : ∃ ce, run prog (n + 5) i__law_plays_hold [.val (.tup (zs.map D.int)), .val (.tup (ls.map D.int)), .val (.int c), .val (.int b), .val (.int way)] = .ok (.val (.bl true)) ce := by
  rw [run_body at__law_plays_hold _ rfl]
  have hfew := hz.few
  have hg := grow_rising (b := b) (show 0 < c by omega) hz.rise
  obtain ⟨_, q1⟩ := grown_ok (n + 3) zs c b (by omega) (by omega) (fun z h => by have := hz.small z h; omega)
  obtain ⟨_, q2⟩ := grown_ok (n + 3) ls c 0 (by omega) (by omega) (fun z h => by have := hy z h; omega)
  obtain ⟨_, q3⟩ := lruns (n + 2) zs ls (by omega) (by omega) hz.rise
  have hgood := runs_good hz (by omega) hy
  have hrl := runs_len zs ls
  have pos : ∀ x ∈ grow c 0 ls, 1 ≤ x := fun x h => by
    unfold grow at h
    obtain ⟨w, hw, rfl⟩ := List.mem_map.mp h
    have h1 := hy w hw
    have : 1 * 1 ≤ w * c := Int.mul_le_mul h1.1 hc.1 (by omega) (by omega)
    omega
  have hP : ∀ s t, Rw s ((grow c b zs).map D.int) → Rw t ((grow c 0 ls).map D.int) → ∃ ce, run prog (n + 4) i_played [s, t] = .ok (.val (.tup (((runs zs ls).map (growR c b)).map runD))) (some (walked s) :: some (walked t) :: ce) := fun s t hs ht => by
    have := played_ok n hs ht (by simp; omega) (by simp; omega) hg pos (by simp; omega)
    rwa [runs_grow (by omega)] at this
  have hC : ∀ s, Rw s ((grow c b zs).map D.int) → ∃ ce, run prog (n + 4) i_check_asks [s] = .ok (.val (.tup ((grow c b zs).map D.int))) (some (walked s) :: ce) := fun s hs => casks_ok (n + 1) hs hg
  have hL : ∀ w told, Rw (.val w) ((grow c b zs).map D.int) → _ := fun w told hw => plays_loop n (ls := ls) hz c b way hc hw hgood (by omega) told
  obtain ⟨_, q4⟩ := scaled_ok (n + 3) (runs zs ls) c b (by omega) (by omega) (fun r h => by
    have hr := hgood r h
    have h1 := hr.dn
    have h2 := hr.up
    obtain ⟨y, y1, y2, h3⟩ := hr.len
    omega)
  generalize runs zs ls = rs at *
  have j1 := just_same (n + 3) (.tup ((rs.map (growR c b)).map runD)) (.tup ((rs.map (growR c b)).map runD)) rfl (by simp [-List.map_map]) (by simp [-List.map_map]; omega)
  have j2 := just_same (n + 3) (.tup ((grow c b zs).map D.int)) (.tup ((grow c b zs).map D.int)) rfl (by simp) (by simp; omega)
  generalize (rs.map (growR c b)).map runD = tt at *
  by_cases hw : way = 1
  · subst hw
    have f1 := form_l (n + 3) ((grow c b zs).map D.int)
    have f2 := form_l (n + 3) ((grow c 0 ls).map D.int)
    have ee := eq_lst (grow c b zs)
    obtain ⟨_, p1⟩ := hP _ _ (.o _) (.o _)
    obtain ⟨_, p2⟩ := hC _ (.l _)
    obtain ⟨o1, o2, o3, p3⟩ := hL _ (.tup tt) (.l _)
    simp only [walked] at p1 p2
    simp only [PlE] at p3
    exact ⟨_, by simp [c__law_plays_hold, q1, q2, f1, f2, q3, p1, q4, j1, p2, j2, p3, ee]; repeat' constructor⟩
  · have f1 := form_t (n + 3) ((grow c b zs).map D.int) way hw
    have f2 := form_t (n + 3) ((grow c 0 ls).map D.int) way hw
    have ee := eq_tup (grow c b zs)
    obtain ⟨_, p1⟩ := hP _ _ (.t _) (.t _)
    obtain ⟨_, p2⟩ := hC _ (.t _)
    obtain ⟨o1, o2, o3, p3⟩ := hL _ (.tup tt) (.t _)
    simp only [walked] at p1 p2
    simp only [PlE] at p3
    exact ⟨_, by simp [c__law_plays_hold, q1, q2, f1, f2, q3, p1, q4, j1, p2, j2, p3, ee]; repeat' constructor⟩
end Pw
set_option maxRecDepth 100000
namespace Pw
open Pv Pv.Pq
def dueOf : List D := [.tup [.str "row", .int 1, .bl true], .tup [.str "case", .str "short", .bl true], .tup [.str "number", .int (-1), .bl true], .tup [.str "row", .tup [.int 0, .int (-2)], .bl true], .tup [.str "row", .int 1, .bl true], .tup [.str "number", .bl true, .bl true]]
theorem heard (v : Int) (h0 : 0 ≤ v) (h1 : v < 6) : ∃ d ce, atD dueOf v = some d ∧ ld d = true ∧ sz d ≤ 900000 ∧ run prog 8 i__law_heard [.val (.int v)] = .ok (.val d) ce := by
  obtain rfl | rfl | rfl | rfl | rfl | rfl : v = 0 ∨ v = 1 ∨ v = 2 ∨ v = 3 ∨ v = 4 ∨ v = 5 := by omega
  all_goals exact ⟨_, _, rfl, rfl, by simp, rfl⟩
theorem asks_nil : Asks [] := ⟨by simp, fun k h => by simp at h, by simp⟩
theorem pure_law (ns : List Int) : ∃ ce, run prog 9 i_law [.val (.lst (ns.map D.int))] = .ok (.val (.bl true)) ce := by
  rw [run_body at_law _ rfl]
  obtain ⟨ts, ce0, ht, q0⟩ := run_tape 7 ns
  obtain ⟨zs0, ts1, _, hne, hz0, ht1, q1⟩ := ask_row 6 ht
  obtain ⟨v2, ts2, a2, b2, ht2, q2⟩ := run_take 7 9 (by decide) ht1
  obtain ⟨c, ts3, hc, ht3, q3⟩ := factor_ok 6 ht2
  obtain ⟨v4, ts4, a4, b4, ht4, q4⟩ := run_take 7 4 (by decide) ht3
  obtain ⟨b, hb⟩ : ∃ b : Int, atD [.int 0, .int (-5), .int 10000000000000000000000000000, .int (-100000000000000000000)] v4 = some (.int b) := by
    obtain rfl | rfl | rfl | rfl : v4 = 0 ∨ v4 = 1 ∨ v4 = 2 ∨ v4 = 3 := by omega
    · exact ⟨0, by simp⟩
    · exact ⟨-5, by simp⟩
    · exact ⟨10 ^ 28, by simp⟩
    · exact ⟨-(10 ^ 20), by simp⟩
  obtain ⟨way, ts5, a5, b5, ht5, q5⟩ := run_take 7 2 (by decide) ht4
  have s0 : 0 ≤ sizeMax := by decide
  have s2 : 2 ≤ sizeMax := by decide
  have s3 : 3 ≤ sizeMax := by decide
  have s4 : 4 ≤ sizeMax := by decide
  have s6 : 6 ≤ sizeMax := by decide
  have p1 : powOk 10 28 = true := by decide
  have p2 : powOk 10 20 = true := by decide
  have rest : ∀ zs, Asks zs → ∃ (ls ts6 : List Int) (v7 : Int) (ts7 ts8 ts9 : List Int) (pick : Int) (ts10 ts11 : List Int) (d : D) (ce1 ce2 ce3 ce4 ce5 ce6 ce7 : Es), run prog 8 i__law_lens [.own (ts5.map D.int), .val (.int zs.length)] = .ok (.val (.tup (ls.map D.int))) (some (.own (ts6.map D.int)) :: some (.val (.int zs.length)) :: ce1)
      ∧ run prog 8 i__law_plays_hold [.val (.tup (zs.map D.int)), .val (.tup (ls.map D.int)), .val (.int c), .val (.int b), .val (.int way)] = .ok (.val (.bl true)) ce2
      ∧ run prog 8 i__law_take [.own (ts6.map D.int), .val (.int 9)] = .ok (.val (.int v7)) [some (.own (ts7.map D.int)), some (.val (.int 9))]
      ∧ run prog 8 i__law_chains_hold [.val (.tup (zs.map D.int)), .val (.int (1 + v7)), .val (.int c), .val (.int b)] = .ok (.val (.bl true)) ce3
      ∧ run prog 8 i__law_newest_hold [.own (ts7.map D.int), .val (.tup (zs.map D.int)), .val (.int c), .val (.int b)] = .ok (.val (.bl true)) (some (.own (ts8.map D.int)) :: some (.val (.tup (zs.map D.int))) :: some (.val (.int c)) :: some (.val (.int b)) :: ce4)
      ∧ run prog 8 i__law_later_hold [.own (ts8.map D.int), .val (.tup (zs.map D.int)), .val (.tup (ls.map D.int)), .val (.int c), .val (.int b)] = .ok (.val (.bl true)) (some (.own (ts9.map D.int)) :: some (.val (.tup (zs.map D.int))) :: some (.val (.tup (ls.map D.int))) :: some (.val (.int c)) :: some (.val (.int b)) :: ce5)
      ∧ run prog 8 i__law_take [.own (ts9.map D.int), .val (.int 6)] = .ok (.val (.int pick)) [some (.own (ts10.map D.int)), some (.val (.int 6))]
      ∧ atD dueOf pick = some d ∧ run prog 8 i__law_heard [.val (.int pick)] = .ok (.val d) ce6
      ∧ run prog 8 i__law_just [.val d, .val d] = .ok (.val (.bl true)) (some (.val d) :: some (.val d) :: tlJ 7 d d)
      ∧ run prog 8 i__law_stream_hold [.own (ts10.map D.int), .val (.int c)] = .ok (.val (.bl true)) (some (.own (ts11.map D.int)) :: some (.val (.int c)) :: ce7) := fun zs hz => by
    have hfew := hz.few
    obtain ⟨ls, ts6, ce1, l1, l2, ht6, r1⟩ := lens_ok 6 zs.length (by omega) ht5
    obtain ⟨ce2, r2⟩ := plays_ok 3 hz l1 l2 c b way hc
    obtain ⟨v7, ts7, a7, b7, ht7, r3⟩ := run_take 7 9 (by decide) ht6
    obtain ⟨ce3, r4⟩ := chains_ok 3 hz (1 + v7) c b (by omega) hc
    obtain ⟨ts8, ce4, ht8, r5⟩ := newesthold_ok 3 hz c b hc ht7
    obtain ⟨ts9, ce5, ht9, r6⟩ := laterhold_ok 3 hz l1 l2 c b hc ht8
    obtain ⟨pick, ts10, a10, b10, ht10, r7⟩ := run_take 7 6 (by decide) ht9
    obtain ⟨d, ce6, d1, d2, d3, r8⟩ := heard pick a10 b10
    obtain ⟨ts11, ce7, r9⟩ := stream_ok 2 c hc ht10
    exact ⟨ls, ts6, v7, ts7, ts8, ts9, pick, ts10, ts11, d, ce1, ce2, ce3, ce4, ce5, ce6, ce7, r1, r2, r3, r4, r5, r6, r7, d1, r8, just_same 7 d d rfl d2 d3, r9⟩
  by_cases w : v2 = 8
  · subst w
    obtain ⟨ls, ts6, v7, ts7, ts8, ts9, pick, ts10, ts11, d, ce1, ce2, ce3, ce4, ce5, ce6, ce7, r1, r2, r3, r4, r5, r6, r7, d1, r8, r9, r10⟩ := rest [] asks_nil
    unfold dueOf at d1
    simp at r1 r2 r4 r5 r6
    exact ⟨_, by
      simp [c_law, q0, q1, q2, q3, q4, hb, q5, p1, p2, s0, s2, s3, s4, s6, r1, r2, r3, r4, r5, r6, r7, d1, r8, r9, r10]
      rfl⟩
  · obtain ⟨ls, ts6, v7, ts7, ts8, ts9, pick, ts10, ts11, d, ce1, ce2, ce3, ce4, ce5, ce6, ce7, r1, r2, r3, r4, r5, r6, r7, d1, r8, r9, r10⟩ := rest zs0 hz0
    unfold dueOf at d1
    exact ⟨_, by
      simp [c_law, q0, q1, q2, w, q3, q4, hb, q5, p1, p2, s0, s2, s3, s4, s6, r1, r2, r3, r4, r5, r6, r7, d1, r8, r9, r10]
      rfl⟩
end Pw
set_option maxRecDepth 100000
namespace Pw
open PySem Pv PySem.Spec PyProof.Rows L2
def top (i : Nat) : Stmt := PySem.Challenge.pw_lastisdone_k63_chains_times_a_factor.main.body.getD i (.Pass ⟨0, 0, 0, 0⟩)
def ini (s : Stmt) : Stmt := match s with
  | .ClassDef _ _ _ b .. => b.getD 0 (.Pass ⟨0, 0, 0, 0⟩)
  | _ => .Pass ⟨0, 0, 0, 0⟩
abbrev s_tupled : Stmt := top 1
theorem sc_tupled : FnScope n_tupled ["thing"] (defScope s_tupled) := ⟨by decide +kernel, by decide +kernel, by decide +kernel, by decide +kernel, by decide +kernel, by decide +kernel, by decide +kernel⟩
theorem ck_tupled : chkB dat.G c_tupled.body ⟨n_tupled, defScope s_tupled, protL prog 0 c_tupled.np, true, none, true⟩ (defBody s_tupled) = true := by decide +kernel
def d_tupled : He.DefD := ⟨("tupled", none), "tupled", "tupled", defArgs s_tupled, defBody s_tupled, defScope s_tupled, [], []⟩
abbrev s_is_int : Stmt := top 8
theorem sc_is_int : FnScope n_is_int ["x"] (defScope s_is_int) := ⟨by decide +kernel, by decide +kernel, by decide +kernel, by decide +kernel, by decide +kernel, by decide +kernel, by decide +kernel⟩
theorem ck_is_int : chkB dat.G c_is_int.body ⟨n_is_int, defScope s_is_int, protL prog 1 c_is_int.np, true, none, true⟩ (defBody s_is_int) = true := by decide +kernel
def d_is_int : He.DefD := ⟨("is_int", none), "is_int", "is_int", defArgs s_is_int, defBody s_is_int, defScope s_is_int, [], []⟩
abbrev s_check_number : Stmt := top 9
theorem sc_check_number : FnScope n_check_number ["x", "least"] (defScope s_check_number) := ⟨by decide +kernel, by decide +kernel, by decide +kernel, by decide +kernel, by decide +kernel, by decide +kernel, by decide +kernel⟩
theorem ck_check_number : chkB dat.G c_check_number.body ⟨n_check_number, defScope s_check_number, protL prog 2 c_check_number.np, true, none, true⟩ (defBody s_check_number) = true := by decide +kernel
def d_check_number : He.DefD := ⟨("check_number", none), "check_number", "check_number", defArgs s_check_number, defBody s_check_number, defScope s_check_number, [], []⟩
abbrev s_check_asks : Stmt := top 11
theorem sc_check_asks : FnScope n_check_asks ["asks"] (defScope s_check_asks) := ⟨by decide +kernel, by decide +kernel, by decide +kernel, by decide +kernel, by decide +kernel, by decide +kernel, by decide +kernel⟩
theorem ck_check_asks : chkB dat.G c_check_asks.body ⟨n_check_asks, defScope s_check_asks, protL prog 3 c_check_asks.np, true, none, true⟩ (defBody s_check_asks) = true := by decide +kernel
def d_check_asks : He.DefD := ⟨("check_asks", none), "check_asks", "check_asks", defArgs s_check_asks, defBody s_check_asks, defScope s_check_asks, [], []⟩
abbrev s_check_change : Stmt := top 12
theorem sc_check_change : FnScope n_check_change ["row", "i"] (defScope s_check_change) := ⟨by decide +kernel, by decide +kernel, by decide +kernel, by decide +kernel, by decide +kernel, by decide +kernel, by decide +kernel⟩
theorem ck_check_change : chkB dat.G c_check_change.body ⟨n_check_change, defScope s_check_change, protL prog 4 c_check_change.np, true, none, true⟩ (defBody s_check_change) = true := by decide +kernel
def d_check_change : He.DefD := ⟨("check_change", none), "check_change", "check_change", defArgs s_check_change, defBody s_check_change, defScope s_check_change, [], []⟩
abbrev s_number_ahead : Stmt := top 13
theorem sc_number_ahead : FnScope n_number_ahead ["row", "h"] (defScope s_number_ahead) := ⟨by decide +kernel, by decide +kernel, by decide +kernel, by decide +kernel, by decide +kernel, by decide +kernel, by decide +kernel⟩
theorem ck_number_ahead : chkB dat.G c_number_ahead.body ⟨n_number_ahead, defScope s_number_ahead, protL prog 5 c_number_ahead.np, true, none, true⟩ (defBody s_number_ahead) = true := by decide +kernel
def d_number_ahead : He.DefD := ⟨("number_ahead", none), "number_ahead", "number_ahead", defArgs s_number_ahead, defBody s_number_ahead, defScope s_number_ahead, [], []⟩
abbrev s_run_behind : Stmt := top 14
theorem sc_run_behind : FnScope n_run_behind ["row", "i", "b", "y"] (defScope s_run_behind) := ⟨by decide +kernel, by decide +kernel, by decide +kernel, by decide +kernel, by decide +kernel, by decide +kernel, by decide +kernel⟩
theorem ck_run_behind : chkB dat.G c_run_behind.body ⟨n_run_behind, defScope s_run_behind, protL prog 6 c_run_behind.np, true, none, true⟩ (defBody s_run_behind) = true := by decide +kernel
def d_run_behind : He.DefD := ⟨("run_behind", none), "run_behind", "run_behind", defArgs s_run_behind, defBody s_run_behind, defScope s_run_behind, [], []⟩
abbrev s_next_run : Stmt := top 15
theorem sc_next_run : FnScope n_next_run ["asks", "i", "b", "y"] (defScope s_next_run) := ⟨by decide +kernel, by decide +kernel, by decide +kernel, by decide +kernel, by decide +kernel, by decide +kernel, by decide +kernel⟩
theorem ck_next_run : chkB dat.G c_next_run.body ⟨n_next_run, defScope s_next_run, protL prog 7 c_next_run.np, true, none, true⟩ (defBody s_next_run) = true := by decide +kernel
def d_next_run : He.DefD := ⟨("next_run", none), "next_run", "next_run", defArgs s_next_run, defBody s_next_run, defScope s_next_run, [], []⟩
abbrev s_newest_before : Stmt := top 16
theorem sc_newest_before : FnScope n_newest_before ["asks", "h"] (defScope s_newest_before) := ⟨by decide +kernel, by decide +kernel, by decide +kernel, by decide +kernel, by decide +kernel, by decide +kernel, by decide +kernel⟩
theorem ck_newest_before : chkB dat.G c_newest_before.body ⟨n_newest_before, defScope s_newest_before, protL prog 8 c_newest_before.np, true, none, true⟩ (defBody s_newest_before) = true := by decide +kernel
def d_newest_before : He.DefD := ⟨("newest_before", none), "newest_before", "newest_before", defArgs s_newest_before, defBody s_newest_before, defScope s_newest_before, [], []⟩
abbrev s_check_lens : Stmt := top 18
theorem sc_check_lens : FnScope n_check_lens ["lens", "side"] (defScope s_check_lens) := ⟨by decide +kernel, by decide +kernel, by decide +kernel, by decide +kernel, by decide +kernel, by decide +kernel, by decide +kernel⟩
theorem ck_check_lens : chkB dat.G c_check_lens.body ⟨n_check_lens, defScope s_check_lens, protL prog 9 c_check_lens.np, true, none, true⟩ (defBody s_check_lens) = true := by decide +kernel
def d_check_lens : He.DefD := ⟨("check_lens", none), "check_lens", "check_lens", defArgs s_check_lens, defBody s_check_lens, defScope s_check_lens, [], []⟩
abbrev s_rows_of_runs : Stmt := top 19
theorem sc_rows_of_runs : FnScope n_rows_of_runs ["row", "lens"] (defScope s_rows_of_runs) := ⟨by decide +kernel, by decide +kernel, by decide +kernel, by decide +kernel, by decide +kernel, by decide +kernel, by decide +kernel⟩
theorem ck_rows_of_runs : chkB dat.G c_rows_of_runs.body ⟨n_rows_of_runs, defScope s_rows_of_runs, protL prog 10 c_rows_of_runs.np, true, none, true⟩ (defBody s_rows_of_runs) = true := by decide +kernel
def d_rows_of_runs : He.DefD := ⟨("rows_of_runs", none), "rows_of_runs", "rows_of_runs", defArgs s_rows_of_runs, defBody s_rows_of_runs, defScope s_rows_of_runs, [], []⟩
abbrev s_played : Stmt := top 20
theorem sc_played : FnScope n_played ["asks", "lens"] (defScope s_played) := ⟨by decide +kernel, by decide +kernel, by decide +kernel, by decide +kernel, by decide +kernel, by decide +kernel, by decide +kernel⟩
theorem ck_played : chkB dat.G c_played.body ⟨n_played, defScope s_played, protL prog 11 c_played.np, true, none, true⟩ (defBody s_played) = true := by decide +kernel
def d_played : He.DefD := ⟨("played", none), "played", "played", defArgs s_played, defBody s_played, defScope s_played, [], []⟩
abbrev s_chain_of : Stmt := top 22
theorem sc_chain_of : FnScope n_chain_of ["row", "y"] (defScope s_chain_of) := ⟨by decide +kernel, by decide +kernel, by decide +kernel, by decide +kernel, by decide +kernel, by decide +kernel, by decide +kernel⟩
theorem ck_chain_of : chkB dat.G c_chain_of.body ⟨n_chain_of, defScope s_chain_of, protL prog 12 c_chain_of.np, true, none, true⟩ (defBody s_chain_of) = true := by decide +kernel
def d_chain_of : He.DefD := ⟨("chain_of", none), "chain_of", "chain_of", defArgs s_chain_of, defBody s_chain_of, defScope s_chain_of, [], []⟩
abbrev s_chain_rows : Stmt := top 23
theorem sc_chain_rows : FnScope n_chain_rows ["asks", "y"] (defScope s_chain_rows) := ⟨by decide +kernel, by decide +kernel, by decide +kernel, by decide +kernel, by decide +kernel, by decide +kernel, by decide +kernel⟩
theorem ck_chain_rows : chkB dat.G c_chain_rows.body ⟨n_chain_rows, defScope s_chain_rows, protL prog 13 c_chain_rows.np, true, none, true⟩ (defBody s_chain_rows) = true := by decide +kernel
def d_chain_rows : He.DefD := ⟨("chain_rows", none), "chain_rows", "chain_rows", defArgs s_chain_rows, defBody s_chain_rows, defScope s_chain_rows, [], []⟩
abbrev s_run_number : Stmt := top 24
theorem sc_run_number : FnScope n_run_number ["asks", "y"] (defScope s_run_number) := ⟨by decide +kernel, by decide +kernel, by decide +kernel, by decide +kernel, by decide +kernel, by decide +kernel, by decide +kernel⟩
theorem ck_run_number : chkB dat.G c_run_number.body ⟨n_run_number, defScope s_run_number, protL prog 14 c_run_number.np, true, none, true⟩ (defBody s_run_number) = true := by decide +kernel
def d_run_number : He.DefD := ⟨("run_number", none), "run_number", "run_number", defArgs s_run_number, defBody s_run_number, defScope s_run_number, [], []⟩
abbrev s_later_chain : Stmt := top 25
theorem sc_later_chain : FnScope n_later_chain ["asks", "lens", "others"] (defScope s_later_chain) := ⟨by decide +kernel, by decide +kernel, by decide +kernel, by decide +kernel, by decide +kernel, by decide +kernel, by decide +kernel⟩
theorem ck_later_chain : chkB dat.G c_later_chain.body ⟨n_later_chain, defScope s_later_chain, protL prog 15 c_later_chain.np, true, none, true⟩ (defBody s_later_chain) = true := by decide +kernel
def d_later_chain : He.DefD := ⟨("later_chain", none), "later_chain", "later_chain", defArgs s_later_chain, defBody s_later_chain, defScope s_later_chain, [], []⟩
abbrev s_check_change_at : Stmt := top 28
theorem sc_check_change_at : FnScope n_check_change_at ["i", "n"] (defScope s_check_change_at) := ⟨by decide +kernel, by decide +kernel, by decide +kernel, by decide +kernel, by decide +kernel, by decide +kernel, by decide +kernel⟩
theorem ck_check_change_at : chkB dat.G c_check_change_at.body ⟨n_check_change_at, defScope s_check_change_at, protL prog 16 c_check_change_at.np, true, none, true⟩ (defBody s_check_change_at) = true := by decide +kernel
def d_check_change_at : He.DefD := ⟨("check_change_at", none), "check_change_at", "check_change_at", defArgs s_check_change_at, defBody s_check_change_at, defScope s_check_change_at, [], []⟩
abbrev s_is_calm : Stmt := top 29
theorem sc_is_calm : FnScope n_is_calm ["n", "d", "z"] (defScope s_is_calm) := ⟨by decide +kernel, by decide +kernel, by decide +kernel, by decide +kernel, by decide +kernel, by decide +kernel, by decide +kernel⟩
theorem ck_is_calm : chkB dat.G c_is_calm.body ⟨n_is_calm, defScope s_is_calm, protL prog 17 c_is_calm.np, true, none, true⟩ (defBody s_is_calm) = true := by decide +kernel
def d_is_calm : He.DefD := ⟨("is_calm", none), "is_calm", "is_calm", defArgs s_is_calm, defBody s_is_calm, defScope s_is_calm, [], []⟩
abbrev s_final_run : Stmt := top 30
theorem sc_final_run : FnScope n_final_run ["n", "d", "z"] (defScope s_final_run) := ⟨by decide +kernel, by decide +kernel, by decide +kernel, by decide +kernel, by decide +kernel, by decide +kernel, by decide +kernel⟩
theorem ck_final_run : chkB dat.G c_final_run.body ⟨n_final_run, defScope s_final_run, protL prog 18 c_final_run.np, true, none, true⟩ (defBody s_final_run) = true := by decide +kernel
def d_final_run : He.DefD := ⟨("final_run", none), "final_run", "final_run", defArgs s_final_run, defBody s_final_run, defScope s_final_run, [], []⟩
abbrev s_steady_count : Stmt := top 31
theorem sc_steady_count : FnScope n_steady_count ["n", "d", "z"] (defScope s_steady_count) := ⟨by decide +kernel, by decide +kernel, by decide +kernel, by decide +kernel, by decide +kernel, by decide +kernel, by decide +kernel⟩
theorem ck_steady_count : chkB dat.G c_steady_count.body ⟨n_steady_count, defScope s_steady_count, protL prog 19 c_steady_count.np, true, none, true⟩ (defBody s_steady_count) = true := by decide +kernel
def d_steady_count : He.DefD := ⟨("steady_count", none), "steady_count", "steady_count", defArgs s_steady_count, defBody s_steady_count, defScope s_steady_count, [], []⟩
abbrev s_steady_run : Stmt := top 32
theorem sc_steady_run : FnScope n_steady_run ["n", "d", "z", "j"] (defScope s_steady_run) := ⟨by decide +kernel, by decide +kernel, by decide +kernel, by decide +kernel, by decide +kernel, by decide +kernel, by decide +kernel⟩
theorem ck_steady_run : chkB dat.G c_steady_run.body ⟨n_steady_run, defScope s_steady_run, protL prog 20 c_steady_run.np, true, none, true⟩ (defBody s_steady_run) = true := by decide +kernel
def d_steady_run : He.DefD := ⟨("steady_run", none), "steady_run", "steady_run", defArgs s_steady_run, defBody s_steady_run, defScope s_steady_run, [], []⟩
abbrev s_steady_list : Stmt := top 33
theorem sc_steady_list : FnScope n_steady_list ["n", "d", "z"] (defScope s_steady_list) := ⟨by decide +kernel, by decide +kernel, by decide +kernel, by decide +kernel, by decide +kernel, by decide +kernel, by decide +kernel⟩
theorem ck_steady_list : chkB dat.G c_steady_list.body ⟨n_steady_list, defScope s_steady_list, protL prog 21 c_steady_list.np, true, none, true⟩ (defBody s_steady_list) = true := by decide +kernel
def d_steady_list : He.DefD := ⟨("steady_list", none), "steady_list", "steady_list", defArgs s_steady_list, defBody s_steady_list, defScope s_steady_list, [], []⟩
abbrev s_stay_run : Stmt := top 34
theorem sc_stay_run : FnScope n_stay_run ["n", "d", "z", "j"] (defScope s_stay_run) := ⟨by decide +kernel, by decide +kernel, by decide +kernel, by decide +kernel, by decide +kernel, by decide +kernel, by decide +kernel⟩
theorem ck_stay_run : chkB dat.G c_stay_run.body ⟨n_stay_run, defScope s_stay_run, protL prog 22 c_stay_run.np, true, none, true⟩ (defBody s_stay_run) = true := by decide +kernel
def d_stay_run : He.DefD := ⟨("stay_run", none), "stay_run", "stay_run", defArgs s_stay_run, defBody s_stay_run, defScope s_stay_run, [], []⟩
abbrev s_stay_done : Stmt := top 35
theorem sc_stay_done : FnScope n_stay_done ["n", "d", "z"] (defScope s_stay_done) := ⟨by decide +kernel, by decide +kernel, by decide +kernel, by decide +kernel, by decide +kernel, by decide +kernel, by decide +kernel⟩
theorem ck_stay_done : chkB dat.G c_stay_done.body ⟨n_stay_done, defScope s_stay_done, protL prog 23 c_stay_done.np, true, none, true⟩ (defBody s_stay_done) = true := by decide +kernel
def d_stay_done : He.DefD := ⟨("stay_done", none), "stay_done", "stay_done", defArgs s_stay_done, defBody s_stay_done, defScope s_stay_done, [], []⟩
abbrev s__law_tape : Stmt := top 37
theorem sc__law_tape : FnScope n__law_tape ["script"] (defScope s__law_tape) := ⟨by decide +kernel, by decide +kernel, by decide +kernel, by decide +kernel, by decide +kernel, by decide +kernel, by decide +kernel⟩
theorem ck__law_tape : chkB dat.G c__law_tape.body ⟨n__law_tape, defScope s__law_tape, protL prog 24 c__law_tape.np, true, none, true⟩ (defBody s__law_tape) = true := by decide +kernel
def d__law_tape : He.DefD := ⟨("_law_tape", none), "_law_tape", "_law_tape", defArgs s__law_tape, defBody s__law_tape, defScope s__law_tape, [], []⟩
abbrev s__law_take : Stmt := top 38
theorem sc__law_take : FnScope n__law_take ["tape", "many"] (defScope s__law_take) := ⟨by decide +kernel, by decide +kernel, by decide +kernel, by decide +kernel, by decide +kernel, by decide +kernel, by decide +kernel⟩
theorem ck__law_take : chkB dat.G c__law_take.body ⟨n__law_take, defScope s__law_take, protL prog 25 c__law_take.np, true, none, true⟩ (defBody s__law_take) = true := by decide +kernel
def d__law_take : He.DefD := ⟨("_law_take", none), "_law_take", "_law_take", defArgs s__law_take, defBody s__law_take, defScope s__law_take, [], []⟩
abbrev s__law_just : Stmt := top 39
theorem sc__law_just : FnScope n__law_just ["told", "due"] (defScope s__law_just) := ⟨by decide +kernel, by decide +kernel, by decide +kernel, by decide +kernel, by decide +kernel, by decide +kernel, by decide +kernel⟩
theorem ck__law_just : chkB dat.G c__law_just.body ⟨n__law_just, defScope s__law_just, protL prog 26 c__law_just.np, true, none, true⟩ (defBody s__law_just) = true := by decide +kernel
def d__law_just : He.DefD := ⟨("_law_just", none), "_law_just", "_law_just", defArgs s__law_just, defBody s__law_just, defScope s__law_just, [], []⟩
abbrev s__law_ask_row : Stmt := top 40
theorem sc__law_ask_row : FnScope n__law_ask_row ["tape", "most"] (defScope s__law_ask_row) := ⟨by decide +kernel, by decide +kernel, by decide +kernel, by decide +kernel, by decide +kernel, by decide +kernel, by decide +kernel⟩
theorem ck__law_ask_row : chkB dat.G c__law_ask_row.body ⟨n__law_ask_row, defScope s__law_ask_row, protL prog 27 c__law_ask_row.np, true, none, true⟩ (defBody s__law_ask_row) = true := by decide +kernel
def d__law_ask_row : He.DefD := ⟨("_law_ask_row", none), "_law_ask_row", "_law_ask_row", defArgs s__law_ask_row, defBody s__law_ask_row, defScope s__law_ask_row, [], []⟩
abbrev s__law_next : Stmt := top 41
theorem sc__law_next : FnScope n__law_next ["asks", "i", "begin", "y"] (defScope s__law_next) := ⟨by decide +kernel, by decide +kernel, by decide +kernel, by decide +kernel, by decide +kernel, by decide +kernel, by decide +kernel⟩
theorem ck__law_next : chkB dat.G c__law_next.body ⟨n__law_next, defScope s__law_next, protL prog 28 c__law_next.np, true, none, true⟩ (defBody s__law_next) = true := by decide +kernel
def d__law_next : He.DefD := ⟨("_law_next", none), "_law_next", "_law_next", defArgs s__law_next, defBody s__law_next, defScope s__law_next, [], []⟩
abbrev s__law_factor : Stmt := top 42
theorem sc__law_factor : FnScope n__law_factor ["tape"] (defScope s__law_factor) := ⟨by decide +kernel, by decide +kernel, by decide +kernel, by decide +kernel, by decide +kernel, by decide +kernel, by decide +kernel⟩
theorem ck__law_factor : chkB dat.G c__law_factor.body ⟨n__law_factor, defScope s__law_factor, protL prog 29 c__law_factor.np, true, none, true⟩ (defBody s__law_factor) = true := by decide +kernel
def d__law_factor : He.DefD := ⟨("_law_factor", none), "_law_factor", "_law_factor", defArgs s__law_factor, defBody s__law_factor, defScope s__law_factor, [], []⟩
abbrev s__law_grown : Stmt := top 43
theorem sc__law_grown : FnScope n__law_grown ["row", "c", "by"] (defScope s__law_grown) := ⟨by decide +kernel, by decide +kernel, by decide +kernel, by decide +kernel, by decide +kernel, by decide +kernel, by decide +kernel⟩
theorem ck__law_grown : chkB dat.G c__law_grown.body ⟨n__law_grown, defScope s__law_grown, protL prog 30 c__law_grown.np, true, none, true⟩ (defBody s__law_grown) = true := by decide +kernel
def d__law_grown : He.DefD := ⟨("_law_grown", none), "_law_grown", "_law_grown", defArgs s__law_grown, defBody s__law_grown, defScope s__law_grown, [], []⟩
abbrev s__law_lens : Stmt := top 44
theorem sc__law_lens : FnScope n__law_lens ["tape", "many"] (defScope s__law_lens) := ⟨by decide +kernel, by decide +kernel, by decide +kernel, by decide +kernel, by decide +kernel, by decide +kernel, by decide +kernel⟩
theorem ck__law_lens : chkB dat.G c__law_lens.body ⟨n__law_lens, defScope s__law_lens, protL prog 31 c__law_lens.np, true, none, true⟩ (defBody s__law_lens) = true := by decide +kernel
def d__law_lens : He.DefD := ⟨("_law_lens", none), "_law_lens", "_law_lens", defArgs s__law_lens, defBody s__law_lens, defScope s__law_lens, [], []⟩
abbrev s__law_runs : Stmt := top 45
theorem sc__law_runs : FnScope n__law_runs ["asks", "lens"] (defScope s__law_runs) := ⟨by decide +kernel, by decide +kernel, by decide +kernel, by decide +kernel, by decide +kernel, by decide +kernel, by decide +kernel⟩
theorem ck__law_runs : chkB dat.G c__law_runs.body ⟨n__law_runs, defScope s__law_runs, protL prog 32 c__law_runs.np, true, none, true⟩ (defBody s__law_runs) = true := by decide +kernel
def d__law_runs : He.DefD := ⟨("_law_runs", none), "_law_runs", "_law_runs", defArgs s__law_runs, defBody s__law_runs, defScope s__law_runs, [], []⟩
abbrev s__law_scaled : Stmt := top 46
theorem sc__law_scaled : FnScope n__law_scaled ["rows", "c", "by"] (defScope s__law_scaled) := ⟨by decide +kernel, by decide +kernel, by decide +kernel, by decide +kernel, by decide +kernel, by decide +kernel, by decide +kernel⟩
theorem ck__law_scaled : chkB dat.G c__law_scaled.body ⟨n__law_scaled, defScope s__law_scaled, protL prog 33 c__law_scaled.np, true, none, true⟩ (defBody s__law_scaled) = true := by decide +kernel
def d__law_scaled : He.DefD := ⟨("_law_scaled", none), "_law_scaled", "_law_scaled", defArgs s__law_scaled, defBody s__law_scaled, defScope s__law_scaled, [], []⟩
abbrev s__law_form : Stmt := top 47
theorem sc__law_form : FnScope n__law_form ["row", "way"] (defScope s__law_form) := ⟨by decide +kernel, by decide +kernel, by decide +kernel, by decide +kernel, by decide +kernel, by decide +kernel, by decide +kernel⟩
theorem ck__law_form : chkB dat.G c__law_form.body ⟨n__law_form, defScope s__law_form, protL prog 34 c__law_form.np, true, none, true⟩ (defBody s__law_form) = true := by decide +kernel
def d__law_form : He.DefD := ⟨("_law_form", none), "_law_form", "_law_form", defArgs s__law_form, defBody s__law_form, defScope s__law_form, [], []⟩
abbrev s__law_plays_hold : Stmt := top 48
theorem sc__law_plays_hold : FnScope n__law_plays_hold ["asks", "lens", "c", "by", "way"] (defScope s__law_plays_hold) := ⟨by decide +kernel, by decide +kernel, by decide +kernel, by decide +kernel, by decide +kernel, by decide +kernel, by decide +kernel⟩
theorem ck__law_plays_hold : chkB dat.G c__law_plays_hold.body ⟨n__law_plays_hold, defScope s__law_plays_hold, protL prog 35 c__law_plays_hold.np, true, none, true⟩ (defBody s__law_plays_hold) = true := by decide +kernel
def d__law_plays_hold : He.DefD := ⟨("_law_plays_hold", none), "_law_plays_hold", "_law_plays_hold", defArgs s__law_plays_hold, defBody s__law_plays_hold, defScope s__law_plays_hold, [], []⟩
abbrev s__law_chains_hold : Stmt := top 49
theorem sc__law_chains_hold : FnScope n__law_chains_hold ["asks", "y", "c", "by"] (defScope s__law_chains_hold) := ⟨by decide +kernel, by decide +kernel, by decide +kernel, by decide +kernel, by decide +kernel, by decide +kernel, by decide +kernel⟩
theorem ck__law_chains_hold : chkB dat.G c__law_chains_hold.body ⟨n__law_chains_hold, defScope s__law_chains_hold, protL prog 36 c__law_chains_hold.np, true, none, true⟩ (defBody s__law_chains_hold) = true := by decide +kernel
def d__law_chains_hold : He.DefD := ⟨("_law_chains_hold", none), "_law_chains_hold", "_law_chains_hold", defArgs s__law_chains_hold, defBody s__law_chains_hold, defScope s__law_chains_hold, [], []⟩
abbrev s__law_newest_hold : Stmt := top 50
theorem sc__law_newest_hold : FnScope n__law_newest_hold ["tape", "asks", "c", "by"] (defScope s__law_newest_hold) := ⟨by decide +kernel, by decide +kernel, by decide +kernel, by decide +kernel, by decide +kernel, by decide +kernel, by decide +kernel⟩
theorem ck__law_newest_hold : chkB dat.G c__law_newest_hold.body ⟨n__law_newest_hold, defScope s__law_newest_hold, protL prog 37 c__law_newest_hold.np, true, none, true⟩ (defBody s__law_newest_hold) = true := by decide +kernel
def d__law_newest_hold : He.DefD := ⟨("_law_newest_hold", none), "_law_newest_hold", "_law_newest_hold", defArgs s__law_newest_hold, defBody s__law_newest_hold, defScope s__law_newest_hold, [], []⟩
abbrev s__law_later : Stmt := top 51
theorem sc__law_later : FnScope n__law_later ["one", "two"] (defScope s__law_later) := ⟨by decide +kernel, by decide +kernel, by decide +kernel, by decide +kernel, by decide +kernel, by decide +kernel, by decide +kernel⟩
theorem ck__law_later : chkB dat.G c__law_later.body ⟨n__law_later, defScope s__law_later, protL prog 38 c__law_later.np, true, none, true⟩ (defBody s__law_later) = true := by decide +kernel
def d__law_later : He.DefD := ⟨("_law_later", none), "_law_later", "_law_later", defArgs s__law_later, defBody s__law_later, defScope s__law_later, [], []⟩
abbrev s__law_later_hold : Stmt := top 52
theorem sc__law_later_hold : FnScope n__law_later_hold ["tape", "asks", "lens", "c", "by"] (defScope s__law_later_hold) := ⟨by decide +kernel, by decide +kernel, by decide +kernel, by decide +kernel, by decide +kernel, by decide +kernel, by decide +kernel⟩
theorem ck__law_later_hold : chkB dat.G c__law_later_hold.body ⟨n__law_later_hold, defScope s__law_later_hold, protL prog 39 c__law_later_hold.np, true, none, true⟩ (defBody s__law_later_hold) = true := by decide +kernel
def d__law_later_hold : He.DefD := ⟨("_law_later_hold", none), "_law_later_hold", "_law_later_hold", defArgs s__law_later_hold, defBody s__law_later_hold, defScope s__law_later_hold, [], []⟩
abbrev s__law_stream_hold : Stmt := top 53
theorem sc__law_stream_hold : FnScope n__law_stream_hold ["tape", "c"] (defScope s__law_stream_hold) := ⟨by decide +kernel, by decide +kernel, by decide +kernel, by decide +kernel, by decide +kernel, by decide +kernel, by decide +kernel⟩
theorem ck__law_stream_hold : chkB dat.G c__law_stream_hold.body ⟨n__law_stream_hold, defScope s__law_stream_hold, protL prog 40 c__law_stream_hold.np, true, none, true⟩ (defBody s__law_stream_hold) = true := by decide +kernel
def d__law_stream_hold : He.DefD := ⟨("_law_stream_hold", none), "_law_stream_hold", "_law_stream_hold", defArgs s__law_stream_hold, defBody s__law_stream_hold, defScope s__law_stream_hold, [], []⟩
abbrev s__law_heard : Stmt := top 54
theorem sc__law_heard : FnScope n__law_heard ["pick"] (defScope s__law_heard) := ⟨by decide +kernel, by decide +kernel, by decide +kernel, by decide +kernel, by decide +kernel, by decide +kernel, by decide +kernel⟩
theorem ck__law_heard : chkB dat.G c__law_heard.body ⟨n__law_heard, defScope s__law_heard, protL prog 41 c__law_heard.np, true, none, true⟩ (defBody s__law_heard) = true := by decide +kernel
def d__law_heard : He.DefD := ⟨("_law_heard", none), "_law_heard", "_law_heard", defArgs s__law_heard, defBody s__law_heard, defScope s__law_heard, [], []⟩
abbrev s_law : Stmt := top 55
theorem sc_law : FnScope n_law ["script"] (defScope s_law) := ⟨by decide +kernel, by decide +kernel, by decide +kernel, by decide +kernel, by decide +kernel, by decide +kernel, by decide +kernel⟩
theorem ck_law : chkB dat.G c_law.body ⟨n_law, defScope s_law, protL prog 42 c_law.np, true, none, true⟩ (defBody s_law) = true := by decide +kernel
def d_law : He.DefD := ⟨("law", none), "law", "law", defArgs s_law, defBody s_law, defScope s_law, [], []⟩
end Pw
set_option maxRecDepth 100000
set_option maxHeartbeats 0
namespace Pw
open PySem PySem.Spec PyProof.Rows L2 Pv
abbrev nt_BadNumber : Stmt := ini (top 3)
def e_BadNumber : He.DefD := ⟨("BadNumber", some "__init__"), "__init__", "BadNumber.__init__", defArgs nt_BadNumber, defBody nt_BadNumber, defScope nt_BadNumber, [], []⟩
abbrev nt_BadRow : Stmt := ini (top 4)
def e_BadRow : He.DefD := ⟨("BadRow", some "__init__"), "__init__", "BadRow.__init__", defArgs nt_BadRow, defBody nt_BadRow, defScope nt_BadRow, [], []⟩
abbrev nt_BadCase : Stmt := ini (top 5)
def e_BadCase : He.DefD := ⟨("BadCase", some "__init__"), "__init__", "BadCase.__init__", defArgs nt_BadCase, defBody nt_BadCase, defScope nt_BadCase, [], []⟩
abbrev nt_TooMany : Stmt := ini (top 6)
def e_TooMany : He.DefD := ⟨("TooMany", some "__init__"), "__init__", "TooMany.__init__", defArgs nt_TooMany, defBody nt_TooMany, defScope nt_TooMany, [], []⟩
def fa : List He.Fa := [.glo "tupled", .glo "is_int", .glo "check_number", .glo "check_asks", .glo "check_change", .glo "number_ahead", .glo "run_behind", .glo "next_run", .glo "newest_before", .glo "check_lens", .glo "rows_of_runs", .glo "played", .glo "chain_of", .glo "chain_rows", .glo "run_number", .glo "later_chain", .glo "check_change_at", .glo "is_calm", .glo "final_run", .glo "steady_count", .glo "steady_run", .glo "steady_list", .glo "stay_run", .glo "stay_done", .glo "_law_tape", .glo "_law_take", .glo "_law_just", .glo "_law_ask_row", .glo "_law_next", .glo "_law_factor", .glo "_law_grown", .glo "_law_lens", .glo "_law_runs", .glo "_law_scaled", .glo "_law_form", .glo "_law_plays_hold", .glo "_law_chains_hold", .glo "_law_newest_hold", .glo "_law_later", .glo "_law_later_hold", .glo "_law_stream_hold", .glo "_law_heard", .glo "law", .free "len", .free "abs", .free "int", .free "list", .free "tuple", .free "sum", .free "max", .free "min", .free "sorted", .free "all", .free "any", .free "range", .free "isinstance", .free "bool", .free "str", .free "enumerate", .free "zip", .int "MOST_CHANGES" 4000]
def fn : List He.DefD := [d_tupled, d_is_int, d_check_number, d_check_asks, d_check_change, d_number_ahead, d_run_behind, d_next_run, d_newest_before, d_check_lens, d_rows_of_runs, d_played, d_chain_of, d_chain_rows, d_run_number, d_later_chain, d_check_change_at, d_is_calm, d_final_run, d_steady_count, d_steady_run, d_steady_list, d_stay_run, d_stay_done, d__law_tape, d__law_take, d__law_just, d__law_ask_row, d__law_next, d__law_factor, d__law_grown, d__law_lens, d__law_runs, d__law_scaled, d__law_form, d__law_plays_hold, d__law_chains_hold, d__law_newest_hold, d__law_later, d__law_later_hold, d__law_stream_hold, d__law_heard, d_law, e_BadNumber, e_BadRow, e_BadCase, e_TooMany]
def loose : List PySem.Str := [("tupled" : PySem.Str), ("is_int" : PySem.Str), ("check_number" : PySem.Str), ("check_asks" : PySem.Str), ("check_change" : PySem.Str), ("number_ahead" : PySem.Str), ("run_behind" : PySem.Str), ("next_run" : PySem.Str), ("newest_before" : PySem.Str), ("check_lens" : PySem.Str), ("rows_of_runs" : PySem.Str), ("played" : PySem.Str), ("chain_of" : PySem.Str), ("chain_rows" : PySem.Str), ("run_number" : PySem.Str), ("later_chain" : PySem.Str), ("check_change_at" : PySem.Str), ("is_calm" : PySem.Str), ("final_run" : PySem.Str), ("steady_count" : PySem.Str), ("steady_run" : PySem.Str), ("steady_list" : PySem.Str), ("stay_run" : PySem.Str), ("stay_done" : PySem.Str), ("_law_tape" : PySem.Str), ("_law_take" : PySem.Str), ("_law_just" : PySem.Str), ("_law_ask_row" : PySem.Str), ("_law_next" : PySem.Str), ("_law_factor" : PySem.Str), ("_law_grown" : PySem.Str), ("_law_lens" : PySem.Str), ("_law_runs" : PySem.Str), ("_law_scaled" : PySem.Str), ("_law_form" : PySem.Str), ("_law_plays_hold" : PySem.Str), ("_law_chains_hold" : PySem.Str), ("_law_newest_hold" : PySem.Str), ("_law_later" : PySem.Str), ("_law_later_hold" : PySem.Str), ("_law_stream_hold" : PySem.Str), ("_law_heard" : PySem.Str), ("DoneError" : PySem.Str), ("BadNumber" : PySem.Str), ("BadRow" : PySem.Str), ("BadCase" : PySem.Str), ("TooMany" : PySem.Str), ("MOST_CHANGES" : PySem.Str)]
abbrev R : PySem.W.OpenRow := PySem.W.OpenLaw.row PySem.Challenge.rw_lastisdone_k63_chains_times_a_factor
abbrev hk : PySem.W.Hook := hookP 6 (clsB dat) fa fn
def ob (s : PySem.W.SharedT) : He.AlD := obsP 6 (clsB dat) fa fn (HandSHeadRun.getT s)
theorem ob_eq (s : PySem.W.SharedT) : ob s = hk.obs s.abs := obsP_eq (HandSHeadRun.getT_eq s)
theorem run_ok (w : World) : HandSHeadRun.RunEq R (PySem.W.view R.prog [55]) hk ob 4000 loose w := by
  intro os
  kernel_rfl
section
variable {p : Program} {w : World} {K : PySem.W.Frag} {h : Heap} {mg : Str → Option Value}
theorem fd_tupled (X : K.In h) (G : h.Ns mainGlobals mg) (c : He.SaysD fa fn K) : FnD dat.G prog K mg 0 "tupled" := by
  obtain ⟨fd, F⟩ := c.def_ 0 (d := d_tupled) rfl
  exact ⟨_, fd, _, _, _, _, n_tupled, ["thing"], c_tupled, F, sc_tupled, He.glo_ok X G (c.fact 0 (f := .glo "tupled") rfl), F.bindsN (ps := ["thing"]) (fun _ _ _ _ _ _ us hl => match us, hl with | [_], _ => rfl), rfl, rfl, rfl, by decide, ck_tupled⟩
theorem fd_is_int (X : K.In h) (G : h.Ns mainGlobals mg) (c : He.SaysD fa fn K) : FnD dat.G prog K mg 1 "is_int" := by
  obtain ⟨fd, F⟩ := c.def_ 1 (d := d_is_int) rfl
  exact ⟨_, fd, _, _, _, _, n_is_int, ["x"], c_is_int, F, sc_is_int, He.glo_ok X G (c.fact 1 (f := .glo "is_int") rfl), F.bindsN (ps := ["x"]) (fun _ _ _ _ _ _ us hl => match us, hl with | [_], _ => rfl), rfl, rfl, rfl, by decide, ck_is_int⟩
theorem fd_check_number (X : K.In h) (G : h.Ns mainGlobals mg) (c : He.SaysD fa fn K) : FnD dat.G prog K mg 2 "check_number" := by
  obtain ⟨fd, F⟩ := c.def_ 2 (d := d_check_number) rfl
  exact ⟨_, fd, _, _, _, _, n_check_number, ["x", "least"], c_check_number, F, sc_check_number, He.glo_ok X G (c.fact 2 (f := .glo "check_number") rfl), F.bindsN (ps := ["x", "least"]) (fun _ _ _ _ _ _ us hl => match us, hl with | [_, _], _ => rfl), rfl, rfl, rfl, by decide, ck_check_number⟩
theorem fd_check_asks (X : K.In h) (G : h.Ns mainGlobals mg) (c : He.SaysD fa fn K) : FnD dat.G prog K mg 3 "check_asks" := by
  obtain ⟨fd, F⟩ := c.def_ 3 (d := d_check_asks) rfl
  exact ⟨_, fd, _, _, _, _, n_check_asks, ["asks"], c_check_asks, F, sc_check_asks, He.glo_ok X G (c.fact 3 (f := .glo "check_asks") rfl), F.bindsN (ps := ["asks"]) (fun _ _ _ _ _ _ us hl => match us, hl with | [_], _ => rfl), rfl, rfl, rfl, by decide, ck_check_asks⟩
theorem fd_check_change (X : K.In h) (G : h.Ns mainGlobals mg) (c : He.SaysD fa fn K) : FnD dat.G prog K mg 4 "check_change" := by
  obtain ⟨fd, F⟩ := c.def_ 4 (d := d_check_change) rfl
  exact ⟨_, fd, _, _, _, _, n_check_change, ["row", "i"], c_check_change, F, sc_check_change, He.glo_ok X G (c.fact 4 (f := .glo "check_change") rfl), F.bindsN (ps := ["row", "i"]) (fun _ _ _ _ _ _ us hl => match us, hl with | [_, _], _ => rfl), rfl, rfl, rfl, by decide, ck_check_change⟩
theorem fd_number_ahead (X : K.In h) (G : h.Ns mainGlobals mg) (c : He.SaysD fa fn K) : FnD dat.G prog K mg 5 "number_ahead" := by
  obtain ⟨fd, F⟩ := c.def_ 5 (d := d_number_ahead) rfl
  exact ⟨_, fd, _, _, _, _, n_number_ahead, ["row", "h"], c_number_ahead, F, sc_number_ahead, He.glo_ok X G (c.fact 5 (f := .glo "number_ahead") rfl), F.bindsN (ps := ["row", "h"]) (fun _ _ _ _ _ _ us hl => match us, hl with | [_, _], _ => rfl), rfl, rfl, rfl, by decide, ck_number_ahead⟩
theorem fd_run_behind (X : K.In h) (G : h.Ns mainGlobals mg) (c : He.SaysD fa fn K) : FnD dat.G prog K mg 6 "run_behind" := by
  obtain ⟨fd, F⟩ := c.def_ 6 (d := d_run_behind) rfl
  exact ⟨_, fd, _, _, _, _, n_run_behind, ["row", "i", "b", "y"], c_run_behind, F, sc_run_behind, He.glo_ok X G (c.fact 6 (f := .glo "run_behind") rfl), F.bindsN (ps := ["row", "i", "b", "y"]) (fun _ _ _ _ _ _ us hl => match us, hl with | [_, _, _, _], _ => rfl), rfl, rfl, rfl, by decide, ck_run_behind⟩
theorem fd_next_run (X : K.In h) (G : h.Ns mainGlobals mg) (c : He.SaysD fa fn K) : FnD dat.G prog K mg 7 "next_run" := by
  obtain ⟨fd, F⟩ := c.def_ 7 (d := d_next_run) rfl
  exact ⟨_, fd, _, _, _, _, n_next_run, ["asks", "i", "b", "y"], c_next_run, F, sc_next_run, He.glo_ok X G (c.fact 7 (f := .glo "next_run") rfl), F.bindsN (ps := ["asks", "i", "b", "y"]) (fun _ _ _ _ _ _ us hl => match us, hl with | [_, _, _, _], _ => rfl), rfl, rfl, rfl, by decide, ck_next_run⟩
theorem fd_newest_before (X : K.In h) (G : h.Ns mainGlobals mg) (c : He.SaysD fa fn K) : FnD dat.G prog K mg 8 "newest_before" := by
  obtain ⟨fd, F⟩ := c.def_ 8 (d := d_newest_before) rfl
  exact ⟨_, fd, _, _, _, _, n_newest_before, ["asks", "h"], c_newest_before, F, sc_newest_before, He.glo_ok X G (c.fact 8 (f := .glo "newest_before") rfl), F.bindsN (ps := ["asks", "h"]) (fun _ _ _ _ _ _ us hl => match us, hl with | [_, _], _ => rfl), rfl, rfl, rfl, by decide, ck_newest_before⟩
theorem fd_check_lens (X : K.In h) (G : h.Ns mainGlobals mg) (c : He.SaysD fa fn K) : FnD dat.G prog K mg 9 "check_lens" := by
  obtain ⟨fd, F⟩ := c.def_ 9 (d := d_check_lens) rfl
  exact ⟨_, fd, _, _, _, _, n_check_lens, ["lens", "side"], c_check_lens, F, sc_check_lens, He.glo_ok X G (c.fact 9 (f := .glo "check_lens") rfl), F.bindsN (ps := ["lens", "side"]) (fun _ _ _ _ _ _ us hl => match us, hl with | [_, _], _ => rfl), rfl, rfl, rfl, by decide, ck_check_lens⟩
theorem fd_rows_of_runs (X : K.In h) (G : h.Ns mainGlobals mg) (c : He.SaysD fa fn K) : FnD dat.G prog K mg 10 "rows_of_runs" := by
  obtain ⟨fd, F⟩ := c.def_ 10 (d := d_rows_of_runs) rfl
  exact ⟨_, fd, _, _, _, _, n_rows_of_runs, ["row", "lens"], c_rows_of_runs, F, sc_rows_of_runs, He.glo_ok X G (c.fact 10 (f := .glo "rows_of_runs") rfl), F.bindsN (ps := ["row", "lens"]) (fun _ _ _ _ _ _ us hl => match us, hl with | [_, _], _ => rfl), rfl, rfl, rfl, by decide, ck_rows_of_runs⟩
theorem fd_played (X : K.In h) (G : h.Ns mainGlobals mg) (c : He.SaysD fa fn K) : FnD dat.G prog K mg 11 "played" := by
  obtain ⟨fd, F⟩ := c.def_ 11 (d := d_played) rfl
  exact ⟨_, fd, _, _, _, _, n_played, ["asks", "lens"], c_played, F, sc_played, He.glo_ok X G (c.fact 11 (f := .glo "played") rfl), F.bindsN (ps := ["asks", "lens"]) (fun _ _ _ _ _ _ us hl => match us, hl with | [_, _], _ => rfl), rfl, rfl, rfl, by decide, ck_played⟩
theorem fd_chain_of (X : K.In h) (G : h.Ns mainGlobals mg) (c : He.SaysD fa fn K) : FnD dat.G prog K mg 12 "chain_of" := by
  obtain ⟨fd, F⟩ := c.def_ 12 (d := d_chain_of) rfl
  exact ⟨_, fd, _, _, _, _, n_chain_of, ["row", "y"], c_chain_of, F, sc_chain_of, He.glo_ok X G (c.fact 12 (f := .glo "chain_of") rfl), F.bindsN (ps := ["row", "y"]) (fun _ _ _ _ _ _ us hl => match us, hl with | [_, _], _ => rfl), rfl, rfl, rfl, by decide, ck_chain_of⟩
theorem fd_chain_rows (X : K.In h) (G : h.Ns mainGlobals mg) (c : He.SaysD fa fn K) : FnD dat.G prog K mg 13 "chain_rows" := by
  obtain ⟨fd, F⟩ := c.def_ 13 (d := d_chain_rows) rfl
  exact ⟨_, fd, _, _, _, _, n_chain_rows, ["asks", "y"], c_chain_rows, F, sc_chain_rows, He.glo_ok X G (c.fact 13 (f := .glo "chain_rows") rfl), F.bindsN (ps := ["asks", "y"]) (fun _ _ _ _ _ _ us hl => match us, hl with | [_, _], _ => rfl), rfl, rfl, rfl, by decide, ck_chain_rows⟩
theorem fd_run_number (X : K.In h) (G : h.Ns mainGlobals mg) (c : He.SaysD fa fn K) : FnD dat.G prog K mg 14 "run_number" := by
  obtain ⟨fd, F⟩ := c.def_ 14 (d := d_run_number) rfl
  exact ⟨_, fd, _, _, _, _, n_run_number, ["asks", "y"], c_run_number, F, sc_run_number, He.glo_ok X G (c.fact 14 (f := .glo "run_number") rfl), F.bindsN (ps := ["asks", "y"]) (fun _ _ _ _ _ _ us hl => match us, hl with | [_, _], _ => rfl), rfl, rfl, rfl, by decide, ck_run_number⟩
theorem fd_later_chain (X : K.In h) (G : h.Ns mainGlobals mg) (c : He.SaysD fa fn K) : FnD dat.G prog K mg 15 "later_chain" := by
  obtain ⟨fd, F⟩ := c.def_ 15 (d := d_later_chain) rfl
  exact ⟨_, fd, _, _, _, _, n_later_chain, ["asks", "lens", "others"], c_later_chain, F, sc_later_chain, He.glo_ok X G (c.fact 15 (f := .glo "later_chain") rfl), F.bindsN (ps := ["asks", "lens", "others"]) (fun _ _ _ _ _ _ us hl => match us, hl with | [_, _, _], _ => rfl), rfl, rfl, rfl, by decide, ck_later_chain⟩
theorem fd_check_change_at (X : K.In h) (G : h.Ns mainGlobals mg) (c : He.SaysD fa fn K) : FnD dat.G prog K mg 16 "check_change_at" := by
  obtain ⟨fd, F⟩ := c.def_ 16 (d := d_check_change_at) rfl
  exact ⟨_, fd, _, _, _, _, n_check_change_at, ["i", "n"], c_check_change_at, F, sc_check_change_at, He.glo_ok X G (c.fact 16 (f := .glo "check_change_at") rfl), F.bindsN (ps := ["i", "n"]) (fun _ _ _ _ _ _ us hl => match us, hl with | [_, _], _ => rfl), rfl, rfl, rfl, by decide, ck_check_change_at⟩
theorem fd_is_calm (X : K.In h) (G : h.Ns mainGlobals mg) (c : He.SaysD fa fn K) : FnD dat.G prog K mg 17 "is_calm" := by
  obtain ⟨fd, F⟩ := c.def_ 17 (d := d_is_calm) rfl
  exact ⟨_, fd, _, _, _, _, n_is_calm, ["n", "d", "z"], c_is_calm, F, sc_is_calm, He.glo_ok X G (c.fact 17 (f := .glo "is_calm") rfl), F.bindsN (ps := ["n", "d", "z"]) (fun _ _ _ _ _ _ us hl => match us, hl with | [_, _, _], _ => rfl), rfl, rfl, rfl, by decide, ck_is_calm⟩
theorem fd_final_run (X : K.In h) (G : h.Ns mainGlobals mg) (c : He.SaysD fa fn K) : FnD dat.G prog K mg 18 "final_run" := by
  obtain ⟨fd, F⟩ := c.def_ 18 (d := d_final_run) rfl
  exact ⟨_, fd, _, _, _, _, n_final_run, ["n", "d", "z"], c_final_run, F, sc_final_run, He.glo_ok X G (c.fact 18 (f := .glo "final_run") rfl), F.bindsN (ps := ["n", "d", "z"]) (fun _ _ _ _ _ _ us hl => match us, hl with | [_, _, _], _ => rfl), rfl, rfl, rfl, by decide, ck_final_run⟩
theorem fd_steady_count (X : K.In h) (G : h.Ns mainGlobals mg) (c : He.SaysD fa fn K) : FnD dat.G prog K mg 19 "steady_count" := by
  obtain ⟨fd, F⟩ := c.def_ 19 (d := d_steady_count) rfl
  exact ⟨_, fd, _, _, _, _, n_steady_count, ["n", "d", "z"], c_steady_count, F, sc_steady_count, He.glo_ok X G (c.fact 19 (f := .glo "steady_count") rfl), F.bindsN (ps := ["n", "d", "z"]) (fun _ _ _ _ _ _ us hl => match us, hl with | [_, _, _], _ => rfl), rfl, rfl, rfl, by decide, ck_steady_count⟩
theorem fd_steady_run (X : K.In h) (G : h.Ns mainGlobals mg) (c : He.SaysD fa fn K) : FnD dat.G prog K mg 20 "steady_run" := by
  obtain ⟨fd, F⟩ := c.def_ 20 (d := d_steady_run) rfl
  exact ⟨_, fd, _, _, _, _, n_steady_run, ["n", "d", "z", "j"], c_steady_run, F, sc_steady_run, He.glo_ok X G (c.fact 20 (f := .glo "steady_run") rfl), F.bindsN (ps := ["n", "d", "z", "j"]) (fun _ _ _ _ _ _ us hl => match us, hl with | [_, _, _, _], _ => rfl), rfl, rfl, rfl, by decide, ck_steady_run⟩
theorem fd_steady_list (X : K.In h) (G : h.Ns mainGlobals mg) (c : He.SaysD fa fn K) : FnD dat.G prog K mg 21 "steady_list" := by
  obtain ⟨fd, F⟩ := c.def_ 21 (d := d_steady_list) rfl
  exact ⟨_, fd, _, _, _, _, n_steady_list, ["n", "d", "z"], c_steady_list, F, sc_steady_list, He.glo_ok X G (c.fact 21 (f := .glo "steady_list") rfl), F.bindsN (ps := ["n", "d", "z"]) (fun _ _ _ _ _ _ us hl => match us, hl with | [_, _, _], _ => rfl), rfl, rfl, rfl, by decide, ck_steady_list⟩
theorem fd_stay_run (X : K.In h) (G : h.Ns mainGlobals mg) (c : He.SaysD fa fn K) : FnD dat.G prog K mg 22 "stay_run" := by
  obtain ⟨fd, F⟩ := c.def_ 22 (d := d_stay_run) rfl
  exact ⟨_, fd, _, _, _, _, n_stay_run, ["n", "d", "z", "j"], c_stay_run, F, sc_stay_run, He.glo_ok X G (c.fact 22 (f := .glo "stay_run") rfl), F.bindsN (ps := ["n", "d", "z", "j"]) (fun _ _ _ _ _ _ us hl => match us, hl with | [_, _, _, _], _ => rfl), rfl, rfl, rfl, by decide, ck_stay_run⟩
theorem fd_stay_done (X : K.In h) (G : h.Ns mainGlobals mg) (c : He.SaysD fa fn K) : FnD dat.G prog K mg 23 "stay_done" := by
  obtain ⟨fd, F⟩ := c.def_ 23 (d := d_stay_done) rfl
  exact ⟨_, fd, _, _, _, _, n_stay_done, ["n", "d", "z"], c_stay_done, F, sc_stay_done, He.glo_ok X G (c.fact 23 (f := .glo "stay_done") rfl), F.bindsN (ps := ["n", "d", "z"]) (fun _ _ _ _ _ _ us hl => match us, hl with | [_, _, _], _ => rfl), rfl, rfl, rfl, by decide, ck_stay_done⟩
theorem fd__law_tape (X : K.In h) (G : h.Ns mainGlobals mg) (c : He.SaysD fa fn K) : FnD dat.G prog K mg 24 "_law_tape" := by
  obtain ⟨fd, F⟩ := c.def_ 24 (d := d__law_tape) rfl
  exact ⟨_, fd, _, _, _, _, n__law_tape, ["script"], c__law_tape, F, sc__law_tape, He.glo_ok X G (c.fact 24 (f := .glo "_law_tape") rfl), F.bindsN (ps := ["script"]) (fun _ _ _ _ _ _ us hl => match us, hl with | [_], _ => rfl), rfl, rfl, rfl, by decide, ck__law_tape⟩
theorem fd__law_take (X : K.In h) (G : h.Ns mainGlobals mg) (c : He.SaysD fa fn K) : FnD dat.G prog K mg 25 "_law_take" := by
  obtain ⟨fd, F⟩ := c.def_ 25 (d := d__law_take) rfl
  exact ⟨_, fd, _, _, _, _, n__law_take, ["tape", "many"], c__law_take, F, sc__law_take, He.glo_ok X G (c.fact 25 (f := .glo "_law_take") rfl), F.bindsN (ps := ["tape", "many"]) (fun _ _ _ _ _ _ us hl => match us, hl with | [_, _], _ => rfl), rfl, rfl, rfl, by decide, ck__law_take⟩
theorem fd__law_just (X : K.In h) (G : h.Ns mainGlobals mg) (c : He.SaysD fa fn K) : FnD dat.G prog K mg 26 "_law_just" := by
  obtain ⟨fd, F⟩ := c.def_ 26 (d := d__law_just) rfl
  exact ⟨_, fd, _, _, _, _, n__law_just, ["told", "due"], c__law_just, F, sc__law_just, He.glo_ok X G (c.fact 26 (f := .glo "_law_just") rfl), F.bindsN (ps := ["told", "due"]) (fun _ _ _ _ _ _ us hl => match us, hl with | [_, _], _ => rfl), rfl, rfl, rfl, by decide, ck__law_just⟩
theorem fd__law_ask_row (X : K.In h) (G : h.Ns mainGlobals mg) (c : He.SaysD fa fn K) : FnD dat.G prog K mg 27 "_law_ask_row" := by
  obtain ⟨fd, F⟩ := c.def_ 27 (d := d__law_ask_row) rfl
  exact ⟨_, fd, _, _, _, _, n__law_ask_row, ["tape", "most"], c__law_ask_row, F, sc__law_ask_row, He.glo_ok X G (c.fact 27 (f := .glo "_law_ask_row") rfl), F.bindsN (ps := ["tape", "most"]) (fun _ _ _ _ _ _ us hl => match us, hl with | [_, _], _ => rfl), rfl, rfl, rfl, by decide, ck__law_ask_row⟩
theorem fd__law_next (X : K.In h) (G : h.Ns mainGlobals mg) (c : He.SaysD fa fn K) : FnD dat.G prog K mg 28 "_law_next" := by
  obtain ⟨fd, F⟩ := c.def_ 28 (d := d__law_next) rfl
  exact ⟨_, fd, _, _, _, _, n__law_next, ["asks", "i", "begin", "y"], c__law_next, F, sc__law_next, He.glo_ok X G (c.fact 28 (f := .glo "_law_next") rfl), F.bindsN (ps := ["asks", "i", "begin", "y"]) (fun _ _ _ _ _ _ us hl => match us, hl with | [_, _, _, _], _ => rfl), rfl, rfl, rfl, by decide, ck__law_next⟩
theorem fd__law_factor (X : K.In h) (G : h.Ns mainGlobals mg) (c : He.SaysD fa fn K) : FnD dat.G prog K mg 29 "_law_factor" := by
  obtain ⟨fd, F⟩ := c.def_ 29 (d := d__law_factor) rfl
  exact ⟨_, fd, _, _, _, _, n__law_factor, ["tape"], c__law_factor, F, sc__law_factor, He.glo_ok X G (c.fact 29 (f := .glo "_law_factor") rfl), F.bindsN (ps := ["tape"]) (fun _ _ _ _ _ _ us hl => match us, hl with | [_], _ => rfl), rfl, rfl, rfl, by decide, ck__law_factor⟩
theorem fd__law_grown (X : K.In h) (G : h.Ns mainGlobals mg) (c : He.SaysD fa fn K) : FnD dat.G prog K mg 30 "_law_grown" := by
  obtain ⟨fd, F⟩ := c.def_ 30 (d := d__law_grown) rfl
  exact ⟨_, fd, _, _, _, _, n__law_grown, ["row", "c", "by"], c__law_grown, F, sc__law_grown, He.glo_ok X G (c.fact 30 (f := .glo "_law_grown") rfl), F.bindsN (ps := ["row", "c", "by"]) (fun _ _ _ _ _ _ us hl => match us, hl with | [_, _, _], _ => rfl), rfl, rfl, rfl, by decide, ck__law_grown⟩
theorem fd__law_lens (X : K.In h) (G : h.Ns mainGlobals mg) (c : He.SaysD fa fn K) : FnD dat.G prog K mg 31 "_law_lens" := by
  obtain ⟨fd, F⟩ := c.def_ 31 (d := d__law_lens) rfl
  exact ⟨_, fd, _, _, _, _, n__law_lens, ["tape", "many"], c__law_lens, F, sc__law_lens, He.glo_ok X G (c.fact 31 (f := .glo "_law_lens") rfl), F.bindsN (ps := ["tape", "many"]) (fun _ _ _ _ _ _ us hl => match us, hl with | [_, _], _ => rfl), rfl, rfl, rfl, by decide, ck__law_lens⟩
theorem fd__law_runs (X : K.In h) (G : h.Ns mainGlobals mg) (c : He.SaysD fa fn K) : FnD dat.G prog K mg 32 "_law_runs" := by
  obtain ⟨fd, F⟩ := c.def_ 32 (d := d__law_runs) rfl
  exact ⟨_, fd, _, _, _, _, n__law_runs, ["asks", "lens"], c__law_runs, F, sc__law_runs, He.glo_ok X G (c.fact 32 (f := .glo "_law_runs") rfl), F.bindsN (ps := ["asks", "lens"]) (fun _ _ _ _ _ _ us hl => match us, hl with | [_, _], _ => rfl), rfl, rfl, rfl, by decide, ck__law_runs⟩
theorem fd__law_scaled (X : K.In h) (G : h.Ns mainGlobals mg) (c : He.SaysD fa fn K) : FnD dat.G prog K mg 33 "_law_scaled" := by
  obtain ⟨fd, F⟩ := c.def_ 33 (d := d__law_scaled) rfl
  exact ⟨_, fd, _, _, _, _, n__law_scaled, ["rows", "c", "by"], c__law_scaled, F, sc__law_scaled, He.glo_ok X G (c.fact 33 (f := .glo "_law_scaled") rfl), F.bindsN (ps := ["rows", "c", "by"]) (fun _ _ _ _ _ _ us hl => match us, hl with | [_, _, _], _ => rfl), rfl, rfl, rfl, by decide, ck__law_scaled⟩
theorem fd__law_form (X : K.In h) (G : h.Ns mainGlobals mg) (c : He.SaysD fa fn K) : FnD dat.G prog K mg 34 "_law_form" := by
  obtain ⟨fd, F⟩ := c.def_ 34 (d := d__law_form) rfl
  exact ⟨_, fd, _, _, _, _, n__law_form, ["row", "way"], c__law_form, F, sc__law_form, He.glo_ok X G (c.fact 34 (f := .glo "_law_form") rfl), F.bindsN (ps := ["row", "way"]) (fun _ _ _ _ _ _ us hl => match us, hl with | [_, _], _ => rfl), rfl, rfl, rfl, by decide, ck__law_form⟩
theorem fd__law_plays_hold (X : K.In h) (G : h.Ns mainGlobals mg) (c : He.SaysD fa fn K) : FnD dat.G prog K mg 35 "_law_plays_hold" := by
  obtain ⟨fd, F⟩ := c.def_ 35 (d := d__law_plays_hold) rfl
  exact ⟨_, fd, _, _, _, _, n__law_plays_hold, ["asks", "lens", "c", "by", "way"], c__law_plays_hold, F, sc__law_plays_hold, He.glo_ok X G (c.fact 35 (f := .glo "_law_plays_hold") rfl), F.bindsN (ps := ["asks", "lens", "c", "by", "way"]) (fun _ _ _ _ _ _ us hl => match us, hl with | [_, _, _, _, _], _ => rfl), rfl, rfl, rfl, by decide, ck__law_plays_hold⟩
theorem fd__law_chains_hold (X : K.In h) (G : h.Ns mainGlobals mg) (c : He.SaysD fa fn K) : FnD dat.G prog K mg 36 "_law_chains_hold" := by
  obtain ⟨fd, F⟩ := c.def_ 36 (d := d__law_chains_hold) rfl
  exact ⟨_, fd, _, _, _, _, n__law_chains_hold, ["asks", "y", "c", "by"], c__law_chains_hold, F, sc__law_chains_hold, He.glo_ok X G (c.fact 36 (f := .glo "_law_chains_hold") rfl), F.bindsN (ps := ["asks", "y", "c", "by"]) (fun _ _ _ _ _ _ us hl => match us, hl with | [_, _, _, _], _ => rfl), rfl, rfl, rfl, by decide, ck__law_chains_hold⟩
theorem fd__law_newest_hold (X : K.In h) (G : h.Ns mainGlobals mg) (c : He.SaysD fa fn K) : FnD dat.G prog K mg 37 "_law_newest_hold" := by
  obtain ⟨fd, F⟩ := c.def_ 37 (d := d__law_newest_hold) rfl
  exact ⟨_, fd, _, _, _, _, n__law_newest_hold, ["tape", "asks", "c", "by"], c__law_newest_hold, F, sc__law_newest_hold, He.glo_ok X G (c.fact 37 (f := .glo "_law_newest_hold") rfl), F.bindsN (ps := ["tape", "asks", "c", "by"]) (fun _ _ _ _ _ _ us hl => match us, hl with | [_, _, _, _], _ => rfl), rfl, rfl, rfl, by decide, ck__law_newest_hold⟩
theorem fd__law_later (X : K.In h) (G : h.Ns mainGlobals mg) (c : He.SaysD fa fn K) : FnD dat.G prog K mg 38 "_law_later" := by
  obtain ⟨fd, F⟩ := c.def_ 38 (d := d__law_later) rfl
  exact ⟨_, fd, _, _, _, _, n__law_later, ["one", "two"], c__law_later, F, sc__law_later, He.glo_ok X G (c.fact 38 (f := .glo "_law_later") rfl), F.bindsN (ps := ["one", "two"]) (fun _ _ _ _ _ _ us hl => match us, hl with | [_, _], _ => rfl), rfl, rfl, rfl, by decide, ck__law_later⟩
theorem fd__law_later_hold (X : K.In h) (G : h.Ns mainGlobals mg) (c : He.SaysD fa fn K) : FnD dat.G prog K mg 39 "_law_later_hold" := by
  obtain ⟨fd, F⟩ := c.def_ 39 (d := d__law_later_hold) rfl
  exact ⟨_, fd, _, _, _, _, n__law_later_hold, ["tape", "asks", "lens", "c", "by"], c__law_later_hold, F, sc__law_later_hold, He.glo_ok X G (c.fact 39 (f := .glo "_law_later_hold") rfl), F.bindsN (ps := ["tape", "asks", "lens", "c", "by"]) (fun _ _ _ _ _ _ us hl => match us, hl with | [_, _, _, _, _], _ => rfl), rfl, rfl, rfl, by decide, ck__law_later_hold⟩
theorem fd__law_stream_hold (X : K.In h) (G : h.Ns mainGlobals mg) (c : He.SaysD fa fn K) : FnD dat.G prog K mg 40 "_law_stream_hold" := by
  obtain ⟨fd, F⟩ := c.def_ 40 (d := d__law_stream_hold) rfl
  exact ⟨_, fd, _, _, _, _, n__law_stream_hold, ["tape", "c"], c__law_stream_hold, F, sc__law_stream_hold, He.glo_ok X G (c.fact 40 (f := .glo "_law_stream_hold") rfl), F.bindsN (ps := ["tape", "c"]) (fun _ _ _ _ _ _ us hl => match us, hl with | [_, _], _ => rfl), rfl, rfl, rfl, by decide, ck__law_stream_hold⟩
theorem fd__law_heard (X : K.In h) (G : h.Ns mainGlobals mg) (c : He.SaysD fa fn K) : FnD dat.G prog K mg 41 "_law_heard" := by
  obtain ⟨fd, F⟩ := c.def_ 41 (d := d__law_heard) rfl
  exact ⟨_, fd, _, _, _, _, n__law_heard, ["pick"], c__law_heard, F, sc__law_heard, He.glo_ok X G (c.fact 41 (f := .glo "_law_heard") rfl), F.bindsN (ps := ["pick"]) (fun _ _ _ _ _ _ us hl => match us, hl with | [_], _ => rfl), rfl, rfl, rfl, by decide, ck__law_heard⟩
theorem fd_law (X : K.In h) (G : h.Ns mainGlobals mg) (c : He.SaysD fa fn K) : FnD dat.G prog K mg 42 "law" := by
  obtain ⟨fd, F⟩ := c.def_ 42 (d := d_law) rfl
  exact ⟨_, fd, _, _, _, _, n_law, ["script"], c_law, F, sc_law, He.glo_ok X G (c.fact 42 (f := .glo "law") rfl), F.bindsN (ps := ["script"]) (fun _ _ _ _ _ _ us hl => match us, hl with | [_], _ => rfl), rfl, rfl, rfl, by decide, ck_law⟩
theorem fds (X : K.In h) (G : h.Ns mainGlobals mg) (c : He.SaysD fa fn K) : ∀ (i : Nat) (x : Str), dat.fns[i]? = some x → FnD dat.G prog K mg i x
  | 0, x, hx => by
    cases (show some ("tupled" : Str) = some x from hx)
    exact fd_tupled X G c
  | 1, x, hx => by
    cases (show some ("is_int" : Str) = some x from hx)
    exact fd_is_int X G c
  | 2, x, hx => by
    cases (show some ("check_number" : Str) = some x from hx)
    exact fd_check_number X G c
  | 3, x, hx => by
    cases (show some ("check_asks" : Str) = some x from hx)
    exact fd_check_asks X G c
  | 4, x, hx => by
    cases (show some ("check_change" : Str) = some x from hx)
    exact fd_check_change X G c
  | 5, x, hx => by
    cases (show some ("number_ahead" : Str) = some x from hx)
    exact fd_number_ahead X G c
  | 6, x, hx => by
    cases (show some ("run_behind" : Str) = some x from hx)
    exact fd_run_behind X G c
  | 7, x, hx => by
    cases (show some ("next_run" : Str) = some x from hx)
    exact fd_next_run X G c
  | 8, x, hx => by
    cases (show some ("newest_before" : Str) = some x from hx)
    exact fd_newest_before X G c
  | 9, x, hx => by
    cases (show some ("check_lens" : Str) = some x from hx)
    exact fd_check_lens X G c
  | 10, x, hx => by
    cases (show some ("rows_of_runs" : Str) = some x from hx)
    exact fd_rows_of_runs X G c
  | 11, x, hx => by
    cases (show some ("played" : Str) = some x from hx)
    exact fd_played X G c
  | 12, x, hx => by
    cases (show some ("chain_of" : Str) = some x from hx)
    exact fd_chain_of X G c
  | 13, x, hx => by
    cases (show some ("chain_rows" : Str) = some x from hx)
    exact fd_chain_rows X G c
  | 14, x, hx => by
    cases (show some ("run_number" : Str) = some x from hx)
    exact fd_run_number X G c
  | 15, x, hx => by
    cases (show some ("later_chain" : Str) = some x from hx)
    exact fd_later_chain X G c
  | 16, x, hx => by
    cases (show some ("check_change_at" : Str) = some x from hx)
    exact fd_check_change_at X G c
  | 17, x, hx => by
    cases (show some ("is_calm" : Str) = some x from hx)
    exact fd_is_calm X G c
  | 18, x, hx => by
    cases (show some ("final_run" : Str) = some x from hx)
    exact fd_final_run X G c
  | 19, x, hx => by
    cases (show some ("steady_count" : Str) = some x from hx)
    exact fd_steady_count X G c
  | 20, x, hx => by
    cases (show some ("steady_run" : Str) = some x from hx)
    exact fd_steady_run X G c
  | 21, x, hx => by
    cases (show some ("steady_list" : Str) = some x from hx)
    exact fd_steady_list X G c
  | 22, x, hx => by
    cases (show some ("stay_run" : Str) = some x from hx)
    exact fd_stay_run X G c
  | 23, x, hx => by
    cases (show some ("stay_done" : Str) = some x from hx)
    exact fd_stay_done X G c
  | 24, x, hx => by
    cases (show some ("_law_tape" : Str) = some x from hx)
    exact fd__law_tape X G c
  | 25, x, hx => by
    cases (show some ("_law_take" : Str) = some x from hx)
    exact fd__law_take X G c
  | 26, x, hx => by
    cases (show some ("_law_just" : Str) = some x from hx)
    exact fd__law_just X G c
  | 27, x, hx => by
    cases (show some ("_law_ask_row" : Str) = some x from hx)
    exact fd__law_ask_row X G c
  | 28, x, hx => by
    cases (show some ("_law_next" : Str) = some x from hx)
    exact fd__law_next X G c
  | 29, x, hx => by
    cases (show some ("_law_factor" : Str) = some x from hx)
    exact fd__law_factor X G c
  | 30, x, hx => by
    cases (show some ("_law_grown" : Str) = some x from hx)
    exact fd__law_grown X G c
  | 31, x, hx => by
    cases (show some ("_law_lens" : Str) = some x from hx)
    exact fd__law_lens X G c
  | 32, x, hx => by
    cases (show some ("_law_runs" : Str) = some x from hx)
    exact fd__law_runs X G c
  | 33, x, hx => by
    cases (show some ("_law_scaled" : Str) = some x from hx)
    exact fd__law_scaled X G c
  | 34, x, hx => by
    cases (show some ("_law_form" : Str) = some x from hx)
    exact fd__law_form X G c
  | 35, x, hx => by
    cases (show some ("_law_plays_hold" : Str) = some x from hx)
    exact fd__law_plays_hold X G c
  | 36, x, hx => by
    cases (show some ("_law_chains_hold" : Str) = some x from hx)
    exact fd__law_chains_hold X G c
  | 37, x, hx => by
    cases (show some ("_law_newest_hold" : Str) = some x from hx)
    exact fd__law_newest_hold X G c
  | 38, x, hx => by
    cases (show some ("_law_later" : Str) = some x from hx)
    exact fd__law_later X G c
  | 39, x, hx => by
    cases (show some ("_law_later_hold" : Str) = some x from hx)
    exact fd__law_later_hold X G c
  | 40, x, hx => by
    cases (show some ("_law_stream_hold" : Str) = some x from hx)
    exact fd__law_stream_hold X G c
  | 41, x, hx => by
    cases (show some ("_law_heard" : Str) = some x from hx)
    exact fd__law_heard X G c
  | 42, x, hx => by
    cases (show some ("law" : Str) = some x from hx)
    exact fd_law X G c
  | i + 43, x, hx => by
    cases (show (none : Option Str) = some x from hx)
theorem blts (X : K.In h) (G : h.Ns mainGlobals mg) (c : He.SaysD fa fn K) : ∀ x ∈ bnames, mg x = none := by
  intro x hx
  simp only [bnames, List.mem_cons, List.not_mem_nil, or_false] at hx
  rcases hx with rfl | rfl | rfl | rfl | rfl | rfl | rfl | rfl | rfl | rfl | rfl | rfl | rfl | rfl | rfl | rfl | rfl
  · exact He.free_ok X G (c.fact 43 (f := .free "len") rfl)
  · exact He.free_ok X G (c.fact 44 (f := .free "abs") rfl)
  · exact He.free_ok X G (c.fact 45 (f := .free "int") rfl)
  · exact He.free_ok X G (c.fact 46 (f := .free "list") rfl)
  · exact He.free_ok X G (c.fact 47 (f := .free "tuple") rfl)
  · exact He.free_ok X G (c.fact 48 (f := .free "sum") rfl)
  · exact He.free_ok X G (c.fact 49 (f := .free "max") rfl)
  · exact He.free_ok X G (c.fact 50 (f := .free "min") rfl)
  · exact He.free_ok X G (c.fact 51 (f := .free "sorted") rfl)
  · exact He.free_ok X G (c.fact 52 (f := .free "all") rfl)
  · exact He.free_ok X G (c.fact 53 (f := .free "any") rfl)
  · exact He.free_ok X G (c.fact 54 (f := .free "range") rfl)
  · exact He.free_ok X G (c.fact 55 (f := .free "isinstance") rfl)
  · exact He.free_ok X G (c.fact 56 (f := .free "bool") rfl)
  · exact He.free_ok X G (c.fact 57 (f := .free "str") rfl)
  · exact He.free_ok X G (c.fact 58 (f := .free "enumerate") rfl)
  · exact He.free_ok X G (c.fact 59 (f := .free "zip") rfl)
theorem glsK (X : K.In h) (G : h.Ns mainGlobals mg) (c : He.SaysD fa fn K) : ∀ x i, (x, i) ∈ dat.gls → ∃ t, mg x = some (.int i t) := by
  intro x i h
  have h : (x, i) ∈ ([("MOST_CHANGES", 4000)] : List (Str × Int)) := h
  simp only [List.mem_cons, List.not_mem_nil, or_false, Prod.mk.injEq] at h
  rcases h with ⟨rfl, rfl⟩
  · exact He.int_ok X G (c.fact 60 (f := .int "MOST_CHANGES" 4000) rfl)
theorem factsK (X : K.In h) (G : h.Ns mainGlobals mg) (c : SaysP (clsB dat) fa fn K) : Facts dat.G prog K mg (dat.c K) := by
  obtain ⟨c0, cB⟩ := c.d
  refine facts_of X G cB rfl (fds X G c0) (blts X G c0) (glsK X G c0) (fun i x hx hr q1 q2 q3 q4 => ?_)
  match i, hx, hr, q1, q2, q3, q4 with
  | 0, hx, hr, q1, q2, q3, q4 => exact ff hr
  | 1, hx, hr, q1, q2, q3, q4 =>
    obtain ⟨fd, F⟩ := c0.def_ 43 (d := e_BadNumber) rfl
    exact clD_of (fl := "at") (x0 := "self") (x1 := "at") (q := (some 0)) q1 rfl q2 F ⟨by decide +kernel, by decide +kernel, by decide +kernel, by decide +kernel, by decide +kernel, by decide +kernel, by decide +kernel⟩ (F.bindsN (ps := ["self", "at"]) (fun _ _ _ _ _ _ us hl => match us, hl with | [_, _], _ => rfl)) q3 q4 rfl (by decide +kernel)
  | 2, hx, hr, q1, q2, q3, q4 =>
    obtain ⟨fd, F⟩ := c0.def_ 44 (d := e_BadRow) rfl
    exact clD_of (fl := "at") (x0 := "self") (x1 := "at") (q := (some 0)) q1 rfl q2 F ⟨by decide +kernel, by decide +kernel, by decide +kernel, by decide +kernel, by decide +kernel, by decide +kernel, by decide +kernel⟩ (F.bindsN (ps := ["self", "at"]) (fun _ _ _ _ _ _ us hl => match us, hl with | [_, _], _ => rfl)) q3 q4 rfl (by decide +kernel)
  | 3, hx, hr, q1, q2, q3, q4 =>
    obtain ⟨fd, F⟩ := c0.def_ 45 (d := e_BadCase) rfl
    exact clD_of (fl := "at") (x0 := "self") (x1 := "at") (q := (some 0)) q1 rfl q2 F ⟨by decide +kernel, by decide +kernel, by decide +kernel, by decide +kernel, by decide +kernel, by decide +kernel, by decide +kernel⟩ (F.bindsN (ps := ["self", "at"]) (fun _ _ _ _ _ _ us hl => match us, hl with | [_, _], _ => rfl)) q3 q4 rfl (by decide +kernel)
  | 4, hx, hr, q1, q2, q3, q4 =>
    obtain ⟨fd, F⟩ := c0.def_ 46 (d := e_TooMany) rfl
    exact clD_of (fl := "limit") (x0 := "self") (x1 := "limit") (q := none) q1 rfl q2 F ⟨by decide +kernel, by decide +kernel, by decide +kernel, by decide +kernel, by decide +kernel, by decide +kernel, by decide +kernel⟩ (F.bindsN (ps := ["self", "limit"]) (fun _ _ _ _ _ _ us hl => match us, hl with | [_, _], _ => rfl)) q3 q4 rfl (by decide +kernel)
  | i + 5, hx, hr, q1, q2, q3, q4 => exact ff hr
theorem facts (N : Nat) {f : Addr} (X : K.In h) (G : h.Ns mainGlobals mg) (hfa : mg ("law" : Str) = some (.ref f)) (c : SaysP (clsB dat) fa fn K) : ∃ fd : FuncData, (∀ (s : Shared) (v : Value), BindsTo s fd ⟨[v], []⟩ [("script", v)]) ∧ ∀ base : Heap, FnOk p w K mg base (CXw p) (3 * (N + 1)) f fd ["script"] (spF (dat.c K) (prog.prot 42) 1 (run prog (N + 1) 42)) := by
  obtain ⟨c0, cB⟩ := c.d
  obtain ⟨fd, F⟩ := c0.def_ 42 (d := d_law) rfl
  have e := hfa.symm.trans (He.glo_ok X G (c0.fact 42 (f := .glo "law") rfl))
  cases e
  have b := FunD.bindsA (ps := ["script"]) F (fun _ _ _ _ _ _ us hl => match us, hl with | [_], _ => rfl)
  exact ⟨fd, fun s v => b s [v] rfl, fun base => FnOk.any (fn_level (factsK X G c) N F sc_law rfl rfl rfl (by decide) ck_law)⟩
end
end Pw
open PySem PySem.W PySem.Calls PyProof.Rows
theorem PySem.Challenge.cw_lastisdone_k63_chains_times_a_factor_holds : PySem.Challenge.rw_lastisdone_k63_chains_times_a_factor.Holds := by
  w_on; o_law
  refine HandSHeadRun.head_any (r := OpenLaw.row PySem.Challenge.rw_lastisdone_k63_chains_times_a_factor) (q := view (OpenLaw.row PySem.Challenge.rw_lastisdone_k63_chains_times_a_factor).prog [55]) (H := Pw.hk) (ob := Pw.ob) (M := 4000) (loose := Pw.loose) (d := HandSHeadRun.topDef (OpenLaw.row PySem.Challenge.rw_lastisdone_k63_chains_times_a_factor).prog 55) (kwd := []) Pw.ob_eq (by kernel_rfl) (fun s => by kernel_rfl) Pw.run_ok (by kernel_rfl) (by kernel_rfl) (by kernel_rfl) (by rfl) (by first | assumption | decide +kernel) (by decide +kernel) ⟨rfl, rfl, rfl, rfl, rfl, by decide +kernel⟩ ?hw ?hc
  case hw => w_witness2
  case hc =>
    refine L2.walk_ofE (l := PySem.Challenge.rw_lastisdone_k63_chains_times_a_factor) (n := 63) (k := 3 * 9) (x := "script") (CX := Pv.CXw PySem.Challenge.rw_lastisdone_k63_chains_times_a_factor.prog) rfl (by decide) (by kernel_rfl) ⟨rfl, by decide, by decide⟩ ?F (fun H s e s' q => Pv.cxw_no H s e s' q)
    intro w mg fa h Y G hmg0
    obtain ⟨K, KX, c⟩ := Y
    have hmg : mg ("law" : PySem.Str) = some (.ref fa) := by
      have e : (HandSHeadRun.topDef (OpenLaw.row PySem.Challenge.rw_lastisdone_k63_chains_times_a_factor).prog 55).name = ("law" : PySem.Str) := by kernel_rfl
      rw [← e]
      exact hmg0
    obtain ⟨fd, hb, hF⟩ := Pw.facts (p := PySem.Challenge.rw_lastisdone_k63_chains_times_a_factor.prog) (w := w) 8 KX G hmg c
    exact ⟨K, fd, _, KX, hb, fun H a ns hl hO hS => by
      obtain ⟨ce, q⟩ := Pw.pure_law ns
      exact Pv.law_in (K := K) rfl hO hS q, fun base _ _ => hF base⟩
