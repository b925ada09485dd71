import PyProof.Rows.All
import HandS.ForMost
import HandS.IsInst
import HandS.TupAny
import HandS.TupMul
import HandS.Exc
import HandS.ExcOwn
import HandS.CallSlots
import HandS.WordsExc
import HandS.Walk
import PyProof.EqKinds
import PyProof.FactsAll.dict
import HandS.Wide
import KE.KEqNest
import PyProof.NeKinds
import HandS.TupLe
import HandS.More
import KE.GoesMore
import PyProof.EnumMake
import HandS.Flow
import HandS.Small
import PySem.Challenge.RW_dealcourt_k82_whole_played_alone
set_option linter.all false
/-! DCore: a small language of values (D), cells, expressions (CE) and statements (CS), and its evaluator. Pure Lean. -/
namespace DC
open PySem (Str)
abbrev Key := Sum Int Str

inductive D where
  | non | bl (b : Bool) | int (i : Int) | str (x : Str)
  | tup (ds : List D) | lst (ds : List D) | dct (ks : List Key) (vs : List D)
  | scr (ds : List D) | ref (n : Nat)
  deriving Inhabited

/-- what can change; llst, ldct: locked while it is walked -/
inductive Cell where
  | lst (ds : List D) | dct (ks : List Key) (vs : List D) | ins (c : Str) (fs : List (Str × D))
  | llst (ds : List D) | ldct (ks : List Key) (vs : List D)
  deriving Inhabited
def Cell.locked : Cell → Bool
  | .llst _ => true
  | .ldct _ _ => true
  | _ => false

inductive Slot where
  | no | val (d : D) | own (c : Cell)
  deriving Inhabited

structure Exn where
  c : Str
  fs : List (Str × D)

inductive Res (α : Type) where
  | ok (a : α) (h : List Cell) | exc (e : Exn) (h : List Cell)
abbrev Out (α : Type) := Option (Res α)
def bnd {α β : Type} (m : Out α) (f : α → List Cell → Out β) : Out β :=
  match m with
  | some (.ok a h) => f a h
  | some (.exc e h) => some (.exc e h)
  | none => none
/-- a value of no effect -/
def liftO {α : Type} (m : Option α) (h : List Cell) : Out α :=
  match m with
  | some a => some (.ok a h)
  | none => none
/-- no exception may come out -/
def calmO {α : Type} (m : Out α) : Out α :=
  match m with
  | some (.ok a h) => some (.ok a h)
  | _ => none
abbrev maxLen : Nat := 16777216

inductive Op where
  | add | sub | mul | fdiv | mod
  deriving DecidableEq
inductive Cm where
  | eq | ne | lt | le | gt | ge | isin | notin | isN | notN | isT | notT
  deriving DecidableEq
inductive Ty where
  | str | int | bool | tuple | list | dict
  deriving DecidableEq
inductive B1 where
  | len | all | any | abs | int | str | tuple | list | max | min | sum | dict | sorted
  deriving DecidableEq
inductive B2 where
  | max | min
  deriving DecidableEq
/-- methods of built-in types that change nothing -/
inductive Bm where
  | join
  deriving DecidableEq
inductive ItK where
  | seq | range1 | range2 | enum | text | keys | items
  deriving DecidableEq
inductive Tg where
  | one (i : Nat) | tup (is : List Nat)
  deriving DecidableEq

/-- a step to what is locked -/
inductive Stp where
  | at (f : Str) | ix (d : D)
  deriving Inhabited
inductive CE where
  | c (d : D) | v (i : Nat) | pk (i : Nat) | g (i : Nat) | no
  | bin (o : Op) (a b : CE) | neg (a : CE)
  | cmp (o : Cm) (a b : CE) | chain (o o' : Cm) (a b c : CE)
  | and (a b : CE) | or (a b : CE) | not (a : CE)
  | ite (t a b : CE)
  | isi (t : Ty) (a : CE)
  | b1 (f : B1) (a : CE) | b2 (f : B2) (a b : CE)
  | bm (f : Bm) (o a : CE)
  | call (f : Nat) (as : List CE)
  | ix (a i : CE) | sl (a lo hi : CE)
  | tup (as : List CE) | lst (as : List CE) | dct (ks : List Key) (as : List CE)
  | lc (k : ItK) (srcs : List CE) (tg : Tg) (own : List Nat) (cond elt : CE)
  | new (a : CE)
  | attr (a : CE) (f : Str) | meth (a : CE) (m : Str) (as : List CE) | make (c : Str) (as : List CE)
  | getd (o k d : CE) | orv (a b : CE) | popK (o k : CE) | popL (o : CE)
  | lkd (i : Nat) (p : List Stp) (a : CE)
  deriving Inhabited

inductive CS where
  | asg (i : Nat) (e : CE) | own (i : Nat) (e : CE) | frz (i : Nat)
  | utup (is : List Nat) (e : CE)
  | stIx (o i e : CE)
  | aug (i : Nat) (e : CE)
  | app (i : Nat) (e : CE)
  | ex (e : CE) | ret (e : CE) | retN | pass
  | ite (t : CE) (a b : List CS)
  | for_ (k : ItK) (srcs : List CE) (tg : Tg) (body : List CS)
  | appR (o e : CE) | stAt (o : CE) (f : Str) (e : CE) | augAt (o : CE) (f : Str) (e : CE) | whl (t : CE) (body : List CS) | brk | cont
  | lkd (i : Nat) (p : List Stp) (s : CS)
  deriving Inhabited

def isNo : CE → Bool
  | .no => true
  | _ => false
structure Fn where
  ar : Nat
  ns : Nat
  body : List CS

structure Tb where
  fn : Nat → Option Fn
  glob : Nat → Option D
  /-- a class's method, its __init__, whether it may be asked for such a field; how often a while may turn -/
  meth : Str → Str → Option Nat := fun _ _ => none
  init : Str → Option Nat := fun _ => none
  fld : Str → Str → Bool := fun _ _ => false
  fuel : Nat := 0

def Cell.toD : Cell → D
  | .lst ds => .lst ds
  | .dct ks vs => .dct ks vs
  | .ins _ _ => .non
  | .llst ds => .lst ds
  | .ldct ks vs => .dct ks vs

mutual
def D.depth : D → Nat
  | .tup ds => depthL ds + 1
  | .lst ds => depthL ds + 1
  | .dct _ vs => depthL vs + 1
  | .scr ds => depthL ds + 1
  | _ => 0
def depthL : List D → Nat
  | [] => 0
  | d :: ds => max d.depth (depthL ds)
end
/-! ### equality -/
def dgetL : List Key → List D → Key → Option D
  | k' :: ks, x :: xs, k => if k' = k then some x else dgetL ks xs k
  | _, _, _ => none
def b2i (b : Bool) : Int := if b then 1 else 0
mutual
/-- x == y; none: not told here (two dicts, an object) -/
def eqD : D → D → Option Bool
  | .non, .non => some true
  | .non, .ref _ => none
  | .non, .scr _ => none
  | .non, _ => some false
  | .bl a, .bl b => some (a == b)
  | .bl a, .int b => some (b2i a == b)
  | .bl _, .ref _ => none
  | .bl _, .scr _ => none
  | .bl _, _ => some false
  | .int a, .bl b => some (a == b2i b)
  | .int a, .int b => some (a == b)
  | .int _, .ref _ => none
  | .int _, .scr _ => none
  | .int _, _ => some false
  | .str a, .str b => some (a == b)
  | .str _, .ref _ => none
  | .str _, .scr _ => none
  | .str _, _ => some false
  | .tup as, .tup bs => (eqZ as bs).map fun e => e && as.length == bs.length
  | .tup _, .ref _ => none
  | .tup _, .scr _ => none
  | .tup _, _ => some false
  | .lst as, .lst bs => if as.length = bs.length then eqZ as bs else some false
  | .lst _, .ref _ => none
  | .lst _, .scr _ => none
  | .lst _, _ => some false
  | .dct _ _, .dct _ _ => none
  | .dct _ _, .ref _ => none
  | .dct _ _, .scr _ => none
  | .dct _ _, _ => some false
  | .ref _, _ => none
  | .scr _, _ => none
def eqZ : List D → List D → Option Bool
  | a :: as, b :: bs => match eqD a b, eqZ as bs with
    | some x, some y => some (x && y)
    | _, _ => none
  | _, _ => some true
end
mutual
/-- x == y, dicts told as well (their keys once each) -/
def eqX : D → D → Option Bool
  | .tup as, .tup bs => (eqXZ as bs).map fun e => e && as.length == bs.length
  | .lst as, .lst bs => if as.length = bs.length then eqXZ as bs else some false
  | .dct ks xs, .dct ls ys => if ks.Nodup then (if ks.length = ls.length then eqXK ks xs ls ys else some false) else none
  | x, y => eqD x y
termination_by structural x => x
def eqXZ : List D → List D → Option Bool
  | a :: as, bs => match bs with
    | [] => some true
    | b :: bs => match eqX a b, eqXZ as bs with
      | some x, some y => some (x && y)
      | _, _ => none
  | [], _ => some true
termination_by structural x => x
def eqXK : List Key → List D → List Key → List D → Option Bool
  | ks, x :: xs, ls, ys => match ks with
    | [] => some true
    | k :: ks => match dgetL ls ys k with
      | none => some false
      | some y => match eqX x y, eqXK ks xs ls ys with
        | some a, some b => some (a && b)
        | _, _ => none
  | _, [], _, _ => some true
termination_by structural _ x => x
end
/-- some item of ys is equal to x -/
def inL (x : D) : List D → Option Bool
  | [] => some false
  | y :: ys => match eqD y x, inL x ys with
    | some a, some b => some (a || b)
    | _, _ => none

def seqOf (h : List Cell) : D → Option (List D)
  | .tup ds => some ds
  | .lst ds => some ds
  | .scr ds => some ds
  | .ref n => match h[n]? with
    | some (.lst ds) => some ds
    | some (.llst ds) => some ds
    | _ => none
  | _ => none
/-- a list (no tuple) -/
def lstOf (h : List Cell) : D → Option (List D)
  | .lst ds => some ds
  | .ref n => match h[n]? with
    | some (.lst ds) => some ds
    | some (.llst ds) => some ds
    | _ => none
  | _ => none
def fits (n : Nat) : Bool := decide (n ≤ maxLen)

def strCat (x y : Str) : Option D := if x.length + y.length ≤ maxLen then some (.str (x ++ y)) else none
def strRep (x : Str) (k : Int) : Option D := if 1 ≤ k ∧ k ≤ 1000 ∧ x.length ≤ 1000 then some (.str ⟨((List.replicate k.toNat x.cps.toList).flatten).toArray⟩) else none
def intFits (i : Int) : Bool := decide (-(2 ^ 64) < i) && decide (i < 2 ^ 64)
def addD (h : List Cell) : D → D → Option D
  | .int i, .int j => some (.int (i + j))
  | .str x, .str y => strCat x y
  | .tup as, .tup bs => if as.length + bs.length ≤ maxLen then some (.tup (as ++ bs)) else none
  | x, y => match lstOf h x, lstOf h y with
    | some as, some bs => if as.length + bs.length ≤ maxLen then some (.lst (as ++ bs)) else none
    | _, _ => none
def mulD (h : List Cell) : D → D → Option D
  | .int i, .int j => if intFits i || intFits j then some (.int (i * j)) else none
  | .str x, .int k => strRep x k
  | .tup as, .int k => if as.length ≤ 1000 ∧ 1 ≤ k ∧ k ≤ 1000 then some (.tup ((List.replicate k.toNat as).flatten)) else none
  | _, _ => none
def binD (o : Op) (h : List Cell) (x y : D) : Option D :=
  match o with
  | .add => addD h x y
  | .mul => mulD h x y
  | .sub => match x, y with
    | .int i, .int j => some (.int (i - j))
    | _, _ => none
  | .mod => match x, y with
    | .int i, .int j => if 0 < j then some (.int (i % j)) else none
    | _, _ => none
  | .fdiv => match x, y with
    | .int i, .int j => if 0 < j ∧ j < 2 ^ 64 then some (.int (i / j)) else none
    | _, _ => none
/-- what a value holds at this time: cells told by what is in them (n deep) -/
def expD (h : List Cell) : Nat → D → D
  | 0, d => d
  | n + 1, d => match d with
    | .tup ds => .tup (ds.map (expD h n))
    | .lst ds => .lst (ds.map (expD h n))
    | .dct ks xs => .dct ks (xs.map (expD h n))
    | .ref k => match h[k]? with
      | some (.lst ds) => .lst (ds.map (expD h n))
      | some (.llst ds) => .lst (ds.map (expD h n))
      | some (.dct ks xs) => .dct ks (xs.map (expD h n))
      | _ => .ref k
    | d => d
def eqH (h : List Cell) (x y : D) : Option Bool :=
  if min x.depth y.depth ≤ 100 then (match eqD x y with
    | some b => some b
    | none => let a := expD h 12 x; let b := expD h 12 y; if min a.depth b.depth ≤ 100 then eqX a b else none)
  else none
def inH (h : List Cell) (x y : D) : Option Bool :=
  match y with
  | .str z => match x with
    | .str a => match a.cps.toList with
      | [c] => some (decide (c ∈ z.cps.toList))
      | _ => none
    | _ => none
  | y => match seqOf h y with
    | some ys => if min x.depth (depthL ys) ≤ 100 then inL x ys else none
    | none => none
/-- x != y, of flat things -/
def neD : D → D → Option Bool
  | .bl a, .bl b => some (!(a == b))
  | .int a, .int b => some (!(a == b))
  | .str a, .str b => some (!(a == b))
  | .non, .non => some false
  | .non, .int _ => some true
  | .int _, .non => some true
  | .non, .str _ => some true
  | .str _, .non => some true
  | _, _ => none
/-- x != y of lists, tuples, dicts -/
def neX : D → D → Option Bool
  | .lst as, .lst bs => (eqD (.lst as) (.lst bs)).map (!·)
  | .tup as, .tup bs => (eqX (.tup as) (.tup bs)).map (!·)
  | .dct ks xs, .dct ls ys => (eqX (.dct ks xs) (.dct ls ys)).map (!·)
  | _, _ => none
def neH (h : List Cell) (x y : D) : Option Bool := match neD x y with
  | some b => some b
  | none => let a := expD h 12 x; let b := expD h 12 y; if min a.depth b.depth ≤ 100 then neX a b else none
def cmpD (o : Cm) (h : List Cell) (x y : D) : Option D :=
  match o with
  | .eq => (eqH h x y).map fun b => .bl b
  | .ne => (neH h x y).map fun b => .bl b
  | .isin => (inH h x y).map fun b => .bl b
  | .notin => (inH h x y).map fun b => .bl (!b)
  | .lt => match x, y with
    | .int i, .int j => some (.bl (decide (i < j)))
    | _, _ => none
  | .le => match x, y with
    | .int i, .int j => some (.bl (decide (i ≤ j)))
    | _, _ => none
  | .gt => match x, y with
    | .int i, .int j => some (.bl (decide (j < i)))
    | _, _ => none
  | .ge => match x, y with
    | .int i, .int j => some (.bl (decide (j ≤ i)))
    | _, _ => none
  | .isN => match y with
    | .non => match x with
      | .non => some (.bl true)
      | _ => some (.bl false)
    | _ => none
  | .notN => match y with
    | .non => match x with
      | .non => some (.bl false)
      | _ => some (.bl true)
    | _ => none
  | .isT => match x, y with
    | .bl a, .bl b => some (.bl (a == b))
    | _, _ => none
  | .notT => match x, y with
    | .bl a, .bl b => some (.bl (!(a == b)))
    | _, _ => none
/-- isinstance(x, t) -/
def isiD (t : Ty) (h : List Cell) : D → Option Bool
  | .non => some false
  | .bl _ => some (t == .bool || t == .int)
  | .int _ => some (t == .int)
  | .str _ => some (t == .str)
  | .tup _ => some (t == .tuple)
  | .lst _ => some (t == .list)
  | .dct _ _ => some (t == .dict)
  | .scr _ => some (t == .list)
  | .ref n => match h[n]? with
    | some (.lst _) => some (t == .list)
    | some (.dct _ _) => some (t == .dict)
    | some (.llst _) => some (t == .list)
    | _ => none
def blsOf : List D → Option (List Bool)
  | [] => some []
  | .bl b :: ds => (blsOf ds).map (b :: ·)
  | _ => none
def intsOf : List D → Option (List Int)
  | [] => some []
  | .int b :: ds => (intsOf ds).map (b :: ·)
  | _ => none
def strsOf : List D → Option (List Str)
  | [] => some []
  | .str b :: ds => (strsOf ds).map (b :: ·)
  | _ => none
def maxL : List Int → Option Int
  | [] => none
  | [a] => some a
  | a :: r => (maxL r).map fun m => if m ≤ a then a else m
def minL : List Int → Option Int
  | [] => none
  | [a] => some a
  | a :: r => (minL r).map fun m => if a ≤ m then a else m
def keyOf : D → Option Key
  | .int i => some (.inl i)
  | .str x => some (.inr x)
  | _ => none
/-- a dict that is read -/
def dctOf (h : List Cell) : D → Option (List Key × List D)
  | .dct ks xs => some (ks, xs)
  | .ref n => match h[n]? with
    | some (.dct ks xs) => some (ks, xs)
    | some (.ldct ks xs) => some (ks, xs)
    | _ => none
  | _ => none
/-- the keys, all texts -/
def txtKs : List Key → Option (List Str)
  | [] => some []
  | .inr x :: ks => (txtKs ks).map (x :: ·)
  | _ => none
def strLe (x y : Str) : Bool := !PySem.Spec.ltCps y.cps.toList x.cps.toList
def insS (x : Str) : List Str → List Str
  | [] => [x]
  | y :: ys => if strLe x y then x :: y :: ys else y :: insS x ys
def sortS : List Str → List Str
  | [] => []
  | x :: xs => insS x (sortS xs)
/-- d.get(k, e) -/
def getdD (h : List Cell) (x y z : D) : Option D := match dctOf h x with
  | some (ks, xs) => (keyOf y).map fun k => (dgetL ks xs k).getD z
  | none => none
/-- what counts as true -/
def truD (h : List Cell) : D → Option Bool
  | .non => some false
  | .bl b => some b
  | .int i => some (!decide (i = 0))
  | .str x => some (!decide (x.length = 0))
  | .tup ds => some (!ds.isEmpty)
  | .lst ds => some (!ds.isEmpty)
  | _ => none
def attrD (fld : Str → Str → Bool) (h : List Cell) (x : D) (f : Str) : Option D := match x with
  | .ref n => match h[n]? with
    | some (.ins c fs) => if fld c f then fs.lookup f else none
    | _ => none
  | _ => none
def methD (meth : Str → Str → Option Nat) (h : List Cell) (x : D) (m : Str) : Option Nat := match x with
  | .ref n => match h[n]? with
    | some (.ins c fs) => if (fs.lookup m).isNone then meth c m else none
    | _ => none
  | _ => none
def putFD (f : Str) (v : D) : List (Str × D) → List (Str × D)
  | [] => [(f, v)]
  | (g, x) :: r => if g = f then (g, v) :: r else (g, x) :: putFD f v r
def stAtD (fld : Str → Str → Bool) (h : List Cell) (x : D) (f : Str) (v : D) : Option (List Cell) := match x with
  | .ref n => match h[n]? with
    | some (.ins c fs) => if fld c f && decide (fs.length < 1000) then some (h.set n (.ins c (putFD f v fs))) else none
    | _ => none
  | _ => none
/-- whose instance -/
def insD (h : List Cell) (x : D) : Option Str := match x with
  | .ref n => match h[n]? with
    | some (.ins c _) => some c
    | _ => none
  | _ => none
def appRD (h : List Cell) (x v : D) : Option (List Cell) := match x with
  | .ref n => match h[n]? with
    | some (.lst ds) => if ds.length < maxLen then some (h.set n (.lst (ds ++ [v]))) else none
    | _ => none
  | _ => none
def dropL : List Key → List D → Key → List D
  | k' :: ks, x :: xs, k => if k' = k then dropL ks xs k else x :: dropL ks xs k
  | _, _, _ => []
def popKD (h : List Cell) (x y : D) : Option (D × List Cell) := match x with
  | .ref n => match h[n]? with
    | some (.dct ks xs) => match keyOf y with
      | some k => (dgetL ks xs k).map fun v => (v, h.set n (.dct (ks.filter fun k' => decide (k' ≠ k)) (dropL ks xs k)))
      | none => none
    | _ => none
  | _ => none
def popLD (h : List Cell) (x : D) : Option (D × List Cell) := match x with
  | .ref n => match h[n]? with
    | some (.lst ds) => ds.getLast?.map fun v => (v, h.set n (.lst ds.dropLast))
    | _ => none
  | _ => none
def b1D (f : B1) (h : List Cell) (x : D) : Option D :=
  match f with
  | .len => match x with
    | .str z => some (.int z.length)
    | x => (seqOf h x).map fun ds => .int ds.length
  | .all => (lstOf h x).bind fun ds => (blsOf ds).map fun bs => .bl (bs.all id)
  | .any => (lstOf h x).bind fun ds => (blsOf ds).map fun bs => .bl (bs.any id)
  | .abs => match x with
    | .int i => some (.int (if i < 0 then -i else i))
    | _ => none
  | .int => match x with
    | .int i => some (.int i)
    | .bl b => some (.int (if b then 1 else 0))
    | _ => none
  | .str => match x with
    | .int i => if 0 ≤ i ∧ i < 1000000000000000 then some (.str (toString i : String)) else none
    | _ => none
  | .tuple => (seqOf h x).map .tup
  | .list => (seqOf h x).map .lst
  | .max => (lstOf h x).bind fun ds => (intsOf ds).bind fun ns => (maxL ns).map .int
  | .min => (lstOf h x).bind fun ds => (intsOf ds).bind fun ns => (minL ns).map .int
  | .sum => (lstOf h x).bind fun ds => (intsOf ds).map fun ns => .int ns.sum
  | .dict => (dctOf h x).map fun p => .dct p.1 p.2
  | .sorted => (dctOf h x).bind fun p => (txtKs p.1).bind fun ks => if ks.length < 64 && ks.all (fun x => decide (x.length ≤ maxLen)) then some (.lst ((sortS ks).map .str)) else none
def b2D (f : B2) (x y : D) : Option D :=
  match x, y with
  | .int i, .int j => match f with
    | .max => some (.int (if j > i then j else i))
    | .min => some (.int (if j < i then j else i))
  | _, _ => none
def bmD (f : Bm) (h : List Cell) (o x : D) : Option D :=
  match f with
  | .join => match o with
    | .str z => (seqOf h x).bind fun ds => (strsOf ds).bind fun ss => if (ss.map (·.length)).sum + ss.length * z.length ≤ maxLen then some (.str (PySem.Txt.join z ss)) else none
    | _ => none
def dputL : List Key → List D → Key → D → List D
  | k' :: ks, x :: xs, k, d => (if k' = k then d else x) :: dputL ks xs k d
  | _, _, _, _ => []
def hasK (ks : List Key) (k : Key) : Bool := ks.any fun k' => decide (k' = k)
def ixD (h : List Cell) (x i : D) : Option D :=
  match dctOf h x with
  | some (ks, xs) => (keyOf i).bind fun k => dgetL ks xs k
  | none => match i with
    | .int k => match x with
      | .str z => (L2.atI z.cps.toList k).map fun c => .str ⟨#[c]⟩
      | x => (seqOf h x).bind fun ds => L2.atI ds k
    | _ => none
/-- a bound of a slice; left out: the first is true -/
def boundC : Bool → D → Option (Option Int)
  | true, _ => some none
  | false, .int i => some (some i)
  | _, _ => none
/-- xs[lo:hi] -/
def cut {α : Type} (xs : List α) (lo hi : Option Int) : List α := (xs.drop (HT.sIx xs.length 0 lo)).take (HT.sIx xs.length xs.length hi - HT.sIx xs.length 0 lo)
def slI (h : List Cell) (x : D) (lo hi : Option Int) : Option D :=
  match x with
  | .str z => some (.str ⟨(cut z.cps.toList lo hi).toArray⟩)
  | .tup ds => some (.tup (cut ds lo hi))
  | x => (lstOf h x).map fun ds => .lst (cut ds lo hi)
def negD : D → Option D
  | .int i => some (.int (-i))
  | _ => none
def wipeOk (Γ : List Slot) (own : List Nat) : Bool := own.all fun i => match Γ[i]? with
  | some (.own _) => false
  | _ => true
/-- a key as a value -/
def kD : Key → D
  | .inl i => .int i
  | .inr x => .str x
def kOk : Key → Bool
  | .inl _ => true
  | .inr x => decide (x.length ≤ maxLen)
/-- what a for or a comprehension walks -/
def itemsOf (k : ItK) (h : List Cell) (ds : List D) : Option (List D) :=
  match k, ds with
  | .seq, [.tup ds] => some ds
  | .seq, [.lst ds] => some ds
  | .seq, [.scr ds] => some ds
  | .seq, [.ref n] => match h[n]? with
    | some (.llst ds) => some ds
    | _ => none
  | .keys, [.ref n] => match h[n]? with
    | some (.ldct ks _) => if ks.all kOk then some (ks.map kD) else none
    | _ => none
  | .items, [.ref n] => match h[n]? with
    | some (.ldct ks xs) => if ks.all kOk && decide (ks.length = xs.length) then some ((ks.zip xs).map fun p => .tup [kD p.1, p.2]) else none
    | _ => none
  | .range1, [.int n] => if -1000000 ≤ n ∧ n ≤ 1000000 then some ((List.range n.toNat).map fun (i : Nat) => .int (i : Int)) else none
  | .range2, [.int m, .int n] => if -1000000 ≤ m ∧ m ≤ 1000000 ∧ -1000000 ≤ n ∧ n ≤ 1000000 then some ((List.range (n - m).toNat).map fun (i : Nat) => .int (m + (i : Int))) else none
  | .enum, [.tup ds] => some (ds.mapIdx fun i d => .tup [.int i, d])
  | .enum, [.lst ds] => some (ds.mapIdx fun i d => .tup [.int i, d])
  | .text, [.str z] => some (z.cps.toList.map fun c => .str ⟨#[c]⟩)
  | _, _ => none
def setAll : List Nat → List D → List Slot → Option (List Slot)
  | [], [], Γ => some Γ
  | i :: is, d :: ds, Γ => setAll is ds (Γ.set i (.val d))
  | _, _, _ => none
def setTg (t : Tg) (d : D) (Γ : List Slot) : Option (List Slot) :=
  match t with
  | .one i => some (Γ.set i (.val d))
  | .tup is => match d with
    | .tup ds => setAll is ds Γ
    | _ => none
def wipeS (Γ : List Slot) : List Nat → List Slot
  | [] => Γ
  | i :: is => (wipeS Γ is).set i .no
/-- where the steps lead -/
def stepsD (h : List Cell) : List Stp → D → Option Nat
  | [], .ref n => some n
  | .at f :: p, .ref n => match h[n]? with
    | some (.ins _ fs) => (fs.lookup f).bind fun d => stepsD h p d
    | _ => none
  | .ix k :: p, x => (ixD h x k).bind fun d => stepsD h p d
  | _, _ => none
def lookD (Γ : List Slot) (h : List Cell) (i : Nat) (p : List Stp) : Option Nat := match Γ[i]? with
  | some (.val d) => stepsD h p d
  | _ => none
def lockC : Cell → Option Cell
  | .lst ds => some (.llst ds)
  | .dct ks xs => some (.ldct ks xs)
  | _ => none
def unlockC : Cell → Option Cell
  | .llst ds => some (.lst ds)
  | .ldct ks xs => some (.dct ks xs)
  | _ => none
def lockH (h : List Cell) (n : Nat) : Option (List Cell) := (h[n]?.bind lockC).map fun c => h.set n c
def unlockH (h : List Cell) (n : Nat) : Option (List Cell) := (h[n]?.bind unlockC).map fun c => h.set n c
/-- a comprehension's loop -/
def lcL (f : D → List Cell → Out (Option D)) : List D → List Cell → Out (List D)
  | [], h => some (.ok [] h)
  | d :: ds, h => bnd (f d h) fun y h1 => bnd (lcL f ds h1) fun ys h2 => some (.ok (match y with | some y => y :: ys | none => ys) h2)
def newCell (h : List Cell) : D → Out D
  | .lst ds => some (.ok (.ref h.length) (h ++ [.lst ds]))
  | .dct ks vs => some (.ok (.ref h.length) (h ++ [.dct ks vs]))
  | _ => none
abbrev Call := Nat → List D → List Cell → Out D

mutual
def evalE (T : Tb) (call : Call) : CE → List Slot → List Cell → Out D
  | .c d, _, h => some (.ok d h)
  | .v i, Γ, h => match Γ[i]? with
    | some (.val d) => some (.ok d h)
    | _ => none
  | .pk i, Γ, h => match Γ[i]? with
    | some (.own c) => some (.ok c.toD h)
    | _ => none
  | .g i, _, h => liftO (T.glob i) h
  | .no, _, h => some (.ok .non h)
  | .bin o a b, Γ, h => bnd (evalE T call a Γ h) fun x h => bnd (evalE T call b Γ h) fun y h => liftO (binD o h x y) h
  | .neg a, Γ, h => bnd (evalE T call a Γ h) fun x h => liftO (negD x) h
  | .cmp o a b, Γ, h => bnd (evalE T call a Γ h) fun x h => bnd (evalE T call b Γ h) fun y h => liftO (cmpD o h x y) h
  | .chain o o' a b c, Γ, h => bnd (evalE T call a Γ h) fun x h => bnd (evalE T call b Γ h) fun y h => match cmpD o h x y with
    | some (.bl true) => bnd (evalE T call c Γ h) fun z h => liftO (cmpD o' h y z) h
    | some (.bl false) => some (.ok (.bl false) h)
    | _ => none
  | .and a b, Γ, h => bnd (evalE T call a Γ h) fun x h => match x with
    | .bl true => evalE T call b Γ h
    | .bl false => some (.ok (.bl false) h)
    | _ => none
  | .or a b, Γ, h => bnd (evalE T call a Γ h) fun x h => match x with
    | .bl true => some (.ok (.bl true) h)
    | .bl false => evalE T call b Γ h
    | _ => none
  | .not a, Γ, h => bnd (evalE T call a Γ h) fun x h => match x with
    | .bl b => some (.ok (.bl (!b)) h)
    | _ => none
  | .ite t a b, Γ, h => bnd (evalE T call t Γ h) fun x h => match x with
    | .bl true => evalE T call a Γ h
    | .bl false => evalE T call b Γ h
    | _ => none
  | .isi t a, Γ, h => bnd (evalE T call a Γ h) fun x h => liftO ((isiD t h x).map .bl) h
  | .b1 f a, Γ, h => bnd (evalE T call a Γ h) fun x h => liftO (b1D f h x) h
  | .b2 f a b, Γ, h => bnd (evalE T call a Γ h) fun x h => bnd (evalE T call b Γ h) fun y h => liftO (b2D f x y) h
  | .bm f a b, Γ, h => bnd (evalE T call a Γ h) fun x h => bnd (evalE T call b Γ h) fun y h => liftO (bmD f h x y) h
  | .call f as, Γ, h => bnd (evalEs T call as Γ h) fun xs h => call f xs h
  | .ix a b, Γ, h => bnd (evalE T call a Γ h) fun x h => bnd (evalE T call b Γ h) fun y h => liftO (ixD h x y) h
  | .sl a lo hi, Γ, h => bnd (evalE T call a Γ h) fun x h => bnd (evalE T call lo Γ h) fun l h => match boundC (isNo lo) l with
    | some l => bnd (evalE T call hi Γ h) fun u h => match boundC (isNo hi) u with
      | some u => liftO (slI h x l u) h
      | none => none
    | none => none
  | .tup as, Γ, h => bnd (evalEs T call as Γ h) fun xs h => if xs.length ≤ maxLen then some (.ok (.tup xs) h) else none
  | .lst as, Γ, h => bnd (evalEs T call as Γ h) fun xs h => if xs.length ≤ maxLen then some (.ok (.lst xs) h) else none
  | .dct ks as, Γ, h => bnd (evalEs T call as Γ h) fun xs h => some (.ok (.dct ks xs) h)
  | .lc k srcs tg own cond elt, Γ, h => bnd (evalEs T call srcs Γ h) fun ds h => match itemsOf k h ds, wipeOk Γ own with
    | some its, true => bnd (calmO (lcL (fun d h => match setTg tg d (wipeS Γ own) with
        | some Γ' => bnd (evalE T call cond Γ' h) fun b h => match b with
          | .bl true => bnd (evalE T call elt Γ' h) fun y h => some (.ok (some y) h)
          | .bl false => some (.ok none h)
          | _ => none
        | none => none) its h)) fun ys h => if ys.length ≤ maxLen then some (.ok (.lst ys) h) else none
    | _, _ => none
  | .new a, Γ, h => bnd (evalE T call a Γ h) fun x h => newCell h x
  | .attr a f, Γ, h => bnd (evalE T call a Γ h) fun x h => liftO (attrD T.fld h x f) h
  | .meth a m as, Γ, h => bnd (evalE T call a Γ h) fun x h => match methD T.meth h x m with
    | some f => bnd (evalEs T call as Γ h) fun xs h => call f (x :: xs) h
    | none => none
  | .make c as, Γ, h => match T.init c with
    | some f => bnd (evalEs T call as Γ h) fun xs h => bnd (call f (.ref h.length :: xs) (h ++ [.ins c []])) fun v h' => match v with
      | .non => some (.ok (.ref h.length) h')
      | _ => none
    | none => none
  | .getd o k d, Γ, h => bnd (evalE T call o Γ h) fun x h => if (dctOf h x).isSome then bnd (evalE T call k Γ h) fun y h => bnd (evalE T call d Γ h) fun z h => liftO (getdD h x y z) h else none
  | .orv a b, Γ, h => bnd (evalE T call a Γ h) fun x h => match truD h x with
    | some true => some (.ok x h)
    | some false => evalE T call b Γ h
    | none => none
  | .popK o k, Γ, h => bnd (evalE T call o Γ h) fun x h => if (dctOf h x).isSome then bnd (evalE T call k Γ h) fun y h => match popKD h x y with
    | some p => some (.ok p.1 p.2)
    | none => none else none
  | .popL o, Γ, h => bnd (evalE T call o Γ h) fun x h => match popLD h x with
    | some p => some (.ok p.1 p.2)
    | none => none
  | .lkd i p a, Γ, h => match lookD Γ h i p with
    | some n => match lockH h n with
      | some h1 => match evalE T call a Γ h1 with
        | some (.ok v h2) => match unlockH h2 n with
          | some h3 => some (.ok v h3)
          | none => none
        | _ => none
      | none => none
    | none => none
def evalEs (T : Tb) (call : Call) : List CE → List Slot → List Cell → Out (List D)
  | [], _, h => some (.ok [] h)
  | a :: as, Γ, h => bnd (evalE T call a Γ h) fun x h => bnd (evalEs T call as Γ h) fun xs h => some (.ok (x :: xs) h)
end

inductive SRes where
  | nx (Γ : List Slot) (h : List Cell) | brk (Γ : List Slot) (h : List Cell) | cont (Γ : List Slot) (h : List Cell)
  | ret (d : D) (h : List Cell) | exc (e : Exn) (Γ : List Slot) (h : List Cell)
abbrev OutS := Option SRes
def bndS {α : Type} (Γ : List Slot) (m : Out α) (f : α → List Cell → OutS) : OutS :=
  match m with
  | some (.ok a h) => f a h
  | some (.exc e h) => some (.exc e Γ h)
  | none => none
def thenS (m : OutS) (f : List Slot → List Cell → OutS) : OutS :=
  match m with
  | some (.nx Γ h) => f Γ h
  | m => m
/-- a for's loop -/
def forL (f : D → List Slot → List Cell → OutS) : List D → List Slot → List Cell → OutS
  | [], Γ, h => some (.nx Γ h)
  | d :: ds, Γ, h => match f d Γ h with
    | some (.nx Γ h) => forL f ds Γ h
    | some (.cont Γ h) => forL f ds Γ h
    | some (.brk Γ h) => some (.nx Γ h)
    | m => m
def putCell (c : Cell) (i e : D) : Option Cell :=
  match c with
  | .lst ds => match i with
    | .int k => (L2.ixN ds.length k).map fun j => .lst (ds.set j e)
    | _ => none
  | .dct ks xs => match keyOf i with
    | some k => if ks.length < maxLen then some (if hasK ks k then .dct ks (dputL ks xs k e) else .dct (ks ++ [k]) (xs ++ [e])) else none
    | none => none
  | _ => none
def stIxD (h : List Cell) (o i e : D) : Option (List Cell) :=
  match o with
  | .ref n => match h[n]? with
    | some c => (putCell c i e).map fun c => h.set n c
    | none => none
  | _ => none
/-- a while's turns, n at most -/
def whlL (t : List Slot → List Cell → Out D) (f : List Slot → List Cell → OutS) : Nat → List Slot → List Cell → OutS
  | 0, _, _ => none
  | n + 1, Γ, h => bndS Γ (t Γ h) fun x h => match x with
    | .bl true => match f Γ h with
      | some (.nx Γ h) => whlL t f n Γ h
      | some (.cont Γ h) => whlL t f n Γ h
      | some (.brk Γ h) => some (.nx Γ h)
      | m => m
    | .bl false => some (.nx Γ h)
    | _ => none
mutual
def execS (T : Tb) (call : Call) : CS → List Slot → List Cell → OutS
  | .asg i e, Γ, h => bndS Γ (evalE T call e Γ h) fun x h => some (.nx (Γ.set i (.val x)) h)
  | .own i e, Γ, h => bndS Γ (evalE T call e Γ h) fun x h => match x with
    | .lst ds => some (.nx (Γ.set i (.own (.lst ds))) h)
    | .dct ks vs => some (.nx (Γ.set i (.own (.dct ks vs))) h)
    | _ => none
  | .frz i, Γ, h => match Γ[i]? with
    | some (.own c) => some (.nx (Γ.set i (.val c.toD)) h)
    | _ => none
  | .utup is e, Γ, h => bndS Γ (evalE T call e Γ h) fun x h => match x with
    | .tup ds => match setAll is ds Γ with
      | some Γ => some (.nx Γ h)
      | none => none
    | _ => none
  | .stIx o i e, Γ, h => bndS Γ (evalE T call e Γ h) fun x h => bndS Γ (evalE T call o Γ h) fun y h => bndS Γ (evalE T call i Γ h) fun z h => match stIxD h y z x with
    | some h => some (.nx Γ h)
    | none => none
  | .aug i e, Γ, h => match Γ[i]? with
    | some (.val x) => bndS Γ (evalE T call e Γ h) fun y h => match x, y with
      | .int a, .int b => some (.nx (Γ.set i (.val (.int (a + b)))) h)
      | _, _ => none
    | _ => none
  | .app i e, Γ, h => match Γ[i]? with
    | some (.own (.lst ds)) => bndS Γ (evalE T call e Γ h) fun y h => if ds.length < maxLen then some (.nx (Γ.set i (.own (.lst (ds ++ [y])))) h) else none
    | _ => none
  | .ex e, Γ, h => bndS Γ (evalE T call e Γ h) fun _ h => some (.nx Γ h)
  | .ret e, Γ, h => bndS Γ (evalE T call e Γ h) fun x h => some (.ret x h)
  | .retN, _, h => some (.ret .non h)
  | .pass, Γ, h => some (.nx Γ h)
  | .ite t a b, Γ, h => bndS Γ (evalE T call t Γ h) fun x h => match x with
    | .bl true => execSs T call a Γ h
    | .bl false => execSs T call b Γ h
    | _ => none
  | .for_ k srcs tg body, Γ, h => bndS Γ (evalEs T call srcs Γ h) fun ds h => match itemsOf k h ds with
    | some its => forL (fun d Γ h => match setTg tg d Γ with
        | some Γ => execSs T call body Γ h
        | none => none) its Γ h
    | none => none
  | .appR o e, Γ, h => bndS Γ (evalE T call o Γ h) fun x h => if (lstOf h x).isSome then bndS Γ (evalE T call e Γ h) fun v h => match appRD h x v with
    | some h => some (.nx Γ h)
    | none => none else none
  | .stAt o f e, Γ, h => bndS Γ (evalE T call e Γ h) fun v h => bndS Γ (evalE T call o Γ h) fun x h => match stAtD T.fld h x f v with
    | some h => some (.nx Γ h)
    | none => none
  | .augAt o f e, Γ, h => bndS Γ (evalE T call o Γ h) fun x h => match attrD T.fld h x f with
    | some y => bndS Γ (evalE T call e Γ h) fun v h2 => match y, v with
      | .int a, .int b => if insD h x = insD h2 x then (match stAtD T.fld h2 x f (.int (a + b)) with
        | some h => some (.nx Γ h)
        | none => none) else none
      | _, _ => none
    | none => none
  | .whl t body, Γ, h => whlL (evalE T call t) (execSs T call body) T.fuel Γ h
  | .brk, Γ, h => some (.brk Γ h)
  | .cont, Γ, h => some (.cont Γ h)
  | .lkd i p s, Γ, h => match lookD Γ h i p with
    | some n => match lockH h n with
      | some h1 => match execS T call s Γ h1 with
        | some (.nx Γ2 h2) => (unlockH h2 n).map fun h3 => .nx Γ2 h3
        | some (.brk Γ2 h2) => (unlockH h2 n).map fun h3 => .brk Γ2 h3
        | some (.cont Γ2 h2) => (unlockH h2 n).map fun h3 => .cont Γ2 h3
        | some (.ret d h2) => (unlockH h2 n).map fun h3 => .ret d h3
        | _ => none
      | none => none
    | none => none
def execSs (T : Tb) (call : Call) : List CS → List Slot → List Cell → OutS
  | [], Γ, h => some (.nx Γ h)
  | s :: ss, Γ, h => thenS (execS T call s Γ h) fun Γ h => execSs T call ss Γ h
end
/-- a def's call; n: how many calls may stand in one another -/
def callN (T : Tb) : Nat → Call
  | 0, _, _, _ => none
  | n + 1, f, ds, h => match T.fn f with
    | some F => if ds.length = F.ar then match execSs T (callN T n) F.body (ds.map .val ++ List.replicate (F.ns - F.ar) .no) h with
        | some (.ret d h) => some (.ok d h)
        | some (.nx _ h) => some (.ok .non h)
        | some (.exc e _ h) => some (.exc e h)
        | _ => none
      else none
    | none => none
end DC

set_option linter.all false
set_option Elab.async false
/-! DSim: how values, cells and slots of the small language lie in the hand layer's heap. -/
namespace DC
open PySem L2

theorem sl_eq : (sizeLine : Nat) = maxLen := sizeLine_eq
theorem Same.t {K : PySem.W.Frag} {H H' : Hp} {a : Addr} {xs : List V} (e : Same H H') (h : SqT K H a xs) : SqT K H' a xs := by
  rcases h with (h | ⟨o, h⟩) | h
  · exact .inl (.inl (e _ _ h))
  · exact .inl (.inr ⟨o, e _ _ h⟩)
  · exact .inr h
theorem Same.new {H : Hp} {p : Addr} {o : HO} (h : H p = none) : Same H (upd H p o) := fun a u e => by
  rw [upd_ne (ne_of_none e h)]
  exact e

section
variable (K : PySem.W.Frag) (G : Hp) (μ : List Addr)
mutual
def RD : D → V → Prop
  | .non, v => v = .non
  | .bl b, v => v = .bl b
  | .int i, v => v = .int i
  | .str x, v => v = .str x ∧ x.length ≤ maxLen
  | .tup ds, v => ∃ a vs, v = .ref a ∧ SqT K G a vs ∧ ds.length ≤ maxLen ∧ RDs ds vs
  | .lst ds, v => ∃ a vs, v = .ref a ∧ G a = some (.lst vs) ∧ ds.length ≤ maxLen ∧ RDs ds vs
  | .dct ks xs, v => ∃ a kvs, v = .ref a ∧ G a = some (.dK kvs) ∧ kvs.map (·.1) = ks ∧ RDs xs (kvs.map (·.2))
  | .scr ds, v => ∃ a vs, v = .ref a ∧ SqL K G a vs ∧ ds.length ≤ maxLen ∧ RDs ds vs
  | .ref n, v => ∃ a, v = .ref a ∧ μ[n]? = some a
def RDs : List D → List V → Prop
  | [], vs => vs = []
  | d :: ds, vs => ∃ v r, vs = v :: r ∧ RD d v ∧ RDs ds r
end
def CellAt (H : Hp) (a : Addr) : Cell → Prop
  | .lst ds => ∃ vs, H a = some (.lst vs) ∧ ds.length ≤ maxLen ∧ RDs K G μ ds vs
  | .dct ks xs => ∃ kvs, H a = some (.dK kvs) ∧ kvs.map (·.1) = ks ∧ RDs K G μ xs (kvs.map (·.2))
  | .ins _ _ => False
  | .llst _ => False
  | .ldct _ _ => False
/-- where the class c of the text's top lies -/
def clsA (c : Str) : Addr := match PySem.W.nsIn K mainGlobals c with
  | some (some (.ref C)) => C
  | _ => 0
/-- a cell; lk: what is locked -/
def CellA (lk : Hp) (H : Hp) (a : Addr) : Cell → Prop
  | .ins c fs => ∃ dx fv, H a = some (.ins (clsA K c) dx fv) ∧ fv.map (·.1) = fs.map (·.1) ∧ RDs K G μ (fs.map (·.2)) (fv.map (·.2))
  | .llst ds => ∃ vs, H a = some (.lst vs) ∧ lk a = some (.lst vs) ∧ ds.length ≤ maxLen ∧ RDs K G μ ds vs
  | .ldct ks xs => ∃ o kvs, H a = some (.frz o (.dK kvs)) ∧ lk a = some (.frz o (.dK kvs)) ∧ kvs.map (·.1) = ks ∧ RDs K G μ xs (kvs.map (·.2))
  | c => CellAt K G μ H a c
end
section
variable {K : PySem.W.Frag} {G G' : Hp} {μ μ' : List Addr}
theorem RDs.len : ∀ {ds : List D} {vs : List V}, RDs K G μ ds vs → ds.length = vs.length
  | [], vs, h => by
    have h' : vs = [] := h
    subst h'
    rfl
  | d :: ds, vs, h => by
    obtain ⟨v, r, rfl, _, q⟩ := h
    simp [RDs.len q]
theorem RDs.at : ∀ {ds : List D} {vs : List V} {i : Nat} {d : D}, RDs K G μ ds vs → ds[i]? = some d → ∃ v, vs[i]? = some v ∧ RD K G μ d v
  | [], vs, i, d, _, e => by simp at e
  | d :: ds, vs, 0, d', h, e => by
    obtain ⟨v, r, rfl, q, _⟩ := h
    simp at e
    subst e
    exact ⟨v, rfl, q⟩
  | d :: ds, vs, i + 1, d', h, e => by
    obtain ⟨v, r, rfl, _, q⟩ := h
    obtain ⟨v', e1, e2⟩ := RDs.at (i := i) q (by simpa using e)
    exact ⟨v', by simpa using e1, e2⟩
theorem RDs.mk : ∀ {ds : List D} {vs : List V}, ds.length = vs.length → (∀ (i : Nat) (d : D) (v : V), ds[i]? = some d → vs[i]? = some v → RD K G μ d v) → RDs K G μ ds vs
  | [], vs, hl, h => by
    cases vs with
    | nil => rfl
    | cons a b => simp at hl
  | d :: ds, vs, hl, h => by
    cases vs with
    | nil => simp at hl
    | cons v r => exact ⟨v, r, rfl, h 0 d v rfl rfl, RDs.mk (by simpa using hl) fun i d' v' e1 e2 => h (i + 1) d' v' (by simpa using e1) (by simpa using e2)⟩
theorem RDs.get2 {ds : List D} {vs : List V} {i : Nat} {d : D} {v : V} (h : RDs K G μ ds vs) (e : ds[i]? = some d) (e' : vs[i]? = some v) : RD K G μ d v := by
  obtain ⟨v', e1, r⟩ := h.at e
  rw [e'] at e1
  cases e1
  exact r
theorem RDs.nil : RDs K G μ [] [] := rfl
theorem RDs.cons {d : D} {ds : List D} {v : V} {vs : List V} (h : RD K G μ d v) (t : RDs K G μ ds vs) : RDs K G μ (d :: ds) (v :: vs) := ⟨v, vs, rfl, h, t⟩
theorem RDs.app : ∀ {ds es : List D} {vs ws : List V}, RDs K G μ ds vs → RDs K G μ es ws → RDs K G μ (ds ++ es) (vs ++ ws)
  | [], es, vs, ws, h, t => by
    have h' : vs = [] := h
    subst h'
    exact t
  | d :: ds, es, vs, ws, h, t => by
    obtain ⟨v, r, rfl, q, q'⟩ := h
    exact ⟨v, r ++ ws, rfl, q, RDs.app q' t⟩
theorem RDs.snoc {d : D} {ds : List D} {v : V} {vs : List V} (t : RDs K G μ ds vs) (h : RD K G μ d v) : RDs K G μ (ds ++ [d]) (vs ++ [v]) := t.app (.cons h .nil)
theorem RDs.drop : ∀ {ds : List D} {vs : List V} (n : Nat), RDs K G μ ds vs → RDs K G μ (ds.drop n) (vs.drop n)
  | _, _, 0, h => by simpa using h
  | [], vs, n + 1, h => by
    have h' : vs = [] := h
    subst h'
    rfl
  | d :: ds, vs, n + 1, h => by
    obtain ⟨v, r, rfl, _, q⟩ := h
    simpa using RDs.drop n q
theorem RDs.take : ∀ {ds : List D} {vs : List V} (n : Nat), RDs K G μ ds vs → RDs K G μ (ds.take n) (vs.take n)
  | _, _, 0, h => by simp [RDs]
  | [], vs, n + 1, h => by
    have h' : vs = [] := h
    subst h'
    rfl
  | d :: ds, vs, n + 1, h => by
    obtain ⟨v, r, rfl, q, q'⟩ := h
    exact ⟨v, r.take n, rfl, q, RDs.take n q'⟩
theorem RDs.cut {ds : List D} {vs : List V} {lo hi : Option Int} (h : RDs K G μ ds vs) : RDs K G μ (DC.cut ds lo hi) (cutV vs lo hi) := by
  unfold DC.cut cutV
  rw [h.len]
  exact (h.drop _).take _
theorem cut_len {α : Type} (ds : List α) (lo hi : Option Int) : (DC.cut ds lo hi).length ≤ ds.length := by
  unfold DC.cut
  rw [List.length_take, List.length_drop]
  omega
theorem RDs.set : ∀ {ds : List D} {vs : List V} {d : D} {v : V} (i : Nat), RDs K G μ ds vs → RD K G μ d v → RDs K G μ (ds.set i d) (vs.set i v)
  | [], vs, d, v, i, h, _ => by
    have h' : vs = [] := h
    subst h'
    rfl
  | e :: ds, vs, d, v, 0, h, q => by
    obtain ⟨v', r, rfl, _, q'⟩ := h
    exact ⟨v, r, rfl, q, q'⟩
  | e :: ds, vs, d, v, i + 1, h, q => by
    obtain ⟨v', r, rfl, q1, q'⟩ := h
    exact ⟨v', r.set i v, rfl, q1, RDs.set i q' q⟩
theorem RDs.rep {ds : List D} {vs : List V} (h : RDs K G μ ds vs) : ∀ n : Nat, RDs K G μ (List.replicate n ds).flatten (List.replicate n vs).flatten
  | 0 => rfl
  | n + 1 => by
    rw [List.replicate_succ, List.replicate_succ, List.flatten_cons, List.flatten_cons]
    exact h.app (RDs.rep h n)
mutual
theorem RD.mono (e : Same G G') (m : μ <+: μ') : ∀ {d : D} {v : V}, RD K G μ d v → RD K G' μ' d v
  | .non, _, h => h
  | .bl _, _, h => h
  | .int _, _, h => h
  | .str _, _, h => h
  | .tup ds, v, h => by
    obtain ⟨a, vs, q, s, z, r⟩ := h
    exact ⟨a, vs, q, Same.t e s, z, RDs.mono e m r⟩
  | .lst ds, v, h => by
    obtain ⟨a, vs, q, s, z, r⟩ := h
    exact ⟨a, vs, q, e _ _ s, z, RDs.mono e m r⟩
  | .dct ks xs, v, h => by
    obtain ⟨a, vs, q, s, z, r⟩ := h
    exact ⟨a, vs, q, e _ _ s, z, RDs.mono e m r⟩
  | .scr ds, v, h => by
    obtain ⟨a, vs, q, s, z, r⟩ := h
    exact ⟨a, vs, q, e.seq s, z, RDs.mono e m r⟩
  | .ref n, v, h => by
    obtain ⟨a, q, s⟩ := h
    obtain ⟨t, rfl⟩ := m
    exact ⟨a, q, by rw [List.getElem?_append_left (List.getElem?_eq_some_iff.mp s).1]; exact s⟩
theorem RDs.mono (e : Same G G') (m : μ <+: μ') : ∀ {ds : List D} {vs : List V}, RDs K G μ ds vs → RDs K G' μ' ds vs
  | [], _, h => h
  | d :: ds, vs, h => by
    obtain ⟨v, r, q, h1, h2⟩ := h
    exact ⟨v, r, q, RD.mono e m h1, RDs.mono e m h2⟩
end
/-- a cell is left where it is -/
theorem CellAt.mono {H H' : Hp} {a : Addr} {c : Cell} (h : CellAt K G μ H a c) (e : Same G G') (m : μ <+: μ') (k : H' a = H a) : CellAt K G' μ' H' a c := by
  cases c with
  | lst ds =>
    obtain ⟨vs, q, z, r⟩ := h
    exact ⟨vs, k.trans q, z, r.mono e m⟩
  | dct ks xs =>
    obtain ⟨vs, q, z, r⟩ := h
    exact ⟨vs, k.trans q, z, r.mono e m⟩
  | ins c fs => exact h
  | llst _ => exact h
  | ldct _ _ => exact h
theorem CellA.mono {lk H H' : Hp} {a : Addr} {c : Cell} (h : CellA K G μ lk H a c) (e : Same G G') (m : μ <+: μ') (k : H' a = H a) : CellA K G' μ' lk H' a c := by
  cases c with
  | lst ds => exact CellAt.mono (c := .lst ds) h e m k
  | dct ks xs => exact CellAt.mono (c := .dct ks xs) h e m k
  | ins c fs =>
    obtain ⟨dx, fv, q, z, r⟩ := h
    exact ⟨dx, fv, k.trans q, z, r.mono e m⟩
  | llst ds =>
    obtain ⟨vs, q, l, z, r⟩ := h
    exact ⟨vs, k.trans q, l, z, r.mono e m⟩
  | ldct ks xs =>
    obtain ⟨o, kvs, q, l, z, r⟩ := h
    exact ⟨o, kvs, k.trans q, l, z, r.mono e m⟩
theorem CellA.there {lk H : Hp} {a : Addr} {c : Cell} (h : CellA K G μ lk H a c) : ∃ o, H a = some o := by
  cases c with
  | lst ds =>
    obtain ⟨vs, q, _⟩ := h
    exact ⟨_, q⟩
  | dct ks xs =>
    obtain ⟨vs, q, _⟩ := h
    exact ⟨_, q⟩
  | ins c fs =>
    obtain ⟨dx, fv, q, _⟩ := h
    exact ⟨_, q⟩
  | llst ds =>
    obtain ⟨vs, q, _⟩ := h
    exact ⟨_, q⟩
  | ldct ks xs =>
    obtain ⟨o, kvs, q, _⟩ := h
    exact ⟨_, q⟩
theorem CellAt.there {H : Hp} {a : Addr} {c : Cell} (h : CellAt K G μ H a c) : ∃ o, H a = some o := by
  cases c with
  | lst ds =>
    obtain ⟨vs, q, _⟩ := h
    exact ⟨_, q⟩
  | dct ks xs =>
    obtain ⟨vs, q, _⟩ := h
    exact ⟨_, q⟩
  | ins c fs => exact h.elim
  | llst _ => exact h.elim
  | ldct _ _ => exact h.elim
theorem CellAt.unlocked {H : Hp} {a : Addr} {c : Cell} (h : CellAt K G μ H a c) : c.locked = false := by
  cases c <;> first | rfl | exact h.elim
theorem CellAt.toA {lk H : Hp} {a : Addr} {c : Cell} (h : CellAt K G μ H a c) : CellA K G μ lk H a c := by
  cases c <;> first | exact h | exact h.elim
/-- what a cell holds, frozen -/
theorem CellAt.frz {H : Hp} {a : Addr} {c : Cell} (h : CellAt K G μ H a c) (e : Same G G') (k : G' a = H a) : RD K G' μ c.toD (.ref a) := by
  cases c with
  | lst ds =>
    obtain ⟨vs, q, z, r⟩ := h
    exact ⟨a, vs, rfl, k.trans q, z, r.mono e (List.prefix_refl _)⟩
  | dct ks xs =>
    obtain ⟨vs, q, z, r⟩ := h
    exact ⟨a, vs, rfl, k.trans q, z, r.mono e (List.prefix_refl _)⟩
  | ins c fs => exact h.elim
  | llst _ => exact h.elim
  | ldct _ _ => exact h.elim
end

/-! ### the state -/
/-- what stays while a body runs: F, the rest of the heap; G0, μ0: what was frozen, which cells there were at the entry -/
structure Fr where
  F : Hp
  G0 : Hp
  μ0 : List Addr
  lk : Hp
def SlotAt (K : PySem.W.Frag) (G : Hp) (μ : List Addr) (F H : Hp) (x : Option (Option V)) : Slot → Prop
  | .no => True
  | .val d => ∃ v, x = some (some v) ∧ RD K G μ d v
  | .own c => ∃ a, x = some (some (.ref a)) ∧ CellAt K G μ H a c ∧ G a = none ∧ F a = none ∧ a ∉ μ
structure Sim (K : PySem.W.Frag) (R : Fr) (G : Hp) (μ : List Addr) (Γ : List Slot) (h : List Cell) (σ : St) (H : Hp) : Prop where
  gh : Same G H
  fh : Same R.F H
  g0 : Same R.G0 G
  m0 : R.μ0 <+: μ
  gf : ∀ a, G a ≠ none → R.G0 a ≠ none ∨ R.F a = none
  mf : ∀ a ∈ μ, R.F a = none
  mg : ∀ a ∈ μ, G a = none
  nd : μ.Nodup
  len : μ.length = h.length
  cells : ∀ (n : Nat) (a : Addr) (c : Cell), μ[n]? = some a → h[n]? = some c → CellA K G μ R.lk H a c
  ul : ∀ (n : Nat) (a : Addr) (c : Cell), μ[n]? = some a → h[n]? = some c → c.locked = false → R.lk a = none
  lm : ∀ a, R.lk a ≠ none → a ∈ μ
  slen : Γ.length = σ.length
  slots : ∀ (i : Nat) (s : Slot), Γ[i]? = some s → SlotAt K G μ R.F H σ[i]? s
  dist : ∀ (i j : Nat) (a : Addr) (c c' : Cell), Γ[i]? = some (.own c) → Γ[j]? = some (.own c') → σ[i]? = some (some (.ref a)) → σ[j]? = some (some (.ref a)) → i = j
/-- what an expression's value leans on stays -/
structure Ext (Γ : List Slot) (σ : St) (G : Hp) (μ : List Addr) (H : Hp) (G' : Hp) (μ' : List Addr) (H' : Hp) : Prop where
  gg : Same G G'
  mm : μ <+: μ'
  own : ∀ (i : Nat) (c : Cell) (a : Addr), Γ[i]? = some (.own c) → σ[i]? = some (some (.ref a)) → H' a = H a
theorem Ext.refl {Γ : List Slot} {σ : St} {G : Hp} {μ : List Addr} {H : Hp} : Ext Γ σ G μ H G μ H := ⟨Same.refl _, List.prefix_refl _, fun _ _ _ _ _ => rfl⟩
theorem Ext.trans {Γ : List Slot} {σ : St} {G G1 G2 : Hp} {μ μ1 μ2 : List Addr} {H H1 H2 : Hp} (a : Ext Γ σ G μ H G1 μ1 H1) (b : Ext Γ σ G1 μ1 H1 G2 μ2 H2) : Ext Γ σ G μ H G2 μ2 H2 :=
  ⟨a.gg.trans b.gg, a.mm.trans b.mm, fun i c x e1 e2 => (b.own i c x e1 e2).trans (a.own i c x e1 e2)⟩
/-- a value, or what an owned slot holds at this time -/
def RW (K : PySem.W.Frag) (Γ : List Slot) (σ : St) (G : Hp) (μ : List Addr) (H : Hp) (d : D) (v : V) : Prop :=
  RD K G μ d v ∨ ∃ (i : Nat) (c : Cell) (a : Addr), Γ[i]? = some (.own c) ∧ σ[i]? = some (some (.ref a)) ∧ v = .ref a ∧ d = c.toD ∧ CellAt K G μ H a c
theorem RW.mono {K : PySem.W.Frag} {Γ : List Slot} {σ : St} {G G' : Hp} {μ μ' : List Addr} {H H' : Hp} {d : D} {v : V} (r : RW K Γ σ G μ H d v) (e : Ext Γ σ G μ H G' μ' H') : RW K Γ σ G' μ' H' d v := by
  rcases r with r | ⟨i, c, a, h1, h2, h3, h4, h5⟩
  · exact .inl (r.mono e.gg e.mm)
  · exact .inr ⟨i, c, a, h1, h2, h3, h4, h5.mono e.gg e.mm (e.own i c a h1 h2)⟩
/-- by what the expression is: strong or weak -/
def RE (K : PySem.W.Frag) (st : Bool) (Γ : List Slot) (σ : St) (G : Hp) (μ : List Addr) (H : Hp) (d : D) (v : V) : Prop :=
  if st = true then RD K G μ d v else RW K Γ σ G μ H d v
theorem RE.w {K : PySem.W.Frag} {st : Bool} {Γ : List Slot} {σ : St} {G : Hp} {μ : List Addr} {H : Hp} {d : D} {v : V} (r : RE K st Γ σ G μ H d v) : RW K Γ σ G μ H d v := by
  unfold RE at r
  split at r
  · exact .inl r
  · exact r
theorem RE.s {K : PySem.W.Frag} {st : Bool} {Γ : List Slot} {σ : St} {G : Hp} {μ : List Addr} {H : Hp} {d : D} {v : V} (r : RE K st Γ σ G μ H d v) (e : st = true) : RD K G μ d v := by
  unfold RE at r
  rw [if_pos e] at r
  exact r
theorem RE.of {K : PySem.W.Frag} {st : Bool} {Γ : List Slot} {σ : St} {G : Hp} {μ : List Addr} {H : Hp} {d : D} {v : V} (r : RD K G μ d v) : RE K st Γ σ G μ H d v := by
  unfold RE
  split
  · exact r
  · exact .inl r

section
variable {K : PySem.W.Frag} {R : Fr} {G : Hp} {μ : List Addr} {Γ : List Slot} {h : List Cell} {σ : St} {H : Hp}
theorem Sim.cell_at (S : Sim K R G μ Γ h σ H) {n : Nat} {a : Addr} (e : μ[n]? = some a) : ∃ c, h[n]? = some c ∧ CellA K G μ R.lk H a c := by
  have hn : n < h.length := by
    rw [← S.len]
    exact (List.getElem?_eq_some_iff.mp e).1
  exact ⟨h[n], List.getElem?_eq_getElem hn, S.cells n a _ e (List.getElem?_eq_getElem hn)⟩
theorem Sim.mem_there (S : Sim K R G μ Γ h σ H) {a : Addr} (e : a ∈ μ) : ∃ o, H a = some o := by
  obtain ⟨n, hn⟩ := List.getElem?_of_mem e
  obtain ⟨c, _, q⟩ := S.cell_at hn
  exact q.there
/-- a new frozen object -/
theorem Sim.push (S : Sim K R G μ Γ h σ H) {p : Addr} {o : HO} (hp : H p = none) : Sim K R (upd G p o) μ Γ h σ (upd H p o) ∧ Ext Γ σ G μ H (upd G p o) μ (upd H p o) := by
  have gp : G p = none := S.gh.free hp
  have fp : R.F p = none := S.fh.free hp
  have gs : Same G (upd G p o) := Same.new gp
  have hs : Same H (upd H p o) := Same.new hp
  have ne : ∀ {a : Addr} {u : HO}, H a = some u → a ≠ p := fun e => ne_of_none e hp
  refine ⟨⟨fun a u e => ?_, S.fh.trans hs, S.g0.trans gs, S.m0, fun a e => ?_, S.mf, fun a e => ?_, S.nd, S.len, fun n a c e1 e2 => ?_, S.ul, S.lm, S.slen, fun i s e => ?_, S.dist⟩, gs, List.prefix_refl _, fun i c a e1 e2 => ?_⟩
  · by_cases q : a = p
    · subst q
      rw [upd_same] at e ⊢
      exact e
    · rw [upd_ne q] at e ⊢
      exact S.gh a u e
  · by_cases q : a = p
    · subst q
      exact .inr fp
    · rw [upd_ne q] at e
      exact S.gf a e
  · obtain ⟨u, q⟩ := S.mem_there e
    rw [upd_ne (ne q)]
    exact S.mg a e
  · have q := S.cells n a c e1 e2
    obtain ⟨u, z⟩ := q.there
    exact q.mono gs (List.prefix_refl _) (upd_ne (ne z))
  · have q := S.slots i s e
    cases s with
    | no => trivial
    | val d =>
      obtain ⟨v, e1, r⟩ := q
      exact ⟨v, e1, r.mono gs (List.prefix_refl _)⟩
    | own c =>
      obtain ⟨a, e1, c1, g1, f1, m1⟩ := q
      obtain ⟨u, z⟩ := c1.there
      exact ⟨a, e1, c1.mono gs (List.prefix_refl _) (upd_ne (ne z)), by rw [upd_ne (ne z)]; exact g1, f1, m1⟩
  · obtain ⟨a', q1, c1, _⟩ := S.slots i _ e1
    rw [e2] at q1
    cases q1
    obtain ⟨u, z⟩ := c1.there
    exact upd_ne (ne z)
/-- a new object that is not frozen (it may be owned, or become a cell) -/
theorem Sim.lay (S : Sim K R G μ Γ h σ H) {p : Addr} {o : HO} (hp : H p = none) : Sim K R G μ Γ h σ (upd H p o) ∧ Ext Γ σ G μ H G μ (upd H p o) := by
  have hs : Same H (upd H p o) := Same.new hp
  have ne : ∀ {a : Addr} {u : HO}, H a = some u → a ≠ p := fun e => ne_of_none e hp
  refine ⟨⟨S.gh.trans hs, S.fh.trans hs, S.g0, S.m0, S.gf, S.mf, S.mg, S.nd, S.len, fun n a c e1 e2 => ?_, S.ul, S.lm, S.slen, fun i s e => ?_, S.dist⟩, Same.refl _, List.prefix_refl _, fun i c a e1 e2 => ?_⟩
  · have q := S.cells n a c e1 e2
    obtain ⟨u, z⟩ := q.there
    exact q.mono (Same.refl _) (List.prefix_refl _) (upd_ne (ne z))
  · have q := S.slots i s e
    cases s with
    | no => trivial
    | val d => exact q
    | own c =>
      obtain ⟨a, e1, c1, g1, f1, m1⟩ := q
      obtain ⟨u, z⟩ := c1.there
      exact ⟨a, e1, c1.mono (Same.refl _) (List.prefix_refl _) (upd_ne (ne z)), g1, f1, m1⟩
  · obtain ⟨a', q1, c1, _⟩ := S.slots i _ e1
    rw [e2] at q1
    cases q1
    obtain ⟨u, z⟩ := c1.there
    exact upd_ne (ne z)
/-- an object that nothing here speaks of is written -/
theorem Sim.over (S : Sim K R G μ Γ h σ H) {p : Addr} {o : HO} (hG : G p = none) (hF : R.F p = none) (hm : p ∉ μ) (ho : ∀ (i : Nat) (c : Cell), Γ[i]? = some (.own c) → σ[i]? ≠ some (some (.ref p))) :
    Sim K R G μ Γ h σ (upd H p o) ∧ Ext Γ σ G μ H G μ (upd H p o) := by
  have gne : ∀ {a : Addr} {u : HO}, G a = some u → a ≠ p := fun e z => by
    rw [z, hG] at e
    cases e
  have fne : ∀ {a : Addr} {u : HO}, R.F a = some u → a ≠ p := fun e z => by
    rw [z, hF] at e
    cases e
  have one : ∀ (i : Nat) (c : Cell) (a : Addr), Γ[i]? = some (.own c) → σ[i]? = some (some (.ref a)) → a ≠ p := fun i c a e1 e2 z => ho i c e1 (by rw [← z]; exact e2)
  refine ⟨⟨fun a u e => by rw [upd_ne (gne e)]; exact S.gh a u e, fun a u e => by rw [upd_ne (fne e)]; exact S.fh a u e, S.g0, S.m0, S.gf, S.mf, S.mg, S.nd, S.len, fun n a c e1 e2 => ?_, S.ul, S.lm, S.slen, fun i s e => ?_, S.dist⟩, Same.refl _, List.prefix_refl _, fun i c a e1 e2 => upd_ne (one i c a e1 e2)⟩
  · have n1 : a ≠ p := fun z => hm (by rw [← z]; exact List.mem_of_getElem? e1)
    exact (S.cells n a c e1 e2).mono (Same.refl _) (List.prefix_refl _) (upd_ne n1)
  · have q := S.slots i s e
    cases s with
    | no => trivial
    | val d => exact q
    | own c =>
      obtain ⟨a, e1, c1, g1, f1, m1⟩ := q
      exact ⟨a, e1, c1.mono (Same.refl _) (List.prefix_refl _) (upd_ne (one i c a e e1)), g1, f1, m1⟩
/-- a fresh object is frozen -/
theorem Sim.frz (S : Sim K R G μ Γ h σ H) {p : Addr} {o : HO} (hH : H p = some o) (hG : G p = none) (hF : R.F p = none) (hm : p ∉ μ) (ho : ∀ (i : Nat) (c : Cell), Γ[i]? = some (.own c) → σ[i]? ≠ some (some (.ref p))) :
    Sim K R (upd G p o) μ Γ h σ H ∧ Ext Γ σ G μ H (upd G p o) μ H := by
  have gs : Same G (upd G p o) := Same.new hG
  refine ⟨⟨fun a u e => ?_, S.fh, S.g0.trans gs, S.m0, fun a e => ?_, S.mf, fun a e => ?_, S.nd, S.len, fun n a c e1 e2 => (S.cells n a c e1 e2).mono gs (List.prefix_refl _) rfl, S.ul, S.lm, S.slen, fun i s e => ?_, S.dist⟩, gs, List.prefix_refl _, fun _ _ _ _ _ => rfl⟩
  · by_cases q : a = p
    · subst q
      rw [upd_same] at e
      rw [hH]
      exact e
    · rw [upd_ne q] at e
      exact S.gh a u e
  · by_cases q : a = p
    · subst q
      exact .inr hF
    · rw [upd_ne q] at e
      exact S.gf a e
  · have n : a ≠ p := fun z => hm (by rw [← z]; exact e)
    rw [upd_ne n]
    exact S.mg a e
  · have q := S.slots i s e
    cases s with
    | no => trivial
    | val d =>
      obtain ⟨v, e1, r⟩ := q
      exact ⟨v, e1, r.mono gs (List.prefix_refl _)⟩
    | own c =>
      obtain ⟨a, e1, c1, g1, f1, m1⟩ := q
      refine ⟨a, e1, c1.mono gs (List.prefix_refl _) rfl, ?_, f1, m1⟩
      have n : a ≠ p := fun z => ho i c e (by rw [← z]; exact e1)
      rw [upd_ne n]
      exact g1
/-- a fresh object becomes a cell -/
theorem Sim.cell (S : Sim K R G μ Γ h σ H) {p : Addr} {c : Cell} (hC : CellA K G μ R.lk H p c) (hG : G p = none) (hF : R.F p = none) (hm : p ∉ μ) (ho : ∀ (i : Nat) (c : Cell), Γ[i]? = some (.own c) → σ[i]? ≠ some (some (.ref p))) :
    Sim K R G (μ ++ [p]) Γ (h ++ [c]) σ H ∧ Ext Γ σ G μ H G (μ ++ [p]) H := by
  have mp : μ <+: μ ++ [p] := List.prefix_append _ _
  refine ⟨⟨S.gh, S.fh, S.g0, S.m0.trans mp, S.gf, fun a e => ?_, fun a e => ?_, ?_, ?_, fun n a c' e1 e2 => ?_, fun n a c' e1 e2 hu => ?_, fun a e => List.mem_append_left _ (S.lm a e), S.slen, fun i s e => ?_, S.dist⟩, Same.refl _, mp, fun _ _ _ _ _ => rfl⟩
  · rcases List.mem_append.mp e with e | e
    · exact S.mf a e
    · rw [List.mem_singleton.mp e]
      exact hF
  · rcases List.mem_append.mp e with e | e
    · exact S.mg a e
    · rw [List.mem_singleton.mp e]
      exact hG
  · refine List.nodup_append.mpr ⟨S.nd, by simp, fun a ha b hb => ?_⟩
    rw [List.mem_singleton.mp hb]
    exact fun z => hm (z ▸ ha)
  · simp [S.len]
  · by_cases hn : n < μ.length
    · rw [List.getElem?_append_left hn] at e1
      rw [List.getElem?_append_left (by rw [← S.len]; exact hn)] at e2
      exact (S.cells n a c' e1 e2).mono (Same.refl _) mp rfl
    · have e0 : n = μ.length := by
        have := (List.getElem?_eq_some_iff.mp e1).1
        simp at this
        omega
      subst e0
      rw [List.getElem?_append_right (Nat.le_refl _)] at e1
      rw [S.len, List.getElem?_append_right (Nat.le_refl _)] at e2
      simp at e1 e2
      subst e1 e2
      exact hC.mono (Same.refl _) mp rfl
  · by_cases hn : n < μ.length
    · rw [List.getElem?_append_left hn] at e1
      rw [List.getElem?_append_left (by rw [← S.len]; exact hn)] at e2
      exact S.ul n a c' e1 e2 hu
    · have e0 : n = μ.length := by
        have := (List.getElem?_eq_some_iff.mp e1).1
        simp at this
        omega
      subst e0
      rw [List.getElem?_append_right (Nat.le_refl _)] at e1
      simp at e1
      subst e1
      exact Classical.byContradiction fun z => hm (S.lm _ z)
  · have q := S.slots i s e
    cases s with
    | no => trivial
    | val d =>
      obtain ⟨v, e1, r⟩ := q
      exact ⟨v, e1, r.mono (Same.refl _) mp⟩
    | own c =>
      obtain ⟨a, e1, c1, g1, f1, m1⟩ := q
      refine ⟨a, e1, c1.mono (Same.refl _) mp rfl, g1, f1, fun z => ?_⟩
      rcases List.mem_append.mp z with z | z
      · exact m1 z
      · exact ho i c e (List.mem_singleton.mp z ▸ e1)
/-- a cell is written -/
theorem Sim.write (S : Sim K R G μ Γ h σ H) {n : Nat} {p : Addr} {c : Cell} {o : HO} (hn : μ[n]? = some p) (hC : CellA K G μ R.lk (upd H p o) p c) (hl : c.locked = false → R.lk p = none) :
    Sim K R G μ Γ (h.set n c) σ (upd H p o) ∧ Ext Γ σ G μ H G μ (upd H p o) := by
  have hp : p ∈ μ := List.mem_of_getElem? hn
  have hlt : n < h.length := by
    rw [← S.len]
    exact (List.getElem?_eq_some_iff.mp hn).1
  have gne : ∀ {a : Addr} {u : HO}, G a = some u → a ≠ p := fun e z => by
    rw [z, S.mg p hp] at e
    cases e
  have fne : ∀ {a : Addr} {u : HO}, R.F a = some u → a ≠ p := fun e z => by
    rw [z, S.mf p hp] at e
    cases e
  have own : ∀ (i : Nat) (c : Cell) (a : Addr), Γ[i]? = some (.own c) → σ[i]? = some (some (.ref a)) → a ≠ p := fun i c a e1 e2 z => by
    obtain ⟨a', q1, _, _, _, m1⟩ := S.slots i _ e1
    rw [e2] at q1
    cases q1
    exact m1 (z ▸ hp)
  refine ⟨⟨fun a u e => by rw [upd_ne (gne e)]; exact S.gh a u e, fun a u e => by rw [upd_ne (fne e)]; exact S.fh a u e, S.g0, S.m0, S.gf, S.mf, S.mg, S.nd, by simpa using S.len, fun m a c' e1 e2 => ?_, fun m a c' e1 e2 hu => ?_, S.lm, S.slen, fun i s e => ?_, S.dist⟩, Same.refl _, List.prefix_refl _, fun i c a e1 e2 => upd_ne (own i c a e1 e2)⟩
  · by_cases hmn : m = n
    · subst hmn
      rw [hn] at e1
      cases e1
      rw [List.getElem?_set_self hlt] at e2
      cases e2
      exact hC
    · rw [List.getElem?_set_ne (Ne.symm hmn)] at e2
      refine (S.cells m a c' e1 e2).mono (Same.refl _) (List.prefix_refl _) (upd_ne fun z => ?_)
      subst z
      obtain ⟨h1, q1⟩ := List.getElem?_eq_some_iff.mp e1
      obtain ⟨h2, q2⟩ := List.getElem?_eq_some_iff.mp hn
      exact hmn ((List.getElem_inj S.nd).mp (q1.trans q2.symm))
  · by_cases hmn : m = n
    · subst hmn
      rw [hn] at e1
      cases e1
      rw [List.getElem?_set_self hlt] at e2
      cases e2
      exact hl hu
    · rw [List.getElem?_set_ne (Ne.symm hmn)] at e2
      exact S.ul m a c' e1 e2 hu
  · have q := S.slots i s e
    cases s with
    | no => trivial
    | val d => exact q
    | own c =>
      obtain ⟨a, e1, c1, g1, f1, m1⟩ := q
      exact ⟨a, e1, c1.mono (Same.refl _) (List.prefix_refl _) (upd_ne (own i c a e e1)), g1, f1, m1⟩
/-- a slot gets a value -/
theorem Sim.set (S : Sim K R G μ Γ h σ H) {i : Nat} {d : D} {v : V} (r : RD K G μ d v) : Sim K R G μ (Γ.set i (.val d)) h (σ.set i (some v)) H := by
  refine ⟨S.gh, S.fh, S.g0, S.m0, S.gf, S.mf, S.mg, S.nd, S.len, S.cells, S.ul, S.lm, by simpa using S.slen, fun j s e => ?_, fun j k a c c' e1 e2 e3 e4 => ?_⟩
  · by_cases q : i = j
    · subst q
      have hi : i < Γ.length := by
        have := (List.getElem?_eq_some_iff.mp e).1
        simpa using this
      rw [List.getElem?_set_self hi] at e
      cases e
      exact ⟨v, List.getElem?_set_self (by rw [← S.slen]; exact hi), r⟩
    · rw [List.getElem?_set_ne q] at e ⊢
      exact S.slots j s e
  · have n1 : i ≠ j := fun q => by
      subst q
      have hi : i < Γ.length := by
        have := (List.getElem?_eq_some_iff.mp e1).1
        simpa using this
      rw [List.getElem?_set_self hi] at e1
      cases e1
    have n2 : i ≠ k := fun q => by
      subst q
      have hi : i < Γ.length := by
        have := (List.getElem?_eq_some_iff.mp e2).1
        simpa using this
      rw [List.getElem?_set_self hi] at e2
      cases e2
    rw [List.getElem?_set_ne n1] at e1 e3
    rw [List.getElem?_set_ne n2] at e2 e4
    exact S.dist j k a c c' e1 e2 e3 e4
theorem Sim.setNo (S : Sim K R G μ Γ h σ H) {i : Nat} {x : Option V} : Sim K R G μ (Γ.set i .no) h (σ.set i x) H := by
  refine ⟨S.gh, S.fh, S.g0, S.m0, S.gf, S.mf, S.mg, S.nd, S.len, S.cells, S.ul, S.lm, by simpa using S.slen, fun j s e => ?_, fun j k a c c' e1 e2 e3 e4 => ?_⟩
  · by_cases q : i = j
    · subst q
      have hi : i < Γ.length := by
        have := (List.getElem?_eq_some_iff.mp e).1
        simpa using this
      rw [List.getElem?_set_self hi] at e
      cases e
      trivial
    · rw [List.getElem?_set_ne q] at e ⊢
      exact S.slots j s e
  · have n1 : i ≠ j := fun q => by
      subst q
      have hi : i < Γ.length := by
        have := (List.getElem?_eq_some_iff.mp e1).1
        simpa using this
      rw [List.getElem?_set_self hi] at e1
      cases e1
    have n2 : i ≠ k := fun q => by
      subst q
      have hi : i < Γ.length := by
        have := (List.getElem?_eq_some_iff.mp e2).1
        simpa using this
      rw [List.getElem?_set_self hi] at e2
      cases e2
    rw [List.getElem?_set_ne n1] at e1 e3
    rw [List.getElem?_set_ne n2] at e2 e4
    exact S.dist j k a c c' e1 e2 e3 e4
theorem Sim.wipe (S : Sim K R G μ Γ h σ H) : ∀ l : List Nat, Sim K R G μ (wipeS Γ l) h (L2.wipe σ l) H
  | [] => S
  | i :: is => (Sim.wipe S is).setNo
/-- a slot gets a fresh object of its own -/
theorem Sim.setOwn (S : Sim K R G μ Γ h σ H) {i : Nat} {p : Addr} {c : Cell} (hi : i < Γ.length) (hC : CellAt K G μ H p c) (hG : G p = none) (hF : R.F p = none) (hm : p ∉ μ) (ho : ∀ (j : Nat) (c : Cell), Γ[j]? = some (.own c) → j ≠ i → σ[j]? ≠ some (some (.ref p))) :
    Sim K R G μ (Γ.set i (.own c)) h (σ.set i (some (.ref p))) H := by
  have hσ : i < σ.length := by rw [← S.slen]; exact hi
  refine ⟨S.gh, S.fh, S.g0, S.m0, S.gf, S.mf, S.mg, S.nd, S.len, S.cells, S.ul, S.lm, by simpa using S.slen, fun j s e => ?_, fun j k a c1 c2 e1 e2 e3 e4 => ?_⟩
  · by_cases q : i = j
    · subst q
      rw [List.getElem?_set_self hi] at e
      cases e
      exact ⟨p, List.getElem?_set_self hσ, hC, hG, hF, hm⟩
    · rw [List.getElem?_set_ne q] at e ⊢
      exact S.slots j s e
  · by_cases n1 : i = j
    · by_cases n2 : i = k
      · exact n1.symm.trans n2
      · subst n1
        rw [List.getElem?_set_self hσ] at e3
        cases e3
        rw [List.getElem?_set_ne n2] at e2 e4
        exact absurd e4 (ho k c2 e2 (Ne.symm n2))
    · by_cases n2 : i = k
      · subst n2
        rw [List.getElem?_set_self hσ] at e4
        cases e4
        rw [List.getElem?_set_ne n1] at e1 e3
        exact absurd e3 (ho j c1 e1 (Ne.symm n1))
      · rw [List.getElem?_set_ne n1] at e1 e3
        rw [List.getElem?_set_ne n2] at e2 e4
        exact S.dist j k a c1 c2 e1 e2 e3 e4
/-- what a slot owns is written -/
theorem Sim.writeOwn (S : Sim K R G μ Γ h σ H) {i : Nat} {p : Addr} {c c' : Cell} {o : HO} (hi : Γ[i]? = some (.own c)) (hp : σ[i]? = some (some (.ref p))) (hC : CellAt K G μ (upd H p o) p c') :
    Sim K R G μ (Γ.set i (.own c')) h σ (upd H p o) := by
  obtain ⟨a, q1, c1, g1, f1, m1⟩ := S.slots i _ hi
  rw [hp] at q1
  cases q1
  have hlt := (List.getElem?_eq_some_iff.mp hi).1
  have gne : ∀ {a : Addr} {u : HO}, G a = some u → a ≠ p := fun e z => by
    rw [z, g1] at e
    cases e
  have fne : ∀ {a : Addr} {u : HO}, R.F a = some u → a ≠ p := fun e z => by
    rw [z, f1] at e
    cases e
  refine ⟨fun a u e => by rw [upd_ne (gne e)]; exact S.gh a u e, fun a u e => by rw [upd_ne (fne e)]; exact S.fh a u e, S.g0, S.m0, S.gf, S.mf, S.mg, S.nd, S.len, fun m a c2 e1 e2 => ?_, S.ul, S.lm, by simpa using S.slen, fun j s e => ?_, fun j k a ca cb e1 e2 e3 e4 => ?_⟩
  · exact (S.cells m a c2 e1 e2).mono (Same.refl _) (List.prefix_refl _) (upd_ne fun z => m1 (z ▸ List.mem_of_getElem? e1))
  · by_cases q : i = j
    · subst q
      rw [List.getElem?_set_self hlt] at e
      cases e
      exact ⟨p, hp, hC, g1, f1, m1⟩
    · rw [List.getElem?_set_ne q] at e
      have z := S.slots j s e
      cases s with
      | no => trivial
      | val d => exact z
      | own c2 =>
        obtain ⟨a, e1, c3, g3, f3, m3⟩ := z
        exact ⟨a, e1, c3.mono (Same.refl _) (List.prefix_refl _) (upd_ne fun y => q (S.dist i j p c c2 hi e hp (y ▸ e1))), g3, f3, m3⟩
  · have back : ∀ (m : Nat) (cc : Cell), (Γ.set i (Slot.own c'))[m]? = some (Slot.own cc) → ∃ c0, Γ[m]? = some (.own c0) := fun m cc e => by
      by_cases q : i = m
      · subst q
        exact ⟨c, hi⟩
      · rw [List.getElem?_set_ne q] at e
        exact ⟨cc, e⟩
    obtain ⟨c0, z0⟩ := back j ca e1
    obtain ⟨c9, z9⟩ := back k cb e2
    exact S.dist j k a c0 c9 z0 z9 e3 e4
end
end DC

set_option linter.all false
set_option Elab.async false
/-! DGo: what a core expression wants (Go, tI), and how wants are put one behind the other. -/
namespace DC
open PySem L2

/-- an exception of the text's own class number e.c, as it lies -/
def ExcAt (ca : Str → Addr) (e : Exn) (cls : Value) (dx : Option Addr) : Prop := cls = .ref (ca e.c)
abbrev Rel (α β : Type) := Fr → List Slot → St → Hp → List Addr → Hp → α → β → Prop
section
variable {α β γ δ : Type}
def Go (K : PySem.W.Frag) (ca : Str → Addr) (W : WX) (R : Fr) (Γ : List Slot) (σ : St) (ρ : Rel α β) (G : Hp) (μ : List Addr) (H : Hp) (r : Out α) (Q : β → Hp → Prop) : Prop :=
  match r with
  | none => False
  | some (.ok a h') => ∀ b G' μ' H', Sim K R G' μ' Γ h' σ H' → Ext Γ σ G μ H G' μ' H' → ρ R Γ σ G' μ' H' a b → Q b H'
  | some (.exc e h') => ∀ cls dx G' μ' H', Sim K R G' μ' Γ h' σ H' → ExcAt ca e cls dx → W cls dx σ H'
def tI (K : PySem.W.Frag) (ca : Str → Addr) (W : WX) (ρ : Rel α β) (ev : List Slot → List Cell → Out α) : St → Hp → (β → Hp → Prop) → Prop := fun σ H Q =>
  ∃ (R : Fr) (G : Hp) (μ : List Addr) (Γ : List Slot) (h : List Cell), Sim K R G μ Γ h σ H ∧ Go K ca W R Γ σ ρ G μ H (ev Γ h) Q
variable {K : PySem.W.Frag} {ca : Str → Addr} {W : WX} {R : Fr} {Γ : List Slot} {σ : St} {ρ : Rel α β} {ρ' : Rel γ δ} {G G1 : Hp} {μ μ1 : List Addr} {H H1 : Hp} {r : Out α} {Q Q' : β → Hp → Prop}
theorem Go.mono (g : Go K ca W R Γ σ ρ G μ H r Q) (q : ∀ b H, Q b H → Q' b H) : Go K ca W R Γ σ ρ G μ H r Q' := by
  match r, g with
  | none, g => exact g
  | some (.ok a h'), g => exact fun b G' μ' H' S X e => q _ _ (g b G' μ' H' S X e)
  | some (.exc e h'), g => exact g
theorem Go.shift (g : Go K ca W R Γ σ ρ G μ H r Q) (x : Ext Γ σ G μ H G1 μ1 H1) : Go K ca W R Γ σ ρ G1 μ1 H1 r Q := by
  match r, g with
  | none, g => exact g
  | some (.ok a h'), g => exact fun b G' μ' H' S X e => g b G' μ' H' S (x.trans X) e
  | some (.exc e h'), g => exact g
theorem Go.bind {f : α → List Cell → Out γ} {Q : δ → Hp → Prop} (g : Go K ca W R Γ σ ρ' G μ H (bnd r f) Q) :
    Go K ca W R Γ σ ρ G μ H r (fun b H1 => ∃ (a : α) (h1 : List Cell) (G1 : Hp) (μ1 : List Addr), Sim K R G1 μ1 Γ h1 σ H1 ∧ Ext Γ σ G μ H G1 μ1 H1 ∧ ρ R Γ σ G1 μ1 H1 a b ∧ Go K ca W R Γ σ ρ' G1 μ1 H1 (f a h1) Q) := by
  match r, g with
  | none, g => exact g
  | some (.ok a h'), g => exact fun b G' μ' H' S X e => ⟨a, h', G', μ', S, X, e, Go.shift g X⟩
  | some (.exc e h'), g => exact g
/-- a value that is there -/
theorem Go.val {a : α} {b : β} {h : List Cell} (g : Go K ca W R Γ σ ρ G μ H (some (.ok a h)) Q) (S : Sim K R G μ Γ h σ H) (e : ρ R Γ σ G μ H a b) : Q b H := g b G μ H S .refl e
end
/-- relations -/
def ρE (K : PySem.W.Frag) (st : Bool) : Rel D V := fun _ Γ σ G μ H d v => RE K st Γ σ G μ H d v
def ρL (K : PySem.W.Frag) : Rel (List D) (List V) := fun _ _ _ G μ _ ds vs => RDs K G μ ds vs
def ρB : Rel Bool Bool := fun _ _ _ _ _ _ a b => a = b
/-- a new list or dict that nobody else holds -/
def ρF (K : PySem.W.Frag) : Rel D V := fun R Γ σ G μ H d v => ∃ (p : Addr) (c : Cell), v = .ref p ∧ d = c.toD ∧ CellAt K G μ H p c ∧ G p = none ∧ R.F p = none ∧ p ∉ μ ∧ ∀ (i : Nat) (c : Cell), Γ[i]? = some (.own c) → σ[i]? ≠ some (some (.ref p))
def toB (m : Out D) : Out Bool := bnd m fun d h => match d with
  | .bl b => some (.ok b h)
  | _ => none
section
variable {X : Cx} {e : Expr}
theorem _root_.L2.PE.imp {t t' : TE} (p : PE X e t) (h : ∀ σ H Q, t' σ H Q → t σ H Q) : PE X e t' := ⟨fun pins s σ H Q I q => p.run pins s σ H Q I (h σ H Q q)⟩
theorem _root_.L2.PT.imp {t t' : TT} (p : PT X e t) (h : ∀ σ H Q, t' σ H Q → t σ H Q) : PT X e t' := ⟨fun pins s σ H Q I q => p.run pins s σ H Q I (h σ H Q q)⟩
theorem _root_.L2.PW.imp {t t' : TT} (p : PW X e t) (h : ∀ σ H Q, t' σ H Q → t σ H Q) : PW X e t' := ⟨fun w pins s σ H Q I q => p.run w pins s σ H Q I (h σ H Q q)⟩
theorem _root_.L2.PA.imp {es : List Expr} {t t' : TA} (p : PA X es t) (h : ∀ σ H Q, t' σ H Q → t σ H Q) : PA X es t' := ⟨fun pos pins s σ H Q I q => p.run pos pins s σ H Q I (h σ H Q q)⟩
end
section
variable {K : PySem.W.Frag} {ca : Str → Addr} {W : WX} {σ : St} {H : Hp} {sa sb sc : Bool}
/-- what a two-place operation without effects on cells asks, told by D -/
def rB (K : PySem.W.Frag) (f : List Cell → D → D → Option D) : R2 := fun x y H Q =>
  ∃ (R : Fr) (G : Hp) (μ : List Addr) (Γ : List Slot) (h : List Cell) (σ : St) (a b d : D), Sim K R G μ Γ h σ H ∧ RW K Γ σ G μ H a x ∧ RW K Γ σ G μ H b y ∧ f h a b = some d ∧
    ∀ v G' H', Sim K R G' μ Γ h σ H' → Ext Γ σ G μ H G' μ H' → RD K G' μ d v → Q v H'
def rU1 (K : PySem.W.Frag) (f : List Cell → D → Option D) : V → Hp → VK → Prop := fun x H Q =>
  ∃ (R : Fr) (G : Hp) (μ : List Addr) (Γ : List Slot) (h : List Cell) (σ : St) (a d : D), Sim K R G μ Γ h σ H ∧ RW K Γ σ G μ H a x ∧ f h a = some d ∧
    ∀ v G' H', Sim K R G' μ Γ h σ H' → Ext Γ σ G μ H G' μ H' → RD K G' μ d v → Q v H'
abbrev rC1 (K : PySem.W.Frag) (f : List Cell → D → Option D) : List V → Hp → VK → Prop := fun xs H Q => ∃ x, xs = [x] ∧ rU1 K f x H Q
abbrev rC2 (K : PySem.W.Frag) (f : List Cell → D → D → Option D) : List V → Hp → VK → Prop := fun xs H Q => ∃ x y, xs = [x, y] ∧ rB K f x y H Q
theorem liftO_go {R : Fr} {Γ : List Slot} {G : Hp} {μ : List Addr} {h : List Cell} {m : Option D} {st : Bool} {Q : VK} (g : Go K ca W R Γ σ (ρE K st) G μ H (liftO m h) Q) :
    ∃ d, m = some d ∧ ∀ v G' H', Sim K R G' μ Γ h σ H' → Ext Γ σ G μ H G' μ H' → RD K G' μ d v → Q v H' := by
  cases m with
  | none => exact g.elim
  | some d => exact ⟨d, rfl, fun v G' H' S X r => g v G' μ H' S X (.of r)⟩
/-- the second place of two: what was told first is told behind -/
theorem un_of {ea : List Slot → List Cell → Out D} {f : List Cell → D → Option D} {st : Bool} {Q : VK}
    (t : tI K ca W (ρE K st) (fun Γ h => bnd (ea Γ h) fun x h => liftO (f h x) h) σ H Q) : tUn (rU1 K f) (tI K ca W (ρE K sa) ea) σ H Q := by
  obtain ⟨R, G, μ, Γ, h, S, g⟩ := t
  refine ⟨R, G, μ, Γ, h, S, g.bind.mono fun v H1 ⟨a, h1, G1, μ1, S1, X1, r1, g1⟩ => ?_⟩
  obtain ⟨d, e, q⟩ := liftO_go g1
  exact ⟨R, G1, μ1, Γ, h1, σ, a, d, S1, r1.w, e, q⟩
theorem two_of {ea eb : List Slot → List Cell → Out D} {f : List Cell → D → D → Option D} {st : Bool} {Q : VK}
    (t : tI K ca W (ρE K st) (fun Γ h => bnd (ea Γ h) fun x h => bnd (eb Γ h) fun y h => liftO (f h x y) h) σ H Q) : tOp (rB K f) (tI K ca W (ρE K sa) ea) (tI K ca W (ρE K sb) eb) σ H Q := by
  obtain ⟨R, G, μ, Γ, h, S, g⟩ := t
  refine ⟨R, G, μ, Γ, h, S, g.bind.mono fun v H1 ⟨a, h1, G1, μ1, S1, X1, r1, g1⟩ => ?_⟩
  refine ⟨R, G1, μ1, Γ, h1, S1, g1.bind.mono fun u H2 ⟨b, h2, G2, μ2, S2, X2, r2, g2⟩ => ?_⟩
  obtain ⟨d, e, q⟩ := liftO_go g2
  exact ⟨R, G2, μ2, Γ, h2, σ, a, b, d, S2, r1.w.mono X2, r2.w, e, q⟩
end

/-! ### what is read of a value -/
section
variable {K : PySem.W.Frag} {R : Fr} {G : Hp} {μ : List Addr} {Γ : List Slot} {h : List Cell} {σ : St} {H : Hp}
theorem lst_at (S : Sim K R G μ Γ h σ H) {d : D} {v : V} (r : RW K Γ σ G μ H d v) {ds : List D} (e : lstOf h d = some ds) : ∃ a vs, v = .ref a ∧ H a = some (.lst vs) ∧ ds.length ≤ maxLen ∧ RDs K G μ ds vs := by
  rcases r with r | ⟨i, c, a, h1, h2, h3, h4, h5⟩
  · cases d with
    | lst xs =>
      cases e
      obtain ⟨a, vs, q, z, l, r⟩ := r
      exact ⟨a, vs, q, S.gh _ _ z, l, r⟩
    | ref n =>
      obtain ⟨a, q, z⟩ := r
      obtain ⟨c, hc, k⟩ := S.cell_at z
      unfold lstOf at e
      simp only [hc] at e
      cases c with
      | lst xs =>
        cases e
        obtain ⟨vs, y, l, t⟩ := k
        exact ⟨a, vs, q, y, l, t⟩
      | llst xs =>
        cases e
        obtain ⟨vs, y, _, l, t⟩ := k
        exact ⟨a, vs, q, y, l, t⟩
      | dct _ _ => cases e
      | ldct _ _ => cases e
      | ins _ _ => cases e
    | _ => cases e
  · subst h4
    cases c with
    | lst xs =>
      cases e
      obtain ⟨vs, y, l, t⟩ := h5
      exact ⟨a, vs, h3, y, l, t⟩
    | dct _ _ => cases e
    | ins _ _ => cases e
    | llst _ => exact h5.elim
    | ldct _ _ => exact h5.elim
theorem seq_at (S : Sim K R G μ Γ h σ H) {d : D} {v : V} (r : RW K Γ σ G μ H d v) {ds : List D} (e : seqOf h d = some ds) : ∃ a vs, v = .ref a ∧ (SqL K H a vs ∨ SqT K H a vs) ∧ ds.length ≤ maxLen ∧ RDs K G μ ds vs := by
  by_cases hl : lstOf h d = some ds
  · obtain ⟨a, vs, q, z, l, t⟩ := lst_at S r hl
    exact ⟨a, vs, q, .inl (.of z), l, t⟩
  · rcases r with r | ⟨i, c, a, h1, h2, h3, h4, h5⟩
    · cases d with
      | tup xs =>
        cases e
        obtain ⟨a, vs, q, z, l, r⟩ := r
        exact ⟨a, vs, q, .inr (Same.t S.gh z), l, r⟩
      | scr xs =>
        cases e
        obtain ⟨a, vs, q, z, l, r⟩ := r
        exact ⟨a, vs, q, .inl (S.gh.seq z), l, r⟩
      | lst xs => exact absurd e hl
      | ref n => exact absurd e hl
      | _ => cases e
    · subst h4
      cases c with
      | lst xs => exact absurd e hl
      | dct _ _ => cases e
      | ins _ _ => cases e
      | llst _ => exact h5.elim
      | ldct _ _ => exact h5.elim
theorem tup_at (S : Sim K R G μ Γ h σ H) {ds : List D} {v : V} (r : RW K Γ σ G μ H (.tup ds) v) : ∃ a vs, v = .ref a ∧ SqT K H a vs ∧ ds.length ≤ maxLen ∧ RDs K G μ ds vs ∧ RD K G μ (.tup ds) v := by
  rcases r with r | ⟨i, c, a, h1, h2, h3, h4, h5⟩
  · obtain ⟨a, vs, q, z, l, t⟩ := id r
    exact ⟨a, vs, q, Same.t S.gh z, l, t, r⟩
  · cases c <;> cases h4
theorem int_at {i : Int} {v : V} (r : RW K Γ σ G μ H (.int i) v) : v = .int i := by
  rcases r with r | ⟨_, c, a, h1, h2, h3, h4, h5⟩
  · exact r
  · cases c <;> cases h4
theorem bl_at {i : Bool} {v : V} (r : RW K Γ σ G μ H (.bl i) v) : v = .bl i := by
  rcases r with r | ⟨_, c, a, h1, h2, h3, h4, h5⟩
  · exact r
  · cases c <;> cases h4
theorem str_at {i : Str} {v : V} (r : RW K Γ σ G μ H (.str i) v) : v = .str i ∧ i.length ≤ maxLen := by
  rcases r with r | ⟨_, c, a, h1, h2, h3, h4, h5⟩
  · exact r
  · cases c <;> cases h4
theorem non_at {v : V} (r : RW K Γ σ G μ H .non v) : v = .non := by
  rcases r with r | ⟨_, c, a, h1, h2, h3, h4, h5⟩
  · exact r
  · cases c with
    | lst _ => cases h4
    | dct _ _ => cases h4
    | ins _ _ => exact h5.elim
    | llst _ => exact h5.elim
    | ldct _ _ => exact h5.elim
theorem dct_at (S : Sim K R G μ Γ h σ H) {ks : List Key} {xs : List D} {v : V} (r : RW K Γ σ G μ H (.dct ks xs) v) : ∃ a kvs, v = .ref a ∧ H a = some (.dK kvs) ∧ kvs.map (·.1) = ks ∧ RDs K G μ xs (kvs.map (·.2)) := by
  rcases r with r | ⟨i, c, a, h1, h2, h3, h4, h5⟩
  · obtain ⟨a, kvs, q, z, l, t⟩ := id r
    exact ⟨a, kvs, q, S.gh _ _ z, l, t⟩
  · cases c with
    | dct k2 x2 =>
      cases h4
      obtain ⟨kvs, y, l, t⟩ := h5
      exact ⟨a, kvs, h3, y, l, t⟩
    | lst _ => cases h4
    | ins _ _ => cases h4
    | llst _ => exact h5.elim
    | ldct _ _ => exact h5.elim
theorem ref_at {n : Nat} {v : V} (r : RW K Γ σ G μ H (.ref n) v) : ∃ a, v = .ref a ∧ μ[n]? = some a := by
  rcases r with r | ⟨_, c, a, h1, h2, h3, h4, h5⟩
  · exact r
  · cases c <;> cases h4
/-- new things -/
theorem new_lst {ds : List D} {vs : List V} {p : Addr} (hz : ds.length ≤ maxLen) (t : RDs K G μ ds vs) (hp : H p = none) (S : Sim K R G μ Γ h σ H) :
    Sim K R (upd G p (.lst vs)) μ Γ h σ (upd H p (.lst vs)) ∧ Ext Γ σ G μ H (upd G p (.lst vs)) μ (upd H p (.lst vs)) ∧ RD K (upd G p (.lst vs)) μ (.lst ds) (.ref p) := by
  obtain ⟨S1, X1⟩ := S.push (o := .lst vs) hp
  exact ⟨S1, X1, p, vs, rfl, upd_same, hz, t.mono X1.gg X1.mm⟩
theorem new_tup {ds : List D} {vs : List V} {p : Addr} (hz : ds.length ≤ maxLen) (t : RDs K G μ ds vs) (hp : H p = none) (S : Sim K R G μ Γ h σ H) :
    Sim K R (upd G p (.tup vs)) μ Γ h σ (upd H p (.tup vs)) ∧ Ext Γ σ G μ H (upd G p (.tup vs)) μ (upd H p (.tup vs)) ∧ RD K (upd G p (.tup vs)) μ (.tup ds) (.ref p) := by
  obtain ⟨S1, X1⟩ := S.push (o := .tup vs) hp
  exact ⟨S1, X1, p, vs, rfl, .of upd_same, hz, t.mono X1.gg X1.mm⟩
end
end DC

set_option linter.all false
set_option Elab.async false
set_option maxRecDepth 100000
set_option maxHeartbeats 2000000
/-! DEq: a dict is equal to nothing of another kind (printed by gen_deq.py). -/
namespace PySem.SeqAt
open AutoSeq1 (wpAny_loadPart')
open MeetsSeq
/-- a dict's object -/
def IsDct (h : Heap) (a : Addr) : Prop := ∃ o es n, h.get? a = some o ∧ o.cls = .type "dict" ∧ o.data = .dict es n
theorem dict_eq_declines_none (l : Addr) (es : Array DictEntry) (n : Nat) (dd : Option Addr) (sl : Array (Option Value))  :
    Meets (Builtin.«dict.__eq__» ⟨[.ref l, .none], []⟩) (fun _ R s => s.heap.get? l = some { cls := .type "dict", dict := dd, data := .dict es n, slots := sl } ∧ R (.ok (.ret .notImplemented)) s) :=
  .of_wp fun prog w A R s h => by obtain ⟨hp, g, d, tk, os⟩ := s; obtain ⟨hl, h⟩ := h; have f1 := F.sub_NoneType_dict; wp_walk using wpAny_loadPart' hl, wpAny_load hl; exact ⟨_, rfl, h⟩
theorem dict_eq_declines_bool (l : Addr) (es : Array DictEntry) (n : Nat) (dd : Option Addr) (sl : Array (Option Value)) (b : Bool) :
    Meets (Builtin.«dict.__eq__» ⟨[.ref l, (.bool b)], []⟩) (fun _ R s => s.heap.get? l = some { cls := .type "dict", dict := dd, data := .dict es n, slots := sl } ∧ R (.ok (.ret .notImplemented)) s) :=
  .of_wp fun prog w A R s h => by obtain ⟨hp, g, d, tk, os⟩ := s; obtain ⟨hl, h⟩ := h; have f1 := F.sub_bool_dict; wp_walk using wpAny_loadPart' hl, wpAny_load hl; exact ⟨_, rfl, h⟩
theorem bool_eq_declines_dict (b : Bool) (l : Addr) (es : Array DictEntry) (n : Nat) (dd : Option Addr) (sl : Array (Option Value)) :
    Meets (Builtin.«int.__eq__» ⟨[(.bool b), .ref l], []⟩) (fun _ R s => s.heap.get? l = some { cls := .type "dict", dict := dd, data := .dict es n, slots := sl } ∧ R (.ok (.ret .notImplemented)) s) :=
  .of_wp fun prog w A R s h => by obtain ⟨hp, g, d, tk, os⟩ := s; obtain ⟨hl, h⟩ := h; wp_walk using wpAny_loadPart' hl, wpAny_load hl; exact ⟨_, rfl, h⟩
theorem dict_eq_declines_int (l : Addr) (es : Array DictEntry) (n : Nat) (dd : Option Addr) (sl : Array (Option Value)) (b : Int) (u : Tok) :
    Meets (Builtin.«dict.__eq__» ⟨[.ref l, (.int b u)], []⟩) (fun _ R s => s.heap.get? l = some { cls := .type "dict", dict := dd, data := .dict es n, slots := sl } ∧ R (.ok (.ret .notImplemented)) s) :=
  .of_wp fun prog w A R s h => by obtain ⟨hp, g, d, tk, os⟩ := s; obtain ⟨hl, h⟩ := h; have f1 := F.sub_int_dict; wp_walk using wpAny_loadPart' hl, wpAny_load hl; exact ⟨_, rfl, h⟩
theorem int_eq_declines_dict (b : Int) (u : Tok) (l : Addr) (es : Array DictEntry) (n : Nat) (dd : Option Addr) (sl : Array (Option Value)) :
    Meets (Builtin.«int.__eq__» ⟨[(.int b u), .ref l], []⟩) (fun _ R s => s.heap.get? l = some { cls := .type "dict", dict := dd, data := .dict es n, slots := sl } ∧ R (.ok (.ret .notImplemented)) s) :=
  .of_wp fun prog w A R s h => by obtain ⟨hp, g, d, tk, os⟩ := s; obtain ⟨hl, h⟩ := h; wp_walk using wpAny_loadPart' hl, wpAny_load hl; exact ⟨_, rfl, h⟩
theorem dict_eq_declines_str (l : Addr) (es : Array DictEntry) (n : Nat) (dd : Option Addr) (sl : Array (Option Value)) (b : Str) (u : Tok) :
    Meets (Builtin.«dict.__eq__» ⟨[.ref l, (.str b u)], []⟩) (fun _ R s => s.heap.get? l = some { cls := .type "dict", dict := dd, data := .dict es n, slots := sl } ∧ R (.ok (.ret .notImplemented)) s) :=
  .of_wp fun prog w A R s h => by obtain ⟨hp, g, d, tk, os⟩ := s; obtain ⟨hl, h⟩ := h; have f1 := F.sub_str_dict; wp_walk using wpAny_loadPart' hl, wpAny_load hl; exact ⟨_, rfl, h⟩
theorem str_eq_declines_dict (b : Str) (u : Tok) (l : Addr) (es : Array DictEntry) (n : Nat) (dd : Option Addr) (sl : Array (Option Value)) :
    Meets (Builtin.«str.__eq__» ⟨[(.str b u), .ref l], []⟩) (fun _ R s => s.heap.get? l = some { cls := .type "dict", dict := dd, data := .dict es n, slots := sl } ∧ R (.ok (.ret .notImplemented)) s) :=
  .of_wp fun prog w A R s h => by obtain ⟨hp, g, d, tk, os⟩ := s; obtain ⟨hl, h⟩ := h; wp_walk using wpAny_loadPart' hl, wpAny_load hl; exact ⟨_, rfl, h⟩
theorem dict_eq_declines_list (l b : Addr) (es : Array DictEntry) (items : Array Value) (n n2 : Nat) (dd dd2 : Option Addr) (sl sl2 : Array (Option Value)) :
    Meets (Builtin.«dict.__eq__» ⟨[.ref l, .ref b], []⟩) (fun _ R s => s.heap.get? l = some { cls := .type "dict", dict := dd, data := .dict es n, slots := sl } ∧ s.heap.get? b = some { cls := .type "list", dict := dd2, data := .seq items n2, slots := sl2 } ∧ R (.ok (.ret .notImplemented)) s) :=
  .of_wp fun prog w A R s h => by obtain ⟨hp, g, d, tk, os⟩ := s; obtain ⟨hl, hb, h⟩ := h; have f1 := F.sub_list_dict; wp_walk using wpAny_loadPart' hl, wpAny_loadPart' hb, wpAny_load hl, wpAny_load hb; exact ⟨_, rfl, h⟩
theorem list_eq_declines_dict (l b : Addr) (es : Array DictEntry) (items : Array Value) (n n2 : Nat) (dd dd2 : Option Addr) (sl sl2 : Array (Option Value)) :
    Meets (Builtin.«list.__eq__» ⟨[.ref b, .ref l], []⟩) (fun _ R s => s.heap.get? l = some { cls := .type "dict", dict := dd, data := .dict es n, slots := sl } ∧ s.heap.get? b = some { cls := .type "list", dict := dd2, data := .seq items n2, slots := sl2 } ∧ R (.ok (.ret .notImplemented)) s) :=
  .of_wp fun prog w A R s h => by obtain ⟨hp, g, d, tk, os⟩ := s; obtain ⟨hl, hb, h⟩ := h; have f1 := F.sub_dict_list; wp_walk using wpAny_loadPart' hl, wpAny_loadPart' hb, wpAny_load hl, wpAny_load hb; exact ⟨_, rfl, h⟩
theorem dict_eq_declines_tuple (l b : Addr) (es : Array DictEntry) (items : Array Value) (n n2 : Nat) (dd dd2 : Option Addr) (sl sl2 : Array (Option Value)) :
    Meets (Builtin.«dict.__eq__» ⟨[.ref l, .ref b], []⟩) (fun _ R s => s.heap.get? l = some { cls := .type "dict", dict := dd, data := .dict es n, slots := sl } ∧ s.heap.get? b = some { cls := .type "tuple", dict := dd2, data := .seq items n2, slots := sl2 } ∧ R (.ok (.ret .notImplemented)) s) :=
  .of_wp fun prog w A R s h => by obtain ⟨hp, g, d, tk, os⟩ := s; obtain ⟨hl, hb, h⟩ := h; have f1 := F.sub_tuple_dict; wp_walk using wpAny_loadPart' hl, wpAny_loadPart' hb, wpAny_load hl, wpAny_load hb; exact ⟨_, rfl, h⟩
theorem tuple_eq_declines_dict (l b : Addr) (es : Array DictEntry) (items : Array Value) (n n2 : Nat) (dd dd2 : Option Addr) (sl sl2 : Array (Option Value)) :
    Meets (Builtin.«tuple.__eq__» ⟨[.ref b, .ref l], []⟩) (fun _ R s => s.heap.get? l = some { cls := .type "dict", dict := dd, data := .dict es n, slots := sl } ∧ s.heap.get? b = some { cls := .type "tuple", dict := dd2, data := .seq items n2, slots := sl2 } ∧ R (.ok (.ret .notImplemented)) s) :=
  .of_wp fun prog w A R s h => by obtain ⟨hp, g, d, tk, os⟩ := s; obtain ⟨hl, hb, h⟩ := h; have f1 := F.sub_dict_tuple; wp_walk using wpAny_loadPart' hl, wpAny_loadPart' hb, wpAny_load hl, wpAny_load hb; exact ⟨_, rfl, h⟩
section
variable {A : Around} {s : Shared}
theorem RcAt.dict_none {l : Addr}  (hl : IsDct s.heap l) (hu : A.units < cLine) : RcAt A s (.ref l) .none false := fun prog w E Q h => by
  obtain ⟨⟨cls, dd, data, sl⟩, es, n, ho, hc, hd⟩ := id hl
  simp only at hc hd
  subst hc hd
  exact rc_eq_decline_or (k := false) ⟨_, ho, rfl⟩ rfl (by decide) F.sub_NoneType_dict F.slot_dict_eq F.slot_NoneType_eq_refl
    (fun _ hq => call_meets F.slot_dict_eq ⟨_, ho, rfl⟩ F.entry_dict_eq (F.args_dict_eq_2 _ _) (dict_eq_declines_none l es n dd sl) ⟨ho, hq⟩)
    (fun _ hq => call_gives F.slot_NoneType_eq_refl rfl F.entry_NoneType_eq (F.args_NoneType_eq_2 _ _) (NoneType___eq___none_ref_0 l) hq)
    (fun _ hq => wpAny_of_eq (rfl : isSame (.ref l) .none = pure false) hq) (.inr hu) h
theorem RcAt.none_dict {l : Addr}  (hl : IsDct s.heap l) (hu : A.units < cLine) : RcAt A s .none (.ref l) false := fun prog w E Q h => by
  obtain ⟨⟨cls, dd, data, sl⟩, es, n, ho, hc, hd⟩ := id hl
  simp only at hc hd
  subst hc hd
  exact rc_eq_decline_or (k := false) rfl ⟨_, ho, rfl⟩ (by decide) F.sub_dict_NoneType F.slot_NoneType_eq F.slot_dict_eq_refl
    (fun _ hq => call_gives F.slot_NoneType_eq rfl F.entry_NoneType_eq (F.args_NoneType_eq_2 _ _) (NoneType___eq___none_ref_0 l) hq)
    (fun _ hq => call_meets F.slot_dict_eq_refl ⟨_, ho, rfl⟩ F.entry_dict_eq (F.args_dict_eq_2 _ _) (dict_eq_declines_none l es n dd sl) ⟨ho, hq⟩)
    (fun _ hq => wpAny_of_eq (rfl : isSame .none (.ref l) = pure false) hq) (.inr hu) h
theorem EqAt.dict_none {l : Addr}  (hl : IsDct s.heap l) (hu : A.units < cLine) : EqAt A s (.ref l) (.none) false := fun prog w E Q h => by
  unfold eqBool
  refine wpAny_holding ?_
  refine wpAny_ite_split (fun hab => absurd (eq_of_beq hab) nofun) (fun _ => ?_)
  exact wpAny_bind (RcAt.dict_none hl hu prog w E _ (wpAny_truthy_bool h))
theorem EqAt.none_dict {l : Addr}  (hl : IsDct s.heap l) (hu : A.units < cLine) : EqAt A s (.none) (.ref l) false := fun prog w E Q h => by
  unfold eqBool
  refine wpAny_holding ?_
  refine wpAny_ite_split (fun hab => absurd (eq_of_beq hab) nofun) (fun _ => ?_)
  exact wpAny_bind (RcAt.none_dict hl hu prog w E _ (wpAny_truthy_bool h))
theorem RcAt.dict_bool {l : Addr} (b : Bool) (hl : IsDct s.heap l) (hu : A.units < cLine) : RcAt A s (.ref l) (.bool b) false := fun prog w E Q h => by
  obtain ⟨⟨cls, dd, data, sl⟩, es, n, ho, hc, hd⟩ := id hl
  simp only at hc hd
  subst hc hd
  exact rc_eq_decline_or (k := false) ⟨_, ho, rfl⟩ rfl (by decide) F.sub_bool_dict F.slot_dict_eq F.slot_bool_eq_refl
    (fun _ hq => call_meets F.slot_dict_eq ⟨_, ho, rfl⟩ F.entry_dict_eq (F.args_dict_eq_2 _ _) (dict_eq_declines_bool l es n dd sl b) ⟨ho, hq⟩)
    (fun _ hq => call_meets F.slot_bool_eq_refl rfl F.entry_int_eq (F.args_int_eq_2 _ _) (bool_eq_declines_dict b l es n dd sl) ⟨ho, hq⟩)
    (fun _ hq => wpAny_of_eq (rfl : isSame (.ref l) (.bool b) = pure false) hq) (.inr hu) h
theorem RcAt.bool_dict {l : Addr} (b : Bool) (hl : IsDct s.heap l) (hu : A.units < cLine) : RcAt A s (.bool b) (.ref l) false := fun prog w E Q h => by
  obtain ⟨⟨cls, dd, data, sl⟩, es, n, ho, hc, hd⟩ := id hl
  simp only at hc hd
  subst hc hd
  exact rc_eq_decline_or (k := false) rfl ⟨_, ho, rfl⟩ (by decide) F.sub_dict_bool F.slot_bool_eq F.slot_dict_eq_refl
    (fun _ hq => call_meets F.slot_bool_eq rfl F.entry_int_eq (F.args_int_eq_2 _ _) (bool_eq_declines_dict b l es n dd sl) ⟨ho, hq⟩)
    (fun _ hq => call_meets F.slot_dict_eq_refl ⟨_, ho, rfl⟩ F.entry_dict_eq (F.args_dict_eq_2 _ _) (dict_eq_declines_bool l es n dd sl b) ⟨ho, hq⟩)
    (fun _ hq => wpAny_of_eq (rfl : isSame (.bool b) (.ref l) = pure false) hq) (.inr hu) h
theorem EqAt.dict_bool {l : Addr} (b : Bool) (hl : IsDct s.heap l) (hu : A.units < cLine) : EqAt A s (.ref l) ((.bool b)) false := fun prog w E Q h => by
  unfold eqBool
  refine wpAny_holding ?_
  refine wpAny_ite_split (fun hab => absurd (eq_of_beq hab) nofun) (fun _ => ?_)
  exact wpAny_bind (RcAt.dict_bool b hl hu prog w E _ (wpAny_truthy_bool h))
theorem EqAt.bool_dict {l : Addr} (b : Bool) (hl : IsDct s.heap l) (hu : A.units < cLine) : EqAt A s ((.bool b)) (.ref l) false := fun prog w E Q h => by
  unfold eqBool
  refine wpAny_holding ?_
  refine wpAny_ite_split (fun hab => absurd (eq_of_beq hab) nofun) (fun _ => ?_)
  exact wpAny_bind (RcAt.bool_dict b hl hu prog w E _ (wpAny_truthy_bool h))
theorem RcAt.dict_int {l : Addr} (b : Int) (u : Tok) (hl : IsDct s.heap l) (hu : A.units < cLine) : RcAt A s (.ref l) (.int b u) false := fun prog w E Q h => by
  obtain ⟨⟨cls, dd, data, sl⟩, es, n, ho, hc, hd⟩ := id hl
  simp only at hc hd
  subst hc hd
  exact rc_eq_decline_or (k := false) ⟨_, ho, rfl⟩ (typeIs_int s b u) (by decide) F.sub_int_dict F.slot_dict_eq F.slot_int_eq_refl
    (fun _ hq => call_meets F.slot_dict_eq ⟨_, ho, rfl⟩ F.entry_dict_eq (F.args_dict_eq_2 _ _) (dict_eq_declines_int l es n dd sl b u) ⟨ho, hq⟩)
    (fun _ hq => call_meets F.slot_int_eq_refl (typeIs_int s b u) F.entry_int_eq (F.args_int_eq_2 _ _) (int_eq_declines_dict b u l es n dd sl) ⟨ho, hq⟩)
    (fun _ hq => wpAny_of_eq (rfl : isSame (.ref l) (.int b u) = pure false) hq) (.inr hu) h
theorem RcAt.int_dict {l : Addr} (b : Int) (u : Tok) (hl : IsDct s.heap l) (hu : A.units < cLine) : RcAt A s (.int b u) (.ref l) false := fun prog w E Q h => by
  obtain ⟨⟨cls, dd, data, sl⟩, es, n, ho, hc, hd⟩ := id hl
  simp only at hc hd
  subst hc hd
  exact rc_eq_decline_or (k := false) (typeIs_int s b u) ⟨_, ho, rfl⟩ (by decide) F.sub_dict_int F.slot_int_eq F.slot_dict_eq_refl
    (fun _ hq => call_meets F.slot_int_eq (typeIs_int s b u) F.entry_int_eq (F.args_int_eq_2 _ _) (int_eq_declines_dict b u l es n dd sl) ⟨ho, hq⟩)
    (fun _ hq => call_meets F.slot_dict_eq_refl ⟨_, ho, rfl⟩ F.entry_dict_eq (F.args_dict_eq_2 _ _) (dict_eq_declines_int l es n dd sl b u) ⟨ho, hq⟩)
    (fun _ hq => wpAny_of_eq (rfl : isSame (.int b u) (.ref l) = pure false) hq) (.inr hu) h
theorem EqAt.dict_int {l : Addr} (b : Int) (u : Tok) (hl : IsDct s.heap l) (hu : A.units < cLine) : EqAt A s (.ref l) ((.int b u)) false := fun prog w E Q h => by
  unfold eqBool
  refine wpAny_holding ?_
  refine wpAny_ite_split (fun hab => absurd (eq_of_beq hab) nofun) (fun _ => ?_)
  exact wpAny_bind (RcAt.dict_int b u hl hu prog w E _ (wpAny_truthy_bool h))
theorem EqAt.int_dict {l : Addr} (b : Int) (u : Tok) (hl : IsDct s.heap l) (hu : A.units < cLine) : EqAt A s ((.int b u)) (.ref l) false := fun prog w E Q h => by
  unfold eqBool
  refine wpAny_holding ?_
  refine wpAny_ite_split (fun hab => absurd (eq_of_beq hab) nofun) (fun _ => ?_)
  exact wpAny_bind (RcAt.int_dict b u hl hu prog w E _ (wpAny_truthy_bool h))
theorem RcAt.dict_str {l : Addr} (b : Str) (u : Tok) (hl : IsDct s.heap l) (hu : A.units < cLine) : RcAt A s (.ref l) (.str b u) false := fun prog w E Q h => by
  obtain ⟨⟨cls, dd, data, sl⟩, es, n, ho, hc, hd⟩ := id hl
  simp only at hc hd
  subst hc hd
  exact rc_eq_decline_or (k := false) ⟨_, ho, rfl⟩ (typeIs_str s b u) (by decide) F.sub_str_dict F.slot_dict_eq F.slot_str_eq_refl
    (fun _ hq => call_meets F.slot_dict_eq ⟨_, ho, rfl⟩ F.entry_dict_eq (F.args_dict_eq_2 _ _) (dict_eq_declines_str l es n dd sl b u) ⟨ho, hq⟩)
    (fun _ hq => call_meets F.slot_str_eq_refl (typeIs_str s b u) F.entry_str_eq (F.args_str_eq_2 _ _) (str_eq_declines_dict b u l es n dd sl) ⟨ho, hq⟩)
    (fun _ hq => wpAny_of_eq (rfl : isSame (.ref l) (.str b u) = pure false) hq) (.inr hu) h
theorem RcAt.str_dict {l : Addr} (b : Str) (u : Tok) (hl : IsDct s.heap l) (hu : A.units < cLine) : RcAt A s (.str b u) (.ref l) false := fun prog w E Q h => by
  obtain ⟨⟨cls, dd, data, sl⟩, es, n, ho, hc, hd⟩ := id hl
  simp only at hc hd
  subst hc hd
  exact rc_eq_decline_or (k := false) (typeIs_str s b u) ⟨_, ho, rfl⟩ (by decide) F.sub_dict_str F.slot_str_eq F.slot_dict_eq_refl
    (fun _ hq => call_meets F.slot_str_eq (typeIs_str s b u) F.entry_str_eq (F.args_str_eq_2 _ _) (str_eq_declines_dict b u l es n dd sl) ⟨ho, hq⟩)
    (fun _ hq => call_meets F.slot_dict_eq_refl ⟨_, ho, rfl⟩ F.entry_dict_eq (F.args_dict_eq_2 _ _) (dict_eq_declines_str l es n dd sl b u) ⟨ho, hq⟩)
    (fun _ hq => wpAny_of_eq (rfl : isSame (.str b u) (.ref l) = pure false) hq) (.inr hu) h
theorem EqAt.dict_str {l : Addr} (b : Str) (u : Tok) (hl : IsDct s.heap l) (hu : A.units < cLine) : EqAt A s (.ref l) ((.str b u)) false := fun prog w E Q h => by
  unfold eqBool
  refine wpAny_holding ?_
  refine wpAny_ite_split (fun hab => absurd (eq_of_beq hab) nofun) (fun _ => ?_)
  exact wpAny_bind (RcAt.dict_str b u hl hu prog w E _ (wpAny_truthy_bool h))
theorem EqAt.str_dict {l : Addr} (b : Str) (u : Tok) (hl : IsDct s.heap l) (hu : A.units < cLine) : EqAt A s ((.str b u)) (.ref l) false := fun prog w E Q h => by
  unfold eqBool
  refine wpAny_holding ?_
  refine wpAny_ite_split (fun hab => absurd (eq_of_beq hab) nofun) (fun _ => ?_)
  exact wpAny_bind (RcAt.str_dict b u hl hu prog w E _ (wpAny_truthy_bool h))
theorem ne_dct_list {l b : Addr} {items : Array Value} (hl : IsDct s.heap l) (hb : s.heap.IsList b items) : l ≠ b := fun e => by
  subst e
  obtain ⟨o, es, n, ho, hc, _⟩ := hl
  obtain ⟨o2, ho2, hc2, _⟩ := hb
  rw [ho] at ho2
  cases ho2
  rw [hc] at hc2
  exact absurd hc2 (by simp)
theorem RcAt.dict_list {l b : Addr} {items : Array Value} (hl : IsDct s.heap l) (hb : s.heap.IsList b items) (hu : A.units < cLine) : RcAt A s (.ref l) (.ref b) false := fun prog w E Q h => by
  have hne := ne_dct_list hl hb
  obtain ⟨⟨cls, dd, data, sl⟩, es, n, ho, hc, hd⟩ := id hl
  simp only at hc hd
  subst hc hd
  obtain ⟨⟨cls2, dd2, data2, sl2⟩, ho2, hc2, n2, hd2⟩ := id hb
  simp only at hc2 hd2
  subst hc2 hd2
  exact (rc_eq_decline_or (k := false) ⟨_, ho, rfl⟩ ⟨_, ho2, rfl⟩ (by decide) F.sub_list_dict F.slot_dict_eq F.slot_list_eq_refl
    (fun _ hq => call_meets F.slot_dict_eq ⟨_, ho, rfl⟩ F.entry_dict_eq (F.args_dict_eq_2 _ _) (dict_eq_declines_list l b es items n n2 dd dd2 sl sl2) ⟨ho, ho2, hq⟩)
    (fun _ hq => call_meets F.slot_list_eq_refl ⟨_, ho2, rfl⟩ F.entry_list_eq (F.args_list_eq_2 _ _) (list_eq_declines_dict l b es items n n2 dd dd2 sl sl2) ⟨ho, ho2, hq⟩)
    (fun _ hq => wpAny_isSame_ref_other hne ho ho2 (by simp) hq) (.inr hu) h)
theorem RcAt.list_dict {l b : Addr} {items : Array Value} (hl : IsDct s.heap l) (hb : s.heap.IsList b items) (hu : A.units < cLine) : RcAt A s (.ref b) (.ref l) false := fun prog w E Q h => by
  have hne : b ≠ l := (ne_dct_list hl hb).symm
  obtain ⟨⟨cls, dd, data, sl⟩, es, n, ho, hc, hd⟩ := id hl
  simp only at hc hd
  subst hc hd
  obtain ⟨⟨cls2, dd2, data2, sl2⟩, ho2, hc2, n2, hd2⟩ := id hb
  simp only at hc2 hd2
  subst hc2 hd2
  exact (rc_eq_decline_or (k := false) ⟨_, ho2, rfl⟩ ⟨_, ho, rfl⟩ (by decide) F.sub_dict_list F.slot_list_eq F.slot_dict_eq_refl
    (fun _ hq => call_meets F.slot_list_eq ⟨_, ho2, rfl⟩ F.entry_list_eq (F.args_list_eq_2 _ _) (list_eq_declines_dict l b es items n n2 dd dd2 sl sl2) ⟨ho, ho2, hq⟩)
    (fun _ hq => call_meets F.slot_dict_eq_refl ⟨_, ho, rfl⟩ F.entry_dict_eq (F.args_dict_eq_2 _ _) (dict_eq_declines_list l b es items n n2 dd dd2 sl sl2) ⟨ho, ho2, hq⟩)
    (fun _ hq => wpAny_isSame_ref_other' hne ho2 ho (by simp) hq) (.inr hu) h)
theorem ne_dct_tuple {l b : Addr} {items : Array Value} (hl : IsDct s.heap l) (hb : s.heap.IsTuple b items) : l ≠ b := fun e => by
  subst e
  obtain ⟨o, es, n, ho, hc, _⟩ := hl
  obtain ⟨o2, ho2, hc2, _⟩ := hb
  rw [ho] at ho2
  cases ho2
  rw [hc] at hc2
  exact absurd hc2 (by simp)
theorem RcAt.dict_tuple {l b : Addr} {items : Array Value} (hl : IsDct s.heap l) (hb : s.heap.IsTuple b items) (hu : A.units < cLine) : RcAt A s (.ref l) (.ref b) false := fun prog w E Q h => by
  have hne := ne_dct_tuple hl hb
  obtain ⟨⟨cls, dd, data, sl⟩, es, n, ho, hc, hd⟩ := id hl
  simp only at hc hd
  subst hc hd
  obtain ⟨⟨cls2, dd2, data2, sl2⟩, ho2, hc2, n2, hd2⟩ := id hb
  simp only at hc2 hd2
  subst hc2 hd2
  exact (rc_eq_decline_or (k := false) ⟨_, ho, rfl⟩ ⟨_, ho2, rfl⟩ (by decide) F.sub_tuple_dict F.slot_dict_eq F.slot_tuple_eq_refl
    (fun _ hq => call_meets F.slot_dict_eq ⟨_, ho, rfl⟩ F.entry_dict_eq (F.args_dict_eq_2 _ _) (dict_eq_declines_tuple l b es items n n2 dd dd2 sl sl2) ⟨ho, ho2, hq⟩)
    (fun _ hq => call_meets F.slot_tuple_eq_refl ⟨_, ho2, rfl⟩ F.entry_tuple_eq (F.args_tuple_eq_2 _ _) (tuple_eq_declines_dict l b es items n n2 dd dd2 sl sl2) ⟨ho, ho2, hq⟩)
    (fun _ hq => wpAny_isSame_ref_other hne ho ho2 (by simp) hq) (.inr hu) h)
theorem RcAt.tuple_dict {l b : Addr} {items : Array Value} (hl : IsDct s.heap l) (hb : s.heap.IsTuple b items) (hu : A.units < cLine) : RcAt A s (.ref b) (.ref l) false := fun prog w E Q h => by
  have hne : b ≠ l := (ne_dct_tuple hl hb).symm
  obtain ⟨⟨cls, dd, data, sl⟩, es, n, ho, hc, hd⟩ := id hl
  simp only at hc hd
  subst hc hd
  obtain ⟨⟨cls2, dd2, data2, sl2⟩, ho2, hc2, n2, hd2⟩ := id hb
  simp only at hc2 hd2
  subst hc2 hd2
  exact (rc_eq_decline_or (k := false) ⟨_, ho2, rfl⟩ ⟨_, ho, rfl⟩ (by decide) F.sub_dict_tuple F.slot_tuple_eq F.slot_dict_eq_refl
    (fun _ hq => call_meets F.slot_tuple_eq ⟨_, ho2, rfl⟩ F.entry_tuple_eq (F.args_tuple_eq_2 _ _) (tuple_eq_declines_dict l b es items n n2 dd dd2 sl sl2) ⟨ho, ho2, hq⟩)
    (fun _ hq => call_meets F.slot_dict_eq_refl ⟨_, ho, rfl⟩ F.entry_dict_eq (F.args_dict_eq_2 _ _) (dict_eq_declines_tuple l b es items n n2 dd dd2 sl sl2) ⟨ho, ho2, hq⟩)
    (fun _ hq => wpAny_isSame_ref_other' hne ho2 ho (by simp) hq) (.inr hu) h)
end
end PySem.SeqAt

set_option linter.all false
set_option Elab.async false
set_option maxRecDepth 100000
set_option maxHeartbeats 2000000
/-! DPrim: the operations of the small language, shown by the hand layer's rules. -/
namespace DC
open PySem L2 PySem.Spec PyProof.Rows
theorem le_sl {n : Nat} (h : n ≤ maxLen) : n ≤ sizeLine := by rw [sizeLine_eq]; exact h

/-! ### + - * % // -/
def opA : Op → Operator
  | .add => .Add
  | .sub => .Sub
  | .mul => .Mult
  | .fdiv => .FloorDiv
  | .mod => .Mod
theorem lstOf_cases {h : List Cell} {a b : D} (h1 : ∀ as bs, ¬ (a = .tup as ∧ b = .tup bs)) (e : addD h a b = some d) (hi : ∀ i j, ¬ (a = .int i ∧ b = .int j)) (hs : ∀ x y, ¬ (a = .str x ∧ b = .str y)) :
    ∃ as bs, lstOf h a = some as ∧ lstOf h b = some bs ∧ as.length + bs.length ≤ maxLen ∧ d = .lst (as ++ bs) := by
  unfold addD at e
  split at e
  · exact absurd ⟨rfl, rfl⟩ (hi _ _)
  · exact absurd ⟨rfl, rfl⟩ (hs _ _)
  · exact absurd ⟨rfl, rfl⟩ (h1 _ _)
  · split at e
    · split at e
      · exact ⟨_, _, by assumption, by assumption, by assumption, (Option.some.inj e).symm⟩
      · cases e
    · cases e
section
variable {X : Cx}
theorem foldl_arr (c : List Nat) : ∀ (k : Nat) (acc : List Nat), (List.replicate k c.toArray).foldl (fun x1 x2 => x1 ++ x2) acc.toArray = (acc ++ (List.replicate k c).flatten).toArray
  | 0, acc => by simp
  | k + 1, acc => by
    rw [List.replicate_succ, List.foldl_cons, show acc.toArray ++ c.toArray = (acc ++ c).toArray by simp, foldl_arr c k (acc ++ c), List.replicate_succ, List.flatten_cons, List.append_assoc]
theorem len_flat_str (z : Str) (k : Nat) : ((List.replicate k z.cps).foldl (· ++ ·) #[]) = ((List.replicate k z.cps.toList).flatten).toArray := by
  have h := foldl_arr z.cps.toList k []
  simpa using h
theorem op_strRep : OpR X (binaryOp .Mult) (fun x y H Q => ∃ z k, x = .str z ∧ y = .int k ∧ 1 ≤ k ∧ k ≤ 1000 ∧ z.length ≤ 1000 ∧ Q (.str ⟨((List.replicate k.toNat z.cps.toList).flatten).toArray⟩) H) := by
  intro pins s σ H x y v u Q I rx ry h
  obtain ⟨z, k, rfl, rfl, h1, h2, h3, q⟩ := h
  obtain ⟨t, rfl⟩ := rx
  obtain ⟨t', rfl⟩ := ry
  have hl : z.length * k.toNat ≤ 1000000 := by
    have : z.length * k.toNat ≤ 1000 * 1000 := Nat.mul_le_mul h3 (by omega)
    omega
  refine PySem.P.mul_str (by rw [decide_eq_false (by omega), decide_eq_false (by omega)]; rfl) (fun _ _ => ?_) (fun _ _ => ?_) ?_
  · have : (1000 : Int) ≤ (2 ^ 63 - 1) / k := by
      refine Int.le_ediv_of_mul_le (by omega) ?_
      omega
    omega
  · unfold Builtin.Str.tooLong
    rw [sizeLine_eq]
    exact decide_eq_false (by omega)
  · rw [if_neg (by omega)]
    by_cases hk : (k == 1 || z.length == 0) = true
    · rw [if_pos hk]
      have e : (⟨((List.replicate k.toNat z.cps.toList).flatten).toArray⟩ : Str) = z := by
        obtain ⟨c⟩ := z
        rw [Bool.or_eq_true] at hk
        rcases hk with hk | hk
        · have : k = 1 := by simpa using hk
          subst this
          simp
        · have : c = #[] := by
            have : c.size = 0 := by simpa [Str.length] using hk
            exact Array.eq_empty_of_size_eq_zero this
          subst this
          simp
      rw [e] at q
      exact ⟨.str z, H, I, ⟨_, rfl⟩, q⟩
    · rw [if_neg hk]
      refine ⟨?_, .str _, H, I.tok _, ⟨_, rfl⟩, ?_⟩
      · rw [len_flat_str, sizeLine_eq]
        show (((List.replicate k.toNat z.cps.toList).flatten).toArray).size ≤ _
        have : ((List.replicate k.toNat z.cps.toList).flatten).length = k.toNat * z.cps.toList.length := by simp
        have e2 : z.cps.toList.length = z.length := by simp [Str.length]
        rw [List.size_toArray, this, e2, Nat.mul_comm]
        omega
      · rw [len_flat_str]
        exact q
theorem tuple_mulSame (l : Addr) (items : Array Value) (n : Nat) (dd : Option Addr) (sl : Array (Option Value)) (x : Int) (u : Tok) (c0 : (decide (x < -(2 ^ 63)) || decide (x ≥ 2 ^ 63)) = false) (c1 : (items.isEmpty || x == 1) = true) :
    Meets (Builtin.«tuple.__mul__» ⟨[.ref l, .int x u], []⟩) (fun _ R s => s.heap.get? l = some { cls := .type "tuple", dict := dd, data := .seq items n, slots := sl } ∧
      R (.ok (.ret (Value.ref l))) s) :=
  .of_wp fun prog w A R s h => by
    obtain ⟨hp, g, d, tk, os⟩ := s
    obtain ⟨hl, h⟩ := h
    have f1 := AutoSeq1.idx_int
    wp_walk using AutoSeq1.wpAny_loadPart' hl
    repeat (first
      | (refine wpAny_ite_false (decide_eq_false (by rw [c0]; exact Bool.false_ne_true)) ?_; wp_walk using AutoSeq1.wpAny_loadPart' hl)
      | (refine wpAny_ite_true (decide_eq_true c1) ?_; wp_walk using AutoSeq1.wpAny_loadPart' hl))
    all_goals first
      | exact ⟨_, rfl, h⟩
      | trace_state
theorem str_app_len (a b : Str) : (a ++ b).length = a.length + b.length := by
  obtain ⟨x⟩ := a
  obtain ⟨y⟩ := b
  show (x ++ y).size = x.size + y.size
  simp
theorem op_addD : OpR X (binaryOp .Add) (rB X.K (binD .add)) := by
  intro pins s σ H x y v u Q I rx ry hh
  obtain ⟨R, G, μ, Γ, h, σ', a, b, d, S, ra, rb, e, q⟩ := hh
  change addD h a b = some d at e
  by_cases hi : ∃ i j, a = .int i ∧ b = .int j
  · obtain ⟨i, j, rfl, rfl⟩ := hi
    have ex := int_at ra
    have ey := int_at rb
    subst ex ey
    cases e
    exact op_add pins s σ H _ _ v u Q I rx ry ⟨i, j, rfl, rfl, q _ G H S .refl rfl⟩
  by_cases hs : ∃ i j, a = .str i ∧ b = .str j
  · obtain ⟨i, j, rfl, rfl⟩ := hs
    obtain ⟨ex, lx⟩ := str_at ra
    obtain ⟨ey, ly⟩ := str_at rb
    subst ex ey
    change strCat i j = some d at e
    unfold strCat at e
    split at e
    · rename_i hz
      cases e
      exact op_add_str pins s σ H _ _ v u Q I rx ry ⟨i, j, rfl, rfl, le_sl hz, q _ G H S .refl ⟨rfl, by rw [str_app_len]; exact hz⟩⟩
    · cases e
  by_cases ht : ∃ as bs, a = .tup as ∧ b = .tup bs
  · obtain ⟨as, bs, rfl, rfl⟩ := ht
    obtain ⟨p, vs, rfl, hp, lp, tp, rp⟩ := tup_at S ra
    obtain ⟨p2, vs2, rfl, hp2, lp2, tp2, rp2⟩ := tup_at S rb
    change (if as.length + bs.length ≤ maxLen then some (D.tup (as ++ bs)) else none) = some d at e
    split at e
    · rename_i hz
      cases e
      have l1 := tp.len
      have l2 := tp2.len
      refine op_catA pins s σ H _ _ v u Q I rx ry ⟨p, p2, vs, vs2, rfl, rfl, hp, hp2, le_sl (by omega), fun e0 => ?_, fun _ e0 => ?_, fun _ _ z hz0 => ?_⟩
      · subst e0
        have : as = [] := List.eq_nil_of_length_eq_zero l1
        subst this
        exact q _ G H S .refl rp2
      · subst e0
        have : bs = [] := List.eq_nil_of_length_eq_zero l2
        subst this
        rw [List.append_nil] at q
        exact q _ G H S .refl rp
      · obtain ⟨S1, X1, r1⟩ := new_tup (ds := as ++ bs) (by rw [List.length_append]; exact hz) (tp.app tp2) hz0 S
        exact q _ _ _ S1 X1 r1
    · cases e
  · obtain ⟨as, bs, ea, eb, hz, rfl⟩ := lstOf_cases (fun as bs z => ht ⟨as, bs, z.1, z.2⟩) e (fun i j z => hi ⟨i, j, z.1, z.2⟩) (fun i j z => hs ⟨i, j, z.1, z.2⟩)
    obtain ⟨p, vs, rfl, hp, lp, tp⟩ := lst_at S ra ea
    obtain ⟨p2, vs2, rfl, hp2, lp2, tp2⟩ := lst_at S rb eb
    have l1 := tp.len
    have l2 := tp2.len
    refine op_cat pins s σ H _ _ v u Q I rx ry ⟨p, p2, vs, vs2, rfl, rfl, hp, hp2, le_sl (by omega), fun z hz0 => ?_⟩
    obtain ⟨S1, X1, r1⟩ := new_lst (ds := as ++ bs) (by rw [List.length_append]; exact hz) (tp.app tp2) hz0 S
    exact q _ _ _ S1 X1 r1
theorem op_repT1 : OpR X (binaryOp .Mult) (fun x y H Q => ∃ l k xs, x = .ref l ∧ y = .int k ∧ SqT X.K H l xs ∧ (xs = [] ∨ k = 1) ∧ 1 ≤ k ∧ k ≤ 1000 ∧ Q (.ref l) H) := by
  intro pins s σ H x y v u Q I rx ry h
  obtain ⟨l, k, xs, rfl, rfl, hT, hne, h1, h2, q⟩ := h
  cases rx
  obtain ⟨t, rfl⟩ := ry
  obtain ⟨its, r, ⟨⟨cls, dd, data, sl⟩, ho, hc, n, hd⟩, hs⟩ := I.tuple hT
  simp only at hc hd
  subst hc hd
  have c0 : (decide (k < -(2 ^ 63)) || decide (k ≥ 2 ^ 63)) = false := by
    rw [decide_eq_false (by omega), decide_eq_false (by omega)] <;> rfl
  have c1 : (its.toArray.isEmpty || k == 1) = true := by
    rcases hne with rfl | rfl
    · cases r
      rfl
    · simp
  refine wpAny_binaryOp_repeat_ref (T := "tuple") (U := "int") (by decide) ⟨_, ho, rfl⟩ (fun s' => typeIs_int s' k t) noFill_tuple_mul F.fills_int_mul F.slot_int_rmul repeat_tuple F.slot_int_index.lookup
    (call_meets F.slot_int_rmul (typeIs_int s k t) F.entry_int_rmul (F.args_int_rmul_2 _ _) (int_rmul_tuple k t l its.toArray n dd sl)
      ⟨ho, rfl, ⟨_, ho, rfl⟩, call_meets F.slot_tuple_mul ⟨_, ho, rfl⟩ F.entry_tuple_mul (F.args_tuple_mul_2 _ _) (tuple_mulSame l its.toArray n dd sl k t c0 c1) ⟨ho, ?_⟩⟩)
  exact ⟨.ref l, H, I, rfl, q⟩
theorem op_mulD : OpR X (binaryOp .Mult) (rB X.K (binD .mul)) := by
  intro pins s σ H x y v u Q I rx ry hh
  obtain ⟨R, G, μ, Γ, h, σ', a, b, d, S, ra, rb, e, q⟩ := hh
  change mulD h a b = some d at e
  unfold mulD at e
  split at e
  · rename_i i j
    have ex := int_at ra
    have ey := int_at rb
    subst ex ey
    split at e
    · rename_i hf
      cases e
      refine op_mul pins s σ H _ _ v u Q I rx ry ⟨i, j, rfl, rfl, ?_, q _ G H S .refl rfl⟩
      rw [Bool.or_eq_true] at hf
      unfold intFits at hf
      simp only [Bool.and_eq_true, decide_eq_true_eq] at hf
      exact hf
    · cases e
  · rename_i z k
    obtain ⟨ex, lx⟩ := str_at ra
    have ey := int_at rb
    subst ex ey
    unfold strRep at e
    split at e
    · rename_i hz
      cases e
      refine op_strRep pins s σ H _ _ v u Q I rx ry ⟨z, k, rfl, rfl, hz.1, hz.2.1, hz.2.2, q _ G H S .refl ⟨rfl, ?_⟩⟩
      show (((List.replicate k.toNat z.cps.toList).flatten).toArray).size ≤ _
      have : ((List.replicate k.toNat z.cps.toList).flatten).length = k.toNat * z.cps.toList.length := by simp
      have e2 : z.cps.toList.length = z.length := by simp [Str.length]
      rw [List.size_toArray, this, e2]
      have : k.toNat * z.length ≤ 1000 * 1000 := Nat.mul_le_mul (by omega) hz.2.2
      show _ ≤ 16777216
      omega
    · cases e
  · rename_i as k
    obtain ⟨p, vs, rfl, hp, lp, tp, rp⟩ := tup_at S ra
    have ey := int_at rb
    subst ey
    split at e
    · rename_i hz
      cases e
      have l1 := tp.len
      by_cases h0 : vs = [] ∨ k = 1
      · refine op_repT1 pins s σ H _ _ v u Q I rx ry ⟨p, k, vs, rfl, rfl, hp, h0, hz.2.1, hz.2.2, q _ G H S .refl ?_⟩
        have ee : (List.replicate k.toNat as).flatten = as := by
          rcases h0 with h0 | h0
          · subst h0
            have : as = [] := List.eq_nil_of_length_eq_zero l1
            subst this
            simp
          · subst h0
            simp
        rw [ee]
        exact rp
      · refine op_repT pins s σ H _ _ v u Q I rx ry ⟨p, k, vs, rfl, rfl, hp, fun z => h0 (.inl z), ?_, hz.2.2, by omega, fun z hz0 => ?_⟩
        · have : k ≠ 1 := fun z => h0 (.inr z)
          omega
        · obtain ⟨S1, X1, r1⟩ := new_tup (ds := (List.replicate k.toNat as).flatten) (by
            have : ((List.replicate k.toNat as).flatten).length = k.toNat * as.length := by simp
            rw [this]
            have : k.toNat * as.length ≤ 1000 * 1000 := Nat.mul_le_mul (by omega) hz.1
            show _ ≤ 16777216
            omega) (tp.rep k.toNat) hz0 S
          exact q _ _ _ S1 X1 r1
    · cases e
  · cases e
theorem op_bin (o : Op) : OpR X (binaryOp (opA o)) (rB X.K (binD o)) := by
  cases o with
  | add => exact op_addD
  | mul => exact op_mulD
  | sub =>
    intro pins s σ H x y v u Q I rx ry hh
    obtain ⟨R, G, μ, Γ, h, σ', a, b, d, S, ra, rb, e, q⟩ := hh
    unfold binD at e
    simp only at e
    split at e
    · rename_i i j
      have ex := int_at ra
      have ey := int_at rb
      subst ex ey
      cases e
      exact op_sub pins s σ H _ _ v u Q I rx ry ⟨i, j, rfl, rfl, q _ G H S .refl rfl⟩
    · cases e
  | mod =>
    intro pins s σ H x y v u Q I rx ry hh
    obtain ⟨R, G, μ, Γ, h, σ', a, b, d, S, ra, rb, e, q⟩ := hh
    unfold binD at e
    simp only at e
    split at e
    · rename_i i j
      have ex := int_at ra
      have ey := int_at rb
      subst ex ey
      split at e
      · rename_i hz
        cases e
        exact op_mod pins s σ H _ _ v u Q I rx ry ⟨i, j, rfl, rfl, hz, q _ G H S .refl rfl⟩
      · cases e
    · cases e
  | fdiv =>
    intro pins s σ H x y v u Q I rx ry hh
    obtain ⟨R, G, μ, Γ, h, σ', a, b, d, S, ra, rb, e, q⟩ := hh
    unfold binD at e
    simp only at e
    split at e
    · rename_i i j
      have ex := int_at ra
      have ey := int_at rb
      subst ex ey
      split at e
      · rename_i hz
        cases e
        exact op_fdivW pins s σ H _ _ v u Q I rx ry ⟨i, j, rfl, rfl, wide_div (b := 64) hz.1 (by omega) (by decide) (by decide), q _ G H S .refl rfl⟩
      · cases e
    · cases e
end
end DC

set_option linter.all false
set_option Elab.async false
set_option maxRecDepth 100000
set_option maxHeartbeats 1000000
/-! DCmp: == at any depth, in, and the other comparisons of the small language. -/
namespace DC
open PySem L2 PySem.Spec PyProof.Rows PySem.SeqAt
open PySem.SeqAt (EqIn rcIn_lists rcIn_tuples)

section
variable {K : PySem.W.Frag} {R : Fr} {G : Hp} {μ : List Addr} {Γ : List Slot} {h : List Cell} {σ : L2.St} {H : Hp}
/-- as it lies in the whole heap -/
theorem RW.toH (S : Sim K R G μ Γ h σ H) {d : D} {v : V} (r : RW K Γ σ G μ H d v) : RD K H μ d v := by
  rcases r with r | ⟨i, c, a, h1, h2, h3, h4, h5⟩
  · exact r.mono S.gh (List.prefix_refl _)
  · subst h4 h3
    exact h5.frz S.gh rfl
end
theorem depth_mem : ∀ {ds : List D} {d : D}, d ∈ ds → d.depth ≤ depthL ds
  | [], d, hd => by cases hd
  | e :: ds, d, hd => by
    rw [depthL]
    rcases List.mem_cons.mp hd with rfl | hd
    · exact Nat.le_max_left _ _
    · exact Nat.le_trans (depth_mem hd) (Nat.le_max_right _ _)
def eqJ (as bs : List D) (j : Nat) : Bool := match as[j]?, bs[j]? with
  | some a, some b => (eqD a b).getD false
  | _, _ => false
theorem eqZ_at : ∀ {as bs : List D} {x : Bool}, eqZ as bs = some x → ∀ (j : Nat) (a b : D), as[j]? = some a → bs[j]? = some b → eqD a b = some (eqJ as bs j)
  | [], bs, x, _, j, a, b, h1, _ => by simp at h1
  | a :: as, [], x, _, j, c, b, _, h2 => by simp at h2
  | a :: as, b :: bs, x, h, j, c, d, h1, h2 => by
    rw [eqZ] at h
    cases e1 : eqD a b with
    | none => rw [e1] at h; cases h
    | some y =>
      cases e2 : eqZ as bs with
      | none => rw [e1, e2] at h; cases h
      | some z =>
        cases j with
        | zero =>
          simp at h1 h2
          subst h1 h2
          simp [eqJ, e1]
        | succ j =>
          have := eqZ_at e2 j c d (by simpa using h1) (by simpa using h2)
          simpa [eqJ] using this
theorem eqZ_all : ∀ {as bs : List D} {x : Bool}, eqZ as bs = some x → (List.range (min as.length bs.length)).all (eqJ as bs) = x
  | [], bs, x, h => by
    rw [eqZ] at h
    · cases h
      simp
    · intros; simp_all
  | a :: as, [], x, h => by
    rw [eqZ] at h
    · cases h
      simp
    · intros; simp_all
  | a :: as, b :: bs, x, h => by
    rw [eqZ] at h
    cases e1 : eqD a b with
    | none => rw [e1] at h; cases h
    | some y =>
      cases e2 : eqZ as bs with
      | none => rw [e1, e2] at h; cases h
      | some z =>
        rw [e1, e2] at h
        cases h
        have ih := eqZ_all e2
        rw [List.length_cons, List.length_cons, Nat.succ_min_succ, List.range_succ_eq_map, List.all_cons, List.all_map]
        have e0 : eqJ (a :: as) (b :: bs) 0 = y := by simp [eqJ, e1]
        have e3 : (eqJ (a :: as) (b :: bs)) ∘ Nat.succ = eqJ as bs := by
          funext j
          simp [eqJ]
        rw [e0, e3, ih]

section
variable {X : Cx} {pins : List (Addr × Obj)} {σ : L2.St} {H : Hp} {s : Shared} {μ : List Addr}
/-- the kind of what stands there -/
def clsD : D → Option String
  | .tup _ => some "tuple"
  | .lst _ => some "list"
  | .scr _ => some "list"
  | .dct _ _ => some "dict"
  | _ => none
theorem cls_at (I : Inv X pins σ H s) {d : D} {v : V} (r : RD X.K H μ d v) {c : String} (e : clsD d = some c) : ∃ a o, v = .ref a ∧ s.heap.get? a = some o ∧ o.cls = .type c := by
  cases d with
  | tup ds =>
    cases e
    obtain ⟨a, vs, rfl, q, _⟩ := r
    obtain ⟨its, _, ⟨o, ho, hc, _⟩, _⟩ := I.tuple q
    exact ⟨a, o, rfl, ho, hc⟩
  | lst ds =>
    cases e
    obtain ⟨a, vs, rfl, q, _⟩ := r
    obtain ⟨its, _, ⟨o, n, ho, hc, _⟩, _⟩ := I.list (SqL.of q)
    exact ⟨a, o, rfl, ho, hc⟩
  | scr ds =>
    cases e
    obtain ⟨a, vs, rfl, q, _⟩ := r
    obtain ⟨its, _, ⟨o, n, ho, hc, _⟩, _⟩ := I.list q
    exact ⟨a, o, rfl, ho, hc⟩
  | dct ks xs =>
    cases e
    obtain ⟨a, kvs, rfl, q, _⟩ := r
    obtain ⟨_, _, vs, _, o, es, ep, h1, h2, _⟩ := (show ObjOk X.prog X.w H s.heap a (.dK kvs) from I.hok a _ q)
    exact ⟨a, o, rfl, h1, h2.1⟩
  | _ => cases e
theorem cls_ne (I : Inv X pins σ H s) {d e : D} {v : V} (r : RD X.K H μ d v) (r' : RD X.K H μ e v) {c c' : String} (h : clsD d = some c) (h' : clsD e = some c') : c = c' := by
  obtain ⟨a, o, ev, ho, hc⟩ := cls_at I r h
  obtain ⟨a', o', ev', ho', hc'⟩ := cls_at I r' h'
  rw [ev] at ev'
  cases ev'
  rw [ho] at ho'
  cases ho'
  rw [hc] at hc'
  injection hc'
theorem ref_of (I : Inv X pins σ H s) {d : D} {v : V} (r : RD X.K H μ d v) {c : String} (h : clsD d = some c) : ∃ a, v = .ref a := by
  obtain ⟨a, _, e, _⟩ := cls_at I r h
  exact ⟨a, e⟩
/-- the kind of a thing, by what its value tells -/
def tagD : D → Nat
  | .non => 0
  | .bl _ => 1
  | .int _ => 2
  | .str _ => 3
  | .tup _ => 4
  | .lst _ => 5
  | .scr _ => 5
  | .dct _ _ => 6
  | .ref _ => 7
theorem tag_cls : ∀ {d : D}, 4 ≤ tagD d → tagD d < 7 → clsD d = some (if tagD d = 4 then "tuple" else if tagD d = 5 then "list" else "dict") := by
  intro d h1 h2
  cases d <;> simp [tagD] at h1 h2 <;> rfl
def tagV : V → Nat
  | .non => 0
  | .bl _ => 1
  | .int _ => 2
  | .str _ => 3
  | .ref _ => 4
  | _ => 9
theorem tag_val {d : D} {v : V} (r : RD X.K H μ d v) : tagV v = min (tagD d) 4 := by
  cases d with
  | non => cases (show v = .non from r); rfl
  | bl _ => cases (show v = .bl _ from r); rfl
  | int _ => cases (show v = .int _ from r); rfl
  | str _ => cases (show v = .str _ from r.1); rfl
  | tup _ => obtain ⟨a, vs, rfl, _⟩ := r; rfl
  | lst _ => obtain ⟨a, vs, rfl, _⟩ := r; rfl
  | scr _ => obtain ⟨a, vs, rfl, _⟩ := r; rfl
  | dct _ _ => obtain ⟨a, vs, rfl, _⟩ := r; rfl
  | ref _ => obtain ⟨a, rfl, _⟩ := r; rfl
theorem tag_same (I : Inv X pins σ H s) {d e : D} {v : V} (r : RD X.K H μ d v) (r' : RD X.K H μ e v) (hd : tagD d < 7) (he : tagD e < 7) : tagD d = tagD e := by
  have t1 := tag_val r
  have t2 := tag_val r'
  by_cases h1 : 4 ≤ tagD d
  · by_cases h2 : 4 ≤ tagD e
    · have c := cls_ne I r r' (tag_cls h1 hd) (tag_cls h2 he)
      have d1 : tagD d = 4 ∨ tagD d = 5 ∨ tagD d = 6 := by omega
      have d2 : tagD e = 4 ∨ tagD e = 5 ∨ tagD e = 6 := by omega
      rcases d1 with d1 | d1 | d1 <;> rcases d2 with d2 | d2 | d2 <;> rw [d1, d2] at c ⊢ <;> exact absurd c (by decide)
    · omega
  · omega
theorem D.ind {P : D → Prop} (non : P .non) (bl : ∀ b, P (.bl b)) (int : ∀ i, P (.int i)) (str : ∀ x, P (.str x)) (tup : ∀ ds, (∀ d ∈ ds, P d) → P (.tup ds)) (lst : ∀ ds, (∀ d ∈ ds, P d) → P (.lst ds))
    (dct : ∀ ks ds, (∀ d ∈ ds, P d) → P (.dct ks ds)) (scr : ∀ ds, (∀ d ∈ ds, P d) → P (.scr ds)) (ref : ∀ n, P (.ref n)) : ∀ d, P d := by
  intro d
  refine D.rec (motive_1 := P) (motive_2 := fun ds => ∀ d ∈ ds, P d) non bl int str tup lst (fun ks ds h => dct ks ds h) scr ref ?_ ?_ d
  · intro d hd
    cases hd
  · intro a as h1 h2 d hd
    rcases List.mem_cons.mp hd with rfl | hd
    · exact h1
    · exact h2 d hd
theorem eqZ_nil (bs : List D) : eqZ [] bs = some true := by
  rw [eqZ]
  intros
  simp_all
theorem eqZ_nil2 (a : D) (as : List D) : eqZ (a :: as) [] = some true := by
  rw [eqZ]
  intros
  simp_all
theorem eq_sames (I : Inv X pins σ H s) : ∀ (as bs : List D) (vs : List V) (b : Bool), (∀ d ∈ as, ∀ (e : D) (v : V) (b : Bool), RD X.K H μ d v → RD X.K H μ e v → eqD d e = some b → b = true) → RDs X.K H μ as vs → RDs X.K H μ bs vs → eqZ as bs = some b → b = true
  | [], bs, vs, b, ih, t, t', q => by
    rw [eqZ_nil] at q
    cases q
    rfl
  | a :: as, [], vs, b, ih, t, t', q => by
    rw [eqZ_nil2] at q
    cases q
    rfl
  | a :: as, c :: bs, vs, b, ih, t, t', q => by
    obtain ⟨v, r, rfl, h1, h2⟩ := t
    obtain ⟨v', r', e, h1', h2'⟩ := t'
    cases e
    rw [eqZ] at q
    cases e1 : eqD a c with
    | none => rw [e1] at q; cases q
    | some y =>
      cases e2 : eqZ as bs with
      | none => rw [e1, e2] at q; cases q
      | some z =>
        rw [e1, e2] at q
        cases q
        rw [ih a List.mem_cons_self c v y h1 h1' e1, eq_sames I as bs r z (fun d hd => ih d (List.mem_cons_of_mem _ hd)) h2 h2' e2]
        rfl
/-- one thing is equal to itself -/
theorem eq_same (I : Inv X pins σ H s) : ∀ (d e : D) (v : V) (b : Bool), RD X.K H μ d v → RD X.K H μ e v → eqD d e = some b → b = true := by
  intro d
  refine D.ind (P := fun d => ∀ (e : D) (v : V) (b : Bool), RD X.K H μ d v → RD X.K H μ e v → eqD d e = some b → b = true) ?_ ?_ ?_ ?_ ?_ ?_ ?_ ?_ ?_ d
  · intro e v b r r' q
    cases e <;> first
      | (cases q; rfl)
      | (cases q; exact absurd (tag_same I r r' (by decide) (by simp [tagD])) (by simp [tagD]))
      | cases q
  · intro x e v b r r' q
    cases e <;> first
      | (cases (show v = .bl _ from r); cases (show V.bl _ = .bl _ from r'); cases q; simp; done)
      | (cases q; exact absurd (tag_same I r r' (by simp [tagD]) (by simp [tagD])) (by simp [tagD]))
      | cases q
  · intro x e v b r r' q
    cases e <;> first
      | (cases (show v = .int _ from r); cases (show V.int _ = .int _ from r'); cases q; simp; done)
      | (cases q; exact absurd (tag_same I r r' (by simp [tagD]) (by simp [tagD])) (by simp [tagD]))
      | cases q
  · intro x e v b r r' q
    cases e <;> first
      | (cases (show v = .str _ from r.1); cases (show V.str _ = .str _ from r'.1); cases q; simp; done)
      | (cases q; exact absurd (tag_same I r r' (by simp [tagD]) (by simp [tagD])) (by simp [tagD]))
      | cases q
  · intro as ih e v b r r' q
    cases e with
    | tup bs =>
      obtain ⟨a, vs, rfl, q1, _, t1⟩ := r
      obtain ⟨a', vs', e', q2, _, t2⟩ := r'
      cases e'
      cases I.tuple_inj q1 q2
      rw [eqD] at q
      cases z : eqZ as bs with
      | none => rw [z] at q; cases q
      | some y =>
        rw [z] at q
        cases q
        rw [eq_sames I as bs vs y ih t1 t2 z, t1.len, t2.len]
        simp
    | _ => first
      | (cases q; exact absurd (tag_same I r r' (by simp [tagD]) (by simp [tagD])) (by simp [tagD]))
      | cases q
  · intro as ih e v b r r' q
    cases e with
    | lst bs =>
      obtain ⟨a, vs, rfl, q1, _, t1⟩ := r
      obtain ⟨a', vs', e', q2, _, t2⟩ := r'
      cases e'
      rw [q1] at q2
      cases q2
      rw [eqD, if_pos (by rw [t1.len, t2.len])] at q
      exact eq_sames I as bs vs b ih t1 t2 q
    | _ => first
      | (cases q; exact absurd (tag_same I r r' (by simp [tagD]) (by simp [tagD])) (by simp [tagD]))
      | cases q
  · intro ks as ih e v b r r' q
    cases e <;> first
      | (cases q; exact absurd (tag_same I r r' (by simp [tagD]) (by simp [tagD])) (by simp [tagD]))
      | cases q
  · intro as ih e v b r r' q
    cases e <;> cases q
  · intro n e v b r r' q
    cases e <;> cases q
/-- the object of a dict that is tracked -/
theorem dct_obj (I : Inv X pins σ H s) {a : Addr} {kvs : List (Key × V)} (q : H a = some (.dK kvs)) : IsDct s.heap a := by
  obtain ⟨_, _, vs, _, o, es, ep, h1, h2, h3, _⟩ := (show ObjOk X.prog X.w H s.heap a (.dK kvs) from I.hok a _ q)
  exact ⟨o, es, ep, h1, h2.1, h3⟩
def EqOk (X : Cx) (s : Shared) (H : Hp) (μ : List Addr) (d : D) : Prop := ∀ (e : D) (v w : V) (u z : Value) (b : Bool) (A : Around), RD X.K H μ d v → RD X.K H μ e w → RelV v u → RelV w z → eqD d e = some b →
  A.units + min d.depth e.depth < cLine → RcAt A s u z b ∧ EqAt A s u z b
theorem units_in1 (A : Around) : A.in1.units = A.units + 1 := rfl
/-- the pairs of two rows -/
theorem eq_pairs (I : Inv X pins σ H s) {as bs : List D} {vs ws : List V} {its jts : List Value} {x : Bool} {A : Around} (ih : ∀ d ∈ as, EqOk X s H μ d) (t1 : RDs X.K H μ as vs) (t2 : RDs X.K H μ bs ws) (r1 : Vals vs its) (r2 : Vals ws jts)
    (q : eqZ as bs = some x) (hu : A.units + min (depthL as + 1) (depthL bs + 1) < cLine) : ∀ j (h1 : j < its.toArray.size) (h2 : j < jts.toArray.size), EqAt A.in1 s its.toArray[j] jts.toArray[j] (eqJ as bs j) := by
  intro j h1 h2
  have l1 := t1.len.trans r1.length
  have l2 := t2.len.trans r2.length
  have j1 : j < as.length := by rw [l1]; simpa using h1
  have j2 : j < bs.length := by rw [l2]; simpa using h2
  obtain ⟨v, ev, rv⟩ := t1.at (List.getElem?_eq_getElem j1)
  obtain ⟨w, ew, rw'⟩ := t2.at (List.getElem?_eq_getElem j2)
  obtain ⟨u, eu, ru⟩ := r1.get ev
  obtain ⟨z, ez, rz⟩ := r2.get ew
  have e1 : its.toArray[j] = u := by
    have := List.getElem?_eq_some_iff.mp eu
    obtain ⟨_, e⟩ := this
    simpa using e
  have e2 : jts.toArray[j] = z := by
    have := List.getElem?_eq_some_iff.mp ez
    obtain ⟨_, e⟩ := this
    simpa using e
  rw [e1, e2]
  refine (ih as[j] (List.getElem_mem j1) bs[j] v w u z _ A.in1 rv rw' ru rz (eqZ_at q j _ _ (List.getElem?_eq_getElem j1) (List.getElem?_eq_getElem j2)) ?_).2
  have d1 := depth_mem (List.getElem_mem j1)
  have d2 := depth_mem (List.getElem_mem j2)
  rw [units_in1]
  omega
theorem eqAt_D (I : Inv X pins σ H s) : ∀ d : D, EqOk X s H μ d := by
  have nn : ∀ {u : Value}, RelV .non u → u = Value.none := fun r => r
  intro d
  refine D.ind (P := EqOk X s H μ) ?_ ?_ ?_ ?_ ?_ ?_ ?_ ?_ ?_ d
  · intro e v w u z b A r r' ru rz q hu
    cases (show v = .non from r)
    cases nn ru
    have hu0 : A.units < cLine := by omega
    cases e with
    | non => cases (show w = .non from r'); cases nn rz; cases q; exact ⟨RcAt.none_none, EqAt.same _⟩
    | bl y => cases (show w = .bl _ from r'); cases (show z = .bool y from rz); cases q; exact ⟨RcAt.none_bool _, EqAt.none_bool _⟩
    | int y => cases (show w = .int _ from r'); obtain ⟨t, rfl⟩ := rz; cases q; exact ⟨RcAt.none_int _ _, EqAt.none_int _ _⟩
    | str y => cases (show w = .str _ from r'.1); obtain ⟨t, rfl⟩ := rz; cases q; exact ⟨RcAt.none_str _ _, EqAt.none_str _ _⟩
    | tup bs => obtain ⟨a, vs, rfl, p, _, t⟩ := r'; cases (show z = .ref a from rz); obtain ⟨its, _, pt, _⟩ := I.tuple p; cases q; exact ⟨RcAt.none_tuple pt hu0, EqAt.none_tuple pt hu0⟩
    | lst bs => obtain ⟨a, vs, rfl, p, _, t⟩ := r'; cases (show z = .ref a from rz); obtain ⟨its, _, pt, _⟩ := I.list (SqL.of p); cases q; exact ⟨RcAt.none_list pt.isList hu0, EqAt.none_list pt.isList hu0⟩
    | dct ks bs => obtain ⟨a, vs, rfl, p, _⟩ := r'; cases (show z = .ref a from rz); have pt := dct_obj I p; cases q; exact ⟨RcAt.none_dict pt hu0, EqAt.none_dict pt hu0⟩
    | scr _ => cases q
    | ref _ => cases q
  · intro x e v w u z b A r r' ru rz q hu
    cases (show v = .bl _ from r)
    cases (show u = .bool x from ru)
    have hu0 : A.units < cLine := by omega
    cases e with
    | non => cases (show w = .non from r'); cases nn rz; cases q; exact ⟨RcAt.bool_none _, EqAt.bool_none _⟩
    | bl y => cases (show w = .bl _ from r'); cases (show z = .bool y from rz); cases q; exact ⟨RcAt.bool_bool _ _, EqAt.bool_bool _ _⟩
    | int y => cases (show w = .int _ from r'); obtain ⟨t, rfl⟩ := rz; cases q; exact ⟨RcAt.bool_int _ _ _, EqAt.bool_int _ _ _⟩
    | str y => cases (show w = .str _ from r'.1); obtain ⟨t, rfl⟩ := rz; cases q; exact ⟨RcAt.bool_str _ _ _, EqAt.bool_str _ _ _⟩
    | tup bs => obtain ⟨a, vs, rfl, p, _, t⟩ := r'; cases (show z = .ref a from rz); obtain ⟨its, _, pt, _⟩ := I.tuple p; cases q; exact ⟨RcAt.bool_tuple _ pt hu0, EqAt.bool_tuple _ pt hu0⟩
    | lst bs => obtain ⟨a, vs, rfl, p, _, t⟩ := r'; cases (show z = .ref a from rz); obtain ⟨its, _, pt, _⟩ := I.list (SqL.of p); cases q; exact ⟨RcAt.bool_list _ pt.isList hu0, EqAt.bool_list _ pt.isList hu0⟩
    | dct ks bs => obtain ⟨a, vs, rfl, p, _⟩ := r'; cases (show z = .ref a from rz); have pt := dct_obj I p; cases q; exact ⟨RcAt.bool_dict _ pt hu0, EqAt.bool_dict _ pt hu0⟩
    | scr _ => cases q
    | ref _ => cases q
  · intro x e v w u z b A r r' ru rz q hu
    cases (show v = .int _ from r)
    obtain ⟨t0, rfl⟩ := ru
    have hu0 : A.units < cLine := by omega
    cases e with
    | non => cases (show w = .non from r'); cases nn rz; cases q; exact ⟨RcAt.int_none _ _, EqAt.int_none _ _⟩
    | bl y => cases (show w = .bl _ from r'); cases (show z = .bool y from rz); cases q; exact ⟨RcAt.int_bool _ _ _, EqAt.int_bool _ _ _⟩
    | int y => cases (show w = .int _ from r'); obtain ⟨t, rfl⟩ := rz; cases q; exact ⟨RcAt.int_int _ _ _ _, EqAt.int_int _ _ _ _⟩
    | str y => cases (show w = .str _ from r'.1); obtain ⟨t, rfl⟩ := rz; cases q; exact ⟨RcAt.int_str _ _ _ _, EqAt.int_str _ _ _ _⟩
    | tup bs => obtain ⟨a, vs, rfl, p, _, t⟩ := r'; cases (show z = .ref a from rz); obtain ⟨its, _, pt, _⟩ := I.tuple p; cases q; exact ⟨RcAt.int_tuple _ _ pt hu0, EqAt.int_tuple _ _ pt hu0⟩
    | lst bs => obtain ⟨a, vs, rfl, p, _, t⟩ := r'; cases (show z = .ref a from rz); obtain ⟨its, _, pt, _⟩ := I.list (SqL.of p); cases q; exact ⟨RcAt.int_list _ _ pt.isList hu0, EqAt.int_list _ _ pt.isList hu0⟩
    | dct ks bs => obtain ⟨a, vs, rfl, p, _⟩ := r'; cases (show z = .ref a from rz); have pt := dct_obj I p; cases q; exact ⟨RcAt.int_dict _ _ pt hu0, EqAt.int_dict _ _ pt hu0⟩
    | scr _ => cases q
    | ref _ => cases q
  · intro x e v w u z b A r r' ru rz q hu
    cases (show v = .str _ from r.1)
    obtain ⟨t0, rfl⟩ := ru
    have hu0 : A.units < cLine := by omega
    cases e with
    | non => cases (show w = .non from r'); cases nn rz; cases q; exact ⟨RcAt.str_none _ _, EqAt.str_none _ _⟩
    | bl y => cases (show w = .bl _ from r'); cases (show z = .bool y from rz); cases q; exact ⟨RcAt.str_bool _ _ _, EqAt.str_bool _ _ _⟩
    | int y => cases (show w = .int _ from r'); obtain ⟨t, rfl⟩ := rz; cases q; exact ⟨RcAt.str_int _ _ _ _, EqAt.str_int _ _ _ _⟩
    | str y => cases (show w = .str _ from r'.1); obtain ⟨t, rfl⟩ := rz; cases q; exact ⟨RcAt.str_str _ _ _ _, EqAt.str_str _ _ _ _⟩
    | tup bs => obtain ⟨a, vs, rfl, p, _, t⟩ := r'; cases (show z = .ref a from rz); obtain ⟨its, _, pt, _⟩ := I.tuple p; cases q; exact ⟨RcAt.str_tuple _ _ pt hu0, EqAt.str_tuple _ _ pt hu0⟩
    | lst bs => obtain ⟨a, vs, rfl, p, _, t⟩ := r'; cases (show z = .ref a from rz); obtain ⟨its, _, pt, _⟩ := I.list (SqL.of p); cases q; exact ⟨RcAt.str_list _ _ pt.isList hu0, EqAt.str_list _ _ pt.isList hu0⟩
    | dct ks bs => obtain ⟨a, vs, rfl, p, _⟩ := r'; cases (show z = .ref a from rz); have pt := dct_obj I p; cases q; exact ⟨RcAt.str_dict _ _ pt hu0, EqAt.str_dict _ _ pt hu0⟩
    | scr _ => cases q
    | ref _ => cases q
  · intro as ih e v w u z b A r r' ru rz q hu
    have hsame := eq_same I (.tup as) e v b r
    obtain ⟨a, vs, rfl, p, _, t⟩ := id r
    cases (show u = .ref a from ru)
    obtain ⟨its, rv, pt, _⟩ := I.tuple p
    have hu0 : A.units < cLine := by omega
    cases e with
    | non => cases (show w = .non from r'); cases nn rz; cases q; exact ⟨RcAt.tuple_none pt hu0, EqAt.tuple_none pt hu0⟩
    | bl y => cases (show w = .bl _ from r'); cases (show z = .bool y from rz); cases q; exact ⟨RcAt.tuple_bool _ pt hu0, EqAt.tuple_bool _ pt hu0⟩
    | int y => cases (show w = .int _ from r'); obtain ⟨t, rfl⟩ := rz; cases q; exact ⟨RcAt.tuple_int _ _ pt hu0, EqAt.tuple_int _ _ pt hu0⟩
    | str y => cases (show w = .str _ from r'.1); obtain ⟨t, rfl⟩ := rz; cases q; exact ⟨RcAt.tuple_str _ _ pt hu0, EqAt.tuple_str _ _ pt hu0⟩
    | tup bs =>
      obtain ⟨a', ws, rfl, p', _, t'⟩ := id r'
      cases (show z = .ref a' from rz)
      obtain ⟨jts, rw', pt', _⟩ := I.tuple p'
      have q' := q
      rw [eqD] at q
      cases hz : eqZ as bs with
      | none => rw [hz] at q; cases q
      | some x =>
        rw [hz] at q
        cases q
        have hp := eq_pairs (A := A) I ih t t' rv rw' hz (by simpa [D.depth] using hu)
        have base := RcAt.tuples pt pt' hu0 hp
        have l1 := t.len.trans rv.length
        have l2 := t'.len.trans rw'.length
        have e1 : ((List.range (min its.toArray.size jts.toArray.size)).all (eqJ as bs) && its.toArray.size == jts.toArray.size) = (x && as.length == bs.length) := by
          rw [List.size_toArray, List.size_toArray, ← l1, ← l2, eqZ_all hz]
        rw [e1] at base
        refine ⟨base, ?_⟩
        by_cases hab : a = a'
        · subst hab
          rw [hsame r' q']
          exact EqAt.same _
        · exact EqAt.of_refs hab base
    | lst bs => obtain ⟨a', ws, rfl, p', _, t'⟩ := r'; cases (show z = .ref a' from rz); obtain ⟨jts, _, pt', _⟩ := I.list (SqL.of p'); cases q; exact ⟨RcAt.tuple_list pt pt'.isList hu0, EqAt.tuple_list pt pt'.isList hu0⟩
    | dct ks bs => obtain ⟨a', ws, rfl, p', _⟩ := r'; cases (show z = .ref a' from rz); have pt' := dct_obj I p'; cases q; exact ⟨RcAt.tuple_dict pt' pt hu0, EqAt.of_refs (ne_dct_tuple pt' pt).symm (RcAt.tuple_dict pt' pt hu0)⟩
    | scr _ => cases q
    | ref _ => cases q
  · intro as ih e v w u z b A r r' ru rz q hu
    have hsame := eq_same I (.lst as) e v b r
    obtain ⟨a, vs, rfl, p, _, t⟩ := id r
    cases (show u = .ref a from ru)
    obtain ⟨its, rv, pt0, _⟩ := I.list (SqL.of p)
    have pt := pt0.isList
    have hu0 : A.units < cLine := by omega
    cases e with
    | non => cases (show w = .non from r'); cases nn rz; cases q; exact ⟨RcAt.list_none pt hu0, EqAt.list_none pt hu0⟩
    | bl y => cases (show w = .bl _ from r'); cases (show z = .bool y from rz); cases q; exact ⟨RcAt.list_bool _ pt hu0, EqAt.list_bool _ pt hu0⟩
    | int y => cases (show w = .int _ from r'); obtain ⟨t, rfl⟩ := rz; cases q; exact ⟨RcAt.list_int _ _ pt hu0, EqAt.list_int _ _ pt hu0⟩
    | str y => cases (show w = .str _ from r'.1); obtain ⟨t, rfl⟩ := rz; cases q; exact ⟨RcAt.list_str _ _ pt hu0, EqAt.list_str _ _ pt hu0⟩
    | lst bs =>
      obtain ⟨a', ws, rfl, p', _, t'⟩ := id r'
      cases (show z = .ref a' from rz)
      obtain ⟨jts, rw', pt', _⟩ := I.list (SqL.of p')
      have q' := q
      have l1 := t.len.trans rv.length
      have l2 := t'.len.trans rw'.length
      have base : RcAt A s (.ref a) (.ref a') b := by
        rw [eqD] at q
        split at q
        · rename_i hl
          have hp := eq_pairs (A := A) I ih t t' rv rw' q (by simpa [D.depth] using hu)
          have hsz : its.toArray.size = jts.toArray.size := by rw [List.size_toArray, List.size_toArray, ← l1, ← l2, hl]
          have base := RcAt.lists pt pt'.isList hsz hu0 hp
          have e1 : (List.range its.toArray.size).all (eqJ as bs) = b := by
            have := eqZ_all q
            rw [← hl, Nat.min_self] at this
            rw [List.size_toArray, ← l1, this]
          rw [e1] at base
          exact base
        · rename_i hl
          cases q
          refine RcAt.lists_lengths pt pt'.isList ?_ hu0
          rw [List.size_toArray, List.size_toArray, ← l1, ← l2]
          simpa using hl
      refine ⟨base, ?_⟩
      by_cases hab : a = a'
      · subst hab
        rw [hsame r' q']
        exact EqAt.same _
      · exact EqAt.of_refs hab base
    | tup bs => obtain ⟨a', ws, rfl, p', _, t'⟩ := r'; cases (show z = .ref a' from rz); obtain ⟨jts, _, pt', _⟩ := I.tuple p'; cases q; exact ⟨RcAt.list_tuple pt pt' hu0, EqAt.list_tuple pt pt' hu0⟩
    | dct ks bs => obtain ⟨a', ws, rfl, p', _⟩ := r'; cases (show z = .ref a' from rz); have pt' := dct_obj I p'; cases q; exact ⟨RcAt.list_dict pt' pt hu0, EqAt.of_refs (ne_dct_list pt' pt).symm (RcAt.list_dict pt' pt hu0)⟩
    | scr _ => cases q
    | ref _ => cases q
  · intro ks as ih e v w u z b A r r' ru rz q hu
    obtain ⟨a, vs, rfl, p, _, t⟩ := id r
    cases (show u = .ref a from ru)
    have pt := dct_obj I p
    have hu0 : A.units < cLine := by omega
    cases e with
    | non => cases (show w = .non from r'); cases nn rz; cases q; exact ⟨RcAt.dict_none pt hu0, EqAt.dict_none pt hu0⟩
    | bl y => cases (show w = .bl _ from r'); cases (show z = .bool y from rz); cases q; exact ⟨RcAt.dict_bool _ pt hu0, EqAt.dict_bool _ pt hu0⟩
    | int y => cases (show w = .int _ from r'); obtain ⟨t, rfl⟩ := rz; cases q; exact ⟨RcAt.dict_int _ _ pt hu0, EqAt.dict_int _ _ pt hu0⟩
    | str y => cases (show w = .str _ from r'.1); obtain ⟨t, rfl⟩ := rz; cases q; exact ⟨RcAt.dict_str _ _ pt hu0, EqAt.dict_str _ _ pt hu0⟩
    | tup bs => obtain ⟨a', ws, rfl, p', _, t'⟩ := r'; cases (show z = .ref a' from rz); obtain ⟨jts, _, pt', _⟩ := I.tuple p'; cases q; exact ⟨RcAt.dict_tuple pt pt' hu0, EqAt.of_refs (ne_dct_tuple pt pt') (RcAt.dict_tuple pt pt' hu0)⟩
    | lst bs => obtain ⟨a', ws, rfl, p', _, t'⟩ := r'; cases (show z = .ref a' from rz); obtain ⟨jts, _, pt', _⟩ := I.list (SqL.of p'); cases q; exact ⟨RcAt.dict_list pt pt'.isList hu0, EqAt.of_refs (ne_dct_list pt pt'.isList) (RcAt.dict_list pt pt'.isList hu0)⟩
    | dct _ _ => cases q
    | scr _ => cases q
    | ref _ => cases q
  · intro as ih e v w u z b A r r' ru rz q hu
    cases e <;> cases q
  · intro n e v w u z b A r r' ru rz q hu
    cases e <;> cases q
end
theorem RDs.mapD {K : PySem.W.Frag} {G : Hp} {μ : List Addr} {f : D → D} (hf : ∀ d v, RD K G μ d v → RD K G μ (f d) v) : ∀ {ds : List D} {vs : List V}, RDs K G μ ds vs → RDs K G μ (ds.map f) vs
  | [], vs, h => h
  | d :: ds, vs, h => by
    obtain ⟨v, r, e, h1, h2⟩ := h
    exact ⟨v, r, e, hf d v h1, RDs.mapD hf h2⟩
/-- what it holds at this time -/
theorem exp_at {K : PySem.W.Frag} {R : Fr} {G : Hp} {μ : List Addr} {Γ : List Slot} {h : List Cell} {σ : L2.St} {H : Hp} (S : Sim K R G μ Γ h σ H) : ∀ (n : Nat) (d : D) (v : V), RD K H μ d v → RD K H μ (expD h n d) v
  | 0, d, v, r => r
  | n + 1, d, v, r => by
    have ih := exp_at S n
    cases d with
    | tup ds =>
      obtain ⟨a, vs, e, q, z, t⟩ := r
      exact ⟨a, vs, e, q, by rw [List.length_map]; exact z, t.mapD ih⟩
    | lst ds =>
      obtain ⟨a, vs, e, q, z, t⟩ := r
      exact ⟨a, vs, e, q, by rw [List.length_map]; exact z, t.mapD ih⟩
    | dct ks xs =>
      obtain ⟨a, vs, e, q, z, t⟩ := r
      exact ⟨a, vs, e, q, z, t.mapD ih⟩
    | ref k =>
      obtain ⟨a, rfl, ha⟩ := id r
      obtain ⟨c, hc, q⟩ := S.cell_at ha
      unfold expD
      simp only [hc]
      cases c with
      | lst ds =>
        obtain ⟨vs, q, z, t⟩ := q
        exact ⟨a, vs, rfl, q, by rw [List.length_map]; exact z, (t.mono S.gh (List.prefix_refl _)).mapD ih⟩
      | llst ds =>
        obtain ⟨vs, q, _, z, t⟩ := q
        exact ⟨a, vs, rfl, q, by rw [List.length_map]; exact z, (t.mono S.gh (List.prefix_refl _)).mapD ih⟩
      | dct ks xs =>
        obtain ⟨vs, q, z, t⟩ := q
        exact ⟨a, vs, rfl, q, z, (t.mono S.gh (List.prefix_refl _)).mapD ih⟩
      | ins _ _ => exact r
      | ldct _ _ => exact r
    | _ => exact r
theorem dget_at {K : PySem.W.Frag} {G : Hp} {μ : List Addr} {k : Key} : ∀ {kvs : List (Key × V)} {xs : List D}, RDs K G μ xs (kvs.map (·.2)) →
    (∀ d, dgetL (kvs.map (·.1)) xs k = some d → ∃ v, valV kvs k = some v ∧ RD K G μ d v) ∧ (dgetL (kvs.map (·.1)) xs k = none → valV kvs k = none)
  | [], xs, t => by
    refine ⟨fun d e => ?_, fun _ => rfl⟩
    rw [List.map_nil] at e
    unfold dgetL at e
    cases e
  | (k', v) :: kvs, [], t => by
    have := t.len
    simp at this
  | (k', v) :: kvs, x :: xs, t => by
    obtain ⟨v', r, e, h1, h2⟩ := t
    rw [List.map_cons] at e
    injection e with e1 e2
    subst e2
    have ih := dget_at (k := k) (kvs := kvs) h2
    have ed : dgetL (((k', v) :: kvs).map (·.1)) (x :: xs) k = if k' = k then some x else dgetL (kvs.map (·.1)) xs k := by
      rw [List.map_cons]
      rfl
    have ev : valV ((k', v) :: kvs) k = if k' = k then some v else valV kvs k := by
      unfold valV
      rw [List.find?_cons]
      by_cases hk : k' = k
      · subst hk
        simp
      · simp [hk]
    rw [ed, ev]
    by_cases hk : k' = k
    · rw [if_pos hk, if_pos hk]
      refine ⟨fun d e => ?_, fun e => by cases e⟩
      cases e
      exact ⟨v, rfl, by rw [show v = v' from e1]; exact h1⟩
    · rw [if_neg hk, if_neg hk]
      exact ih
/-! ### equality, dicts told -/
theorem eqXZ_nil (bs : List D) : eqXZ [] bs = some true := by
  unfold eqXZ
  rfl
theorem eqXZ_nil2 (a : D) (as : List D) : eqXZ (a :: as) [] = some true := by
  unfold eqXZ
  rfl
theorem eqXZ_cons (a : D) (as : List D) (b : D) (bs : List D) : eqXZ (a :: as) (b :: bs) = (match eqX a b, eqXZ as bs with
    | some x, some y => some (x && y)
    | _, _ => none) := by
  rw [eqXZ] <;> (cases eqX a b <;> cases eqXZ as bs <;> rfl)
theorem eqXZ_inv {a : D} {as : List D} {b : D} {bs : List D} {x : Bool} (h : eqXZ (a :: as) (b :: bs) = some x) : ∃ y z, eqX a b = some y ∧ eqXZ as bs = some z ∧ x = (y && z) := by
  rw [eqXZ_cons] at h
  cases e1 : eqX a b with
  | none => rw [e1] at h; cases h
  | some y =>
    cases e2 : eqXZ as bs with
    | none => rw [e1, e2] at h; cases h
    | some z =>
      rw [e1, e2] at h
      cases h
      exact ⟨y, z, rfl, rfl, rfl⟩
def eqXJ (as bs : List D) (j : Nat) : Bool := match as[j]?, bs[j]? with
  | some a, some b => (eqX a b).getD false
  | _, _ => false
theorem eqXZ_at : ∀ {as bs : List D} {x : Bool}, eqXZ as bs = some x → ∀ (j : Nat) (a b : D), as[j]? = some a → bs[j]? = some b → eqX a b = some (eqXJ as bs j)
  | [], bs, x, _, j, a, b, h1, _ => by simp at h1
  | a :: as, [], x, _, j, c, b, _, h2 => by simp at h2
  | a :: as, b :: bs, x, h, j, c, d, h1, h2 => by
    obtain ⟨y, z, e1, e2, _⟩ := eqXZ_inv h
    cases j with
    | zero =>
      simp at h1 h2
      subst h1 h2
      simp [eqXJ, e1]
    | succ j =>
      have := eqXZ_at e2 j c d (by simpa using h1) (by simpa using h2)
      simpa [eqXJ] using this
theorem eqXZ_all : ∀ {as bs : List D} {x : Bool}, eqXZ as bs = some x → (List.range (min as.length bs.length)).all (eqXJ as bs) = x
  | [], bs, x, h => by
    rw [eqXZ_nil] at h
    cases h
    simp
  | a :: as, [], x, h => by
    rw [eqXZ_nil2] at h
    cases h
    simp
  | a :: as, b :: bs, x, h => by
    obtain ⟨y, z, e1, e2, rfl⟩ := eqXZ_inv h
    have ih := eqXZ_all e2
    rw [List.length_cons, List.length_cons, Nat.succ_min_succ, List.range_succ_eq_map, List.all_cons, List.all_map]
    have e0 : eqXJ (a :: as) (b :: bs) 0 = y := by simp [eqXJ, e1]
    have e3 : (eqXJ (a :: as) (b :: bs)) ∘ Nat.succ = eqXJ as bs := by
      funext j
      simp [eqXJ]
    rw [e0, e3, ih]
theorem eqXK_inv {k : Key} {ks : List Key} {x : D} {xs : List D} {ls : List Key} {ys : List D} {b : Bool} (h : eqXK (k :: ks) (x :: xs) ls ys = some b) : (dgetL ls ys k = none ∧ b = false) ∨ ∃ y p q, dgetL ls ys k = some y ∧ eqX x y = some p ∧ eqXK ks xs ls ys = some q ∧ b = (p && q) := by
  rw [eqXK] at h
  cases e : dgetL ls ys k with
  | none =>
    rw [e] at h
    cases h
    exact .inl ⟨rfl, rfl⟩
  | some y =>
    rw [e] at h
    simp only at h
    cases e1 : eqX x y with
    | none => rw [e1] at h; cases h
    | some p =>
      cases e2 : eqXK ks xs ls ys with
      | none => rw [e1, e2] at h; cases h
      | some q =>
        rw [e1, e2] at h
        cases h
        exact .inr ⟨y, p, q, rfl, e1, rfl, rfl⟩
theorem valV_mem {kvs : List (Key × V)} (nd : (kvs.map (·.1)).Nodup) : ∀ p ∈ kvs, valV kvs p.1 = some p.2 := by
  induction kvs with
  | nil => intro p hp; cases hp
  | cons q r ih =>
    intro p hp
    rw [List.map_cons, List.nodup_cons] at nd
    rcases List.mem_cons.mp hp with rfl | hp
    · exact valV_pos rfl
    · rw [valV_neg fun e => nd.1 (List.mem_map.mpr ⟨p, hp, e.symm⟩)]
      exact ih nd.2 p hp
section
variable {X : Cx} {pins : List (Addr × Obj)} {σ : L2.St} {H : Hp} {s : Shared} {μ : List Addr}
theorem sameXZ : ∀ (as bs : List D) (vs : List V) (b : Bool), (∀ d ∈ as, ∀ (e : D) (v : V) (b : Bool), RD X.K H μ d v → RD X.K H μ e v → eqX d e = some b → b = true) → RDs X.K H μ as vs → RDs X.K H μ bs vs → eqXZ as bs = some b → b = true
  | [], bs, vs, b, ih, t, t', q => by
    rw [eqXZ_nil] at q
    cases q
    rfl
  | a :: as, [], vs, b, ih, t, t', q => by
    rw [eqXZ_nil2] at q
    cases q
    rfl
  | a :: as, c :: bs, vs, b, ih, t, t', q => by
    obtain ⟨v, r, rfl, h1, h2⟩ := t
    obtain ⟨v', r', e, h1', h2'⟩ := t'
    cases e
    obtain ⟨y, z, e1, e2, rfl⟩ := eqXZ_inv q
    rw [ih a List.mem_cons_self c v y h1 h1' e1, sameXZ as bs r z (fun d hd => ih d (List.mem_cons_of_mem _ hd)) h2 h2' e2]
    rfl
theorem sameXK {kvs : List (Key × V)} {ys : List D} (nd : (kvs.map (·.1)).Nodup) (ty : RDs X.K H μ ys (kvs.map (·.2))) : ∀ (sf : List (Key × V)) (xs : List D) (b : Bool), (∀ p ∈ sf, p ∈ kvs) → (∀ d ∈ xs, ∀ (e : D) (v : V) (b : Bool), RD X.K H μ d v → RD X.K H μ e v → eqX d e = some b → b = true) →
    RDs X.K H μ xs (sf.map (·.2)) → eqXK (sf.map (·.1)) xs (kvs.map (·.1)) ys = some b → b = true
  | [], xs, b, hm, ih, t, q => by
    cases xs with
    | nil => rw [eqXK] at q; cases q; rfl
    | cons _ _ => have := t.len; simp at this
  | p :: sf, xs, b, hm, ih, t, q => by
    cases xs with
    | nil => have := t.len; simp at this
    | cons x xs =>
      obtain ⟨v, r, e, h1, h2⟩ := t
      rw [List.map_cons] at e q
      injection e with e1 e2
      subst e2
      have hp := valV_mem nd p (hm p List.mem_cons_self)
      have dg := dget_at (k := p.1) ty
      rcases eqXK_inv q with ⟨n, _⟩ | ⟨y, b1, b2, g1, g2, g3, rfl⟩
      · rw [dg.2 n] at hp
        cases hp
      · obtain ⟨v', l1, l2⟩ := dg.1 y g1
        rw [hp] at l1
        cases l1
        rw [ih x List.mem_cons_self y p.2 b1 (e1 ▸ h1) l2 g2, sameXK nd ty sf xs b2 (fun p hp => hm p (List.mem_cons_of_mem _ hp)) (fun d hd => ih d (List.mem_cons_of_mem _ hd)) h2 g3]
        rfl
/-- one thing is equal to itself -/
theorem sameX (I : Inv X pins σ H s) : ∀ (d e : D) (v : V) (b : Bool), RD X.K H μ d v → RD X.K H μ e v → eqX d e = some b → b = true := by
  intro d
  refine D.ind (P := fun d => ∀ (e : D) (v : V) (b : Bool), RD X.K H μ d v → RD X.K H μ e v → eqX d e = some b → b = true) ?_ ?_ ?_ ?_ ?_ ?_ ?_ ?_ ?_ d
  · intro e v b r r' q
    exact eq_same I _ e v b r r' (by rw [← q]; cases e <;> rfl)
  · intro x e v b r r' q
    exact eq_same I _ e v b r r' (by rw [← q]; cases e <;> rfl)
  · intro x e v b r r' q
    exact eq_same I _ e v b r r' (by rw [← q]; cases e <;> rfl)
  · intro x e v b r r' q
    exact eq_same I _ e v b r r' (by rw [← q]; cases e <;> rfl)
  · intro as ih e v b r r' q
    cases e with
    | tup bs =>
      obtain ⟨a, vs, rfl, q1, _, t1⟩ := r
      obtain ⟨a', vs', e', q2, _, t2⟩ := r'
      cases e'
      cases I.tuple_inj q1 q2
      rw [eqX] at q
      cases z : eqXZ as bs with
      | none => rw [z] at q; cases q
      | some y =>
        rw [z] at q
        cases q
        rw [sameXZ as bs vs y ih t1 t2 z, t1.len, t2.len]
        simp
    | _ => exact eq_same I _ _ v b r r' q
  · intro as ih e v b r r' q
    cases e with
    | lst bs =>
      obtain ⟨a, vs, rfl, q1, _, t1⟩ := r
      obtain ⟨a', vs', e', q2, _, t2⟩ := r'
      cases e'
      rw [q1] at q2
      cases q2
      rw [eqX, if_pos (by rw [t1.len, t2.len])] at q
      exact sameXZ as bs vs b ih t1 t2 q
    | _ => exact eq_same I _ _ v b r r' q
  · intro ks as ih e v b r r' q
    cases e with
    | dct ls bs =>
      obtain ⟨a, kvs, rfl, q1, z1, t1⟩ := r
      obtain ⟨a', kvs', e', q2, z2, t2⟩ := r'
      cases e'
      rw [q1] at q2
      cases q2
      subst z1 z2
      rw [eqX] at q
      split at q
      · rename_i nd
        rw [if_pos rfl] at q
        exact sameXK nd t2 kvs as b (fun _ h => h) ih t1 q
      · cases q
    | _ => exact eq_same I _ _ v b r r' q
  · intro as ih e v b r r' q
    exact eq_same I _ e v b r r' (by rw [← q]; cases e <;> rfl)
  · intro n e v b r r' q
    exact eq_same I _ e v b r r' (by rw [← q]; cases e <;> rfl)
/-- == in this world -/
def RcI (P : Program) (w : World) (A : Around) (s : Shared) (u z : Value) (b : Bool) : Prop := ∀ (E : Value → Shared → Prop) (Q : Value → Shared → Prop), Q (.bool b) s → wpAny (model P w) A (richCompare .Eq u z) Q E s
def EqXk (X : Cx) (s : Shared) (H : Hp) (μ : List Addr) (d : D) : Prop := ∀ (e : D) (v w : V) (u z : Value) (b : Bool) (A : Around), RD X.K H μ d v → RD X.K H μ e w → RelV v u → RelV w z → eqX d e = some b →
  A.units + min d.depth e.depth < cLine → RcI X.prog X.w A s u z b ∧ EqIn X.prog X.w A s u z b
theorem pairsX (I : Inv X pins σ H s) {as bs : List D} {vs ws : List V} {its jts : List Value} {x : Bool} {A : Around} (ih : ∀ d ∈ as, EqXk X s H μ d) (t1 : RDs X.K H μ as vs) (t2 : RDs X.K H μ bs ws) (r1 : Vals vs its) (r2 : Vals ws jts)
    (q : eqXZ as bs = some x) (hu : A.units + min (depthL as + 1) (depthL bs + 1) < cLine) : ∀ j (h1 : j < its.toArray.size) (h2 : j < jts.toArray.size), EqIn X.prog X.w A.in1 s its.toArray[j] jts.toArray[j] (eqXJ as bs j) := by
  intro j h1 h2
  have l1 := t1.len.trans r1.length
  have l2 := t2.len.trans r2.length
  have j1 : j < as.length := by rw [l1]; simpa using h1
  have j2 : j < bs.length := by rw [l2]; simpa using h2
  obtain ⟨v, ev, rv⟩ := t1.at (List.getElem?_eq_getElem j1)
  obtain ⟨w, ew, rw'⟩ := t2.at (List.getElem?_eq_getElem j2)
  obtain ⟨u, eu, ru⟩ := r1.get ev
  obtain ⟨z, ez, rz⟩ := r2.get ew
  have e1 : its.toArray[j] = u := by
    have := List.getElem?_eq_some_iff.mp eu
    obtain ⟨_, e⟩ := this
    simpa using e
  have e2 : jts.toArray[j] = z := by
    have := List.getElem?_eq_some_iff.mp ez
    obtain ⟨_, e⟩ := this
    simpa using e
  rw [e1, e2]
  refine (ih as[j] (List.getElem_mem j1) bs[j] v w u z _ A.in1 rv rw' ru rz (eqXZ_at q j _ _ (List.getElem?_eq_getElem j1) (List.getElem?_eq_getElem j2)) ?_).2
  have d1 := depth_mem (List.getElem_mem j1)
  have d2 := depth_mem (List.getElem_mem j2)
  rw [units_in1]
  omega
theorem dget_mem : ∀ {ls : List Key} {ys : List D} {k : Key} {y : D}, dgetL ls ys k = some y → y ∈ ys
  | [], ys, k, y, h => by unfold dgetL at h; cases h
  | l :: ls, [], k, y, h => by unfold dgetL at h; cases h
  | l :: ls, x :: ys, k, y, h => by
    unfold dgetL at h
    split at h
    · cases h
      exact List.mem_cons_self
    · exact List.mem_cons_of_mem _ (dget_mem h)
theorem hitsX {kvs : List (Key × V)} {ys : List D} {vb : List (Key × Value)} (ty : RDs X.K H μ ys (kvs.map (·.2))) (rb : KV kvs vb) {A : Around} {n : Nat} (hu : A.units + min n (depthL ys) < cLine) : ∀ {sf : List (Key × V)} {va : List (Key × Value)} {xs : List D} {r : Bool}, KV sf va → (∀ d ∈ xs, EqXk X s H μ d) → depthL xs ≤ n →
    RDs X.K H μ xs (sf.map (·.2)) → eqXK (sf.map (·.1)) xs (kvs.map (·.1)) ys = some r → PySem.W.KeqHitsIn X.prog X.w A s vb va r := by
  intro sf va xs r ra
  unfold KV at ra
  induction ra generalizing xs r with
  | nil =>
    intro ih hn t q
    cases xs with
    | nil => rw [List.map_nil, eqXK] at q; cases q; exact .nil
    | cons _ _ => have := t.len; simp at this
  | @cons p q ps qs hh tt ihh =>
    intro ih hn t q'
    cases xs with
    | nil => have := t.len; simp at this
    | cons x xs =>
      obtain ⟨v, r', e, h1, h2⟩ := t
      rw [List.map_cons] at e q'
      injection e with e1 e2
      subst e2
      obtain ⟨k', v'⟩ := q
      obtain ⟨ek, rv⟩ := hh
      have ek : p.1 = k' := ek
      subst ek
      have dg := dget_at (k := p.1) ty
      have rel := rb.val p.1
      rw [depthL] at hn
      rcases eqXK_inv q' with ⟨m, rfl⟩ | ⟨y, b1, b2, g1, g2, g3, rfl⟩
      · rw [dg.2 m] at rel
        refine .miss ?_
        cases z : valueAt vb p.1 with
        | none => rfl
        | some _ => rw [z] at rel; exact rel.elim
      · obtain ⟨w, l1, l2⟩ := dg.1 y g1
        rw [l1] at rel
        obtain ⟨z, hz, rz⟩ := rel.some_of
        refine .hit hz ?_ (ihh (fun d hd => ih d (List.mem_cons_of_mem _ hd)) (by omega) h2 g3)
        have dm := depth_mem (dget_mem g1)
        exact (ih x List.mem_cons_self y p.2 w v' z b1 A (e1 ▸ h1) l2 rv rz g2 (by omega)).2
theorem eqAt_X (I : Inv X pins σ H s) : ∀ d : D, EqXk X s H μ d := by
  have fall : ∀ {d e : D} {v w : V} {u z : Value} {b : Bool} {A : Around}, eqX d e = eqD d e → RD X.K H μ d v → RD X.K H μ e w → RelV v u → RelV w z → eqX d e = some b → A.units + min d.depth e.depth < cLine → RcI X.prog X.w A s u z b ∧ EqIn X.prog X.w A s u z b := fun {d e v w u z b A} h r r' ru rz q hu => by
    rw [h] at q
    obtain ⟨h1, h2⟩ := eqAt_D I d e v w u z b A r r' ru rz q hu
    exact ⟨fun E Q hq => h1 X.prog X.w E Q hq, h2.inModel X.prog X.w⟩
  intro d
  refine D.ind (P := EqXk X s H μ) ?_ ?_ ?_ ?_ ?_ ?_ ?_ ?_ ?_ d
  · intro e v w u z b A r r' ru rz q hu
    exact fall (by cases e <;> rfl) r r' ru rz q hu
  · intro x e v w u z b A r r' ru rz q hu
    exact fall (by cases e <;> rfl) r r' ru rz q hu
  · intro x e v w u z b A r r' ru rz q hu
    exact fall (by cases e <;> rfl) r r' ru rz q hu
  · intro x e v w u z b A r r' ru rz q hu
    exact fall (by cases e <;> rfl) r r' ru rz q hu
  · intro as ih e v w u z b A r r' ru rz q hu
    by_cases he : ∃ bs, e = .tup bs
    · obtain ⟨bs, rfl⟩ := he
      have hsame := sameX I (.tup as) (.tup bs) v b r
      have q' := q
      obtain ⟨a, vs, rfl, p, _, t⟩ := id r
      cases (show u = .ref a from ru)
      obtain ⟨its, rv, pt, _⟩ := I.tuple p
      obtain ⟨a', ws, rfl, p', _, t'⟩ := id r'
      cases (show z = .ref a' from rz)
      obtain ⟨jts, rw', pt', _⟩ := I.tuple p'
      have hu0 : A.units < cLine := by omega
      rw [eqX] at q
      cases hz : eqXZ as bs with
      | none => rw [hz] at q; cases q
      | some x =>
        rw [hz] at q
        cases q
        have hp := pairsX (A := A) I ih t t' rv rw' hz (by simpa [D.depth] using hu)
        have l1 := t.len.trans rv.length
        have l2 := t'.len.trans rw'.length
        have e1 : ((List.range (min its.toArray.size jts.toArray.size)).all (eqXJ as bs) && its.toArray.size == jts.toArray.size) = (x && as.length == bs.length) := by
          rw [List.size_toArray, List.size_toArray, ← l1, ← l2, eqXZ_all hz]
        have base : RcI X.prog X.w A s (.ref a) (.ref a') (x && as.length == bs.length) := fun E Q hq => rcIn_tuples pt pt' hu0 hp (by rw [e1]; exact hq)
        refine ⟨base, ?_⟩
        by_cases hab : a = a'
        · subst hab
          rw [hsame r' q']
          exact (EqAt.same _).inModel X.prog X.w
        · exact EqIn.of_refs hab base
    · exact fall (by cases e <;> first | rfl | exact absurd ⟨_, rfl⟩ he) r r' ru rz q hu
  · intro as ih e v w u z b A r r' ru rz q hu
    by_cases he : ∃ bs, e = .lst bs
    · obtain ⟨bs, rfl⟩ := he
      have hsame := sameX I (.lst as) (.lst bs) v b r
      have q' := q
      obtain ⟨a, vs, rfl, p, _, t⟩ := id r
      cases (show u = .ref a from ru)
      obtain ⟨its, rv, pt0, _⟩ := I.list (SqL.of p)
      have pt := pt0.isList
      obtain ⟨a', ws, rfl, p', _, t'⟩ := id r'
      cases (show z = .ref a' from rz)
      obtain ⟨jts, rw', pt0', _⟩ := I.list (SqL.of p')
      have pt' := pt0'.isList
      have hu0 : A.units < cLine := by omega
      have l1 := t.len.trans rv.length
      have l2 := t'.len.trans rw'.length
      have base : RcI X.prog X.w A s (.ref a) (.ref a') b := by
        rw [eqX] at q
        split at q
        · rename_i hl
          have hp := pairsX (A := A) I ih t t' rv rw' q (by simpa [D.depth] using hu)
          have hsz : its.toArray.size = jts.toArray.size := by rw [List.size_toArray, List.size_toArray, ← l1, ← l2, hl]
          have e1 : (List.range its.toArray.size).all (eqXJ as bs) = b := by
            have := eqXZ_all q
            rw [← hl, Nat.min_self] at this
            rw [List.size_toArray, ← l1, this]
          exact fun E Q hq => rcIn_lists pt pt' hsz hu0 hp (by rw [e1]; exact hq)
        · rename_i hl
          cases q
          refine fun E Q hq => RcAt.lists_lengths pt pt' ?_ hu0 X.prog X.w E Q hq
          rw [List.size_toArray, List.size_toArray, ← l1, ← l2]
          simpa using hl
      refine ⟨base, ?_⟩
      by_cases hab : a = a'
      · subst hab
        rw [hsame r' q']
        exact (EqAt.same _).inModel X.prog X.w
      · exact EqIn.of_refs hab base
    · exact fall (by cases e <;> first | rfl | exact absurd ⟨_, rfl⟩ he) r r' ru rz q hu
  · intro ks as ih e v w u z b A r r' ru rz q hu
    by_cases he : ∃ ls bs, e = .dct ls bs
    · obtain ⟨ls, bs, rfl⟩ := he
      have hsame := sameX I (.dct ks as) (.dct ls bs) v b r
      have q' := q
      obtain ⟨a, kvs, rfl, p, z1, t⟩ := id r
      cases (show u = .ref a from ru)
      obtain ⟨a', lvs, rfl, p', z2, t'⟩ := id r'
      cases (show z = .ref a' from rz)
      subst z1 z2
      obtain ⟨_, ya, va, ra, da⟩ := (show ObjOk X.prog X.w H s.heap a (.dK kvs) from I.hok a _ p)
      obtain ⟨_, yb, vb, rb, db⟩ := (show ObjOk X.prog X.w H s.heap a' (.dK lvs) from I.hok a' _ p')
      have hu0 : A.units < cLine := by omega
      have base : RcI X.prog X.w A s (.ref a) (.ref a') b := by
        rw [eqX] at q
        split at q
        · rename_i nd
          split at q
          · rename_i hl
            have hl' : (va.length == vb.length) = true := by
              rw [← ra.length, ← rb.length]
              simpa using hl
            refine fun E Q hq => PySem.W.keq_eqIn (knd := mixKind X.prog X.w) (r := b) ya yb da db hu0 (fun _ => hitsX t' rb (n := depthL as) (by simp only [D.depth] at hu; rw [units_in1]; omega) ra ih (Nat.le_refl _) t q) ?_
            rw [hl', Bool.true_and]
            exact hq
          · rename_i hl
            cases q
            have hl' : (va.length == vb.length) = false := by
              rw [← ra.length, ← rb.length]
              simpa using hl
            refine fun E Q hq => PySem.W.keq_eqIn (knd := mixKind X.prog X.w) (r := true) ya yb da db hu0 (fun h => by rw [beq_eq_false_iff_ne] at hl'; exact absurd h hl') ?_
            rw [hl', Bool.false_and]
            exact hq
        · cases q
      refine ⟨base, ?_⟩
      by_cases hab : a = a'
      · subst hab
        rw [hsame r' q']
        exact (EqAt.same _).inModel X.prog X.w
      · exact EqIn.of_refs hab base
    · exact fall (by cases e <;> first | rfl | exact absurd ⟨_, _, rfl⟩ he) r r' ru rz q hu
  · intro as ih e v w u z b A r r' ru rz q hu
    exact fall (by cases e <;> rfl) r r' ru rz q hu
  · intro n e v w u z b A r r' ru rz q hu
    exact fall (by cases e <;> rfl) r r' ru rz q hu
end
def cmA : Cm → CmpOp
  | .eq => .Eq
  | .ne => .NotEq
  | .lt => .Lt
  | .le => .LtE
  | .gt => .Gt
  | .ge => .GtE
  | .isin => .In
  | .notin => .NotIn
  | .isN => .Is
  | .notN => .IsNot
  | .isT => .Is
  | .notT => .IsNot
section
variable {X : Cx}
theorem op_eqX (hu : X.A.units + 102 < cLine) : OpR X (compareOp .Eq) (rB X.K (cmpD .eq)) := by
  intro pins s σ H x y v u Q I rx ry hh
  obtain ⟨R, G, μ, Γ, h, σ', a, b, d, S, ra, rb, e, q⟩ := hh
  change (eqH h a b).map (fun b => D.bl b) = some d at e
  unfold eqH at e
  split at e
  · rename_i hd
    cases z : eqD a b with
    | none =>
      rw [z] at e
      simp only at e
      split at e
      · rename_i hd2
        cases z2 : eqX (expD h 12 a) (expD h 12 b) with
        | none => rw [z2] at e; cases e
        | some t =>
          rw [z2] at e
          cases e
          have := (eqAt_X I (expD h 12 a) (expD h 12 b) x y v u t X.A (exp_at S 12 a x (ra.toH S)) (exp_at S 12 b y (rb.toH S)) rx ry z2 (by omega)).1
          exact this X.xe _ ⟨.bl t, H, I, rfl, q _ G H S .refl rfl⟩
      · cases e
    | some t =>
      rw [z] at e
      cases e
      have := (eqAt_D I a b x y v u t X.A (ra.toH S) (rb.toH S) rx ry z (by omega)).1
      exact this X.prog X.w X.xe _ ⟨.bl t, H, I, rfl, q _ G H S .refl rfl⟩
  · cases e
theorem inL_at {s : Shared} {x : D} : ∀ {ys : List D} {b : Bool}, inL x ys = some b → ∀ y ∈ ys, ∃ c, eqD y x = some c
  | [], _, _, y, hy => by cases hy
  | z :: ys, b, h, y, hy => by
    rw [inL] at h
    cases e1 : eqD z x with
    | none => rw [e1] at h; cases h
    | some c =>
      cases e2 : inL x ys with
      | none => rw [e1, e2] at h; cases h
      | some c2 =>
        rcases List.mem_cons.mp hy with rfl | hy
        · exact ⟨c, e1⟩
        · exact inL_at (s := s) e2 y hy
open Classical in
/-- what a value of a row tells of x, by the value -/
noncomputable def eqF (X : Cx) (s : Shared) (H : Hp) (μ : List Addr) (x : D) (ys : List D) (u : Value) : Bool :=
  if h : ∃ (y : D) (v : V) (c : Bool), y ∈ ys ∧ RD X.K H μ y v ∧ RelV v u ∧ eqD y x = some c then h.choose_spec.choose_spec.choose else false
theorem eqF_at {pins : List (Addr × Obj)} {σ : L2.St} {H : Hp} {s : Shared} {μ : List Addr} (I : Inv X pins σ H s) {A : Around} {x : D} {w : V} {z : Value} (r : RD X.K H μ x w) (rz : RelV w z) {ys : List D} {vs : List V} {us : List Value} {b : Bool} (t : RDs X.K H μ ys vs) (rv : Vals vs us)
    (h : inL x ys = some b) (hu : A.units + min x.depth (depthL ys) < cLine) : ∀ u ∈ us, EqAt A s u z (eqF X s H μ x ys u) := by
  intro u hu'
  obtain ⟨i, hi⟩ := List.getElem?_of_mem hu'
  have hl : i < ys.length := by
    rw [t.len, rv.length]
    exact (List.getElem?_eq_some_iff.mp hi).1
  obtain ⟨v, e1, r1⟩ := t.at (List.getElem?_eq_getElem hl)
  obtain ⟨u', e2, r2⟩ := rv.get e1
  rw [hi] at e2
  cases e2
  obtain ⟨c, hc⟩ := inL_at (s := s) h ys[i] (List.getElem_mem hl)
  have ex : ∃ (y : D) (v : V) (c : Bool), y ∈ ys ∧ RD X.K H μ y v ∧ RelV v u ∧ eqD y x = some c := ⟨ys[i], v, c, List.getElem_mem hl, r1, r2, hc⟩
  unfold eqF
  rw [dif_pos ex]
  have sp := ex.choose_spec.choose_spec.choose_spec
  have dm := depth_mem sp.1
  exact (eqAt_D I _ x _ w u z _ A sp.2.1 r sp.2.2.1 rz sp.2.2.2 (by omega)).2
section
variable {pins : List (Addr × Obj)} {σ : L2.St} {H : Hp} {s : Shared} {μ : List Addr}
theorem eqZ_det (I : Inv X pins σ H s) : ∀ (as bs cs : List D) (vs : List V) (b c : Bool), (∀ d ∈ as, ∀ (e x : D) (v : V) (b c : Bool), RD X.K H μ d v → RD X.K H μ e v → eqD d x = some b → eqD e x = some c → b = c) →
    RDs X.K H μ as vs → RDs X.K H μ bs vs → eqZ as cs = some b → eqZ bs cs = some c → b = c
  | [], [], cs, vs, b, c, ih, t, t', q, q' => by
    rw [eqZ_nil] at q q'
    cases q
    cases q'
    rfl
  | [], _ :: _, cs, vs, b, c, ih, t, t', q, q' => by
    have h1 := t.len
    have h2 := t'.len
    simp at h1 h2
    omega
  | _ :: _, [], cs, vs, b, c, ih, t, t', q, q' => by
    have h1 := t.len
    have h2 := t'.len
    simp at h1 h2
    omega
  | a :: as, a' :: bs, [], vs, b, c, ih, t, t', q, q' => by
    rw [eqZ_nil2] at q q'
    cases q
    cases q'
    rfl
  | a :: as, a' :: bs, z :: cs, vs, b, c, ih, t, t', q, q' => by
    obtain ⟨v, r, rfl, h1, h2⟩ := t
    obtain ⟨v', r', e, h1', h2'⟩ := t'
    cases e
    rw [eqZ] at q q'
    cases e1 : eqD a z with
    | none => rw [e1] at q; cases q
    | some y =>
      cases e2 : eqZ as cs with
      | none => rw [e1, e2] at q; cases q
      | some w =>
        rw [e1, e2] at q
        cases e3 : eqD a' z with
        | none => rw [e3] at q'; cases q'
        | some y' =>
          cases e4 : eqZ bs cs with
          | none => rw [e3, e4] at q'; cases q'
          | some w' =>
            rw [e3, e4] at q'
            cases q
            cases q'
            rw [ih a List.mem_cons_self a' z v y y' h1 h1' e1 e3, eqZ_det I as bs cs r w w' (fun d hd => ih d (List.mem_cons_of_mem _ hd)) h2 h2' e2 e4]
theorem eqD_det (I : Inv X pins σ H s) : ∀ (d e x : D) (v : V) (b c : Bool), RD X.K H μ d v → RD X.K H μ e v → eqD d x = some b → eqD e x = some c → b = c := by
  intro d
  refine D.ind (P := fun d => ∀ (e x : D) (v : V) (b c : Bool), RD X.K H μ d v → RD X.K H μ e v → eqD d x = some b → eqD e x = some c → b = c) ?_ ?_ ?_ ?_ ?_ ?_ ?_ ?_ ?_ d
  · intro e x v b c r r' q q'
    cases e <;> first
      | (rw [q] at q'; cases q'; rfl)
      | (cases x <;> cases q'; done)
      | exact absurd (tag_same I r r' (by simp [tagD]) (by simp [tagD])) (by simp [tagD])
  · intro y e x v b c r r' q q'
    cases e <;> first
      | (cases (show v = .bl _ from r); cases (show V.bl _ = .bl _ from r'); rw [q] at q'; cases q'; rfl)
      | (cases x <;> cases q'; done)
      | exact absurd (tag_same I r r' (by simp [tagD]) (by simp [tagD])) (by simp [tagD])
  · intro y e x v b c r r' q q'
    cases e <;> first
      | (cases (show v = .int _ from r); cases (show V.int _ = .int _ from r'); rw [q] at q'; cases q'; rfl)
      | (cases x <;> cases q'; done)
      | exact absurd (tag_same I r r' (by simp [tagD]) (by simp [tagD])) (by simp [tagD])
  · intro y e x v b c r r' q q'
    cases e <;> first
      | (cases (show v = .str _ from r.1); cases (show V.str _ = .str _ from r'.1); rw [q] at q'; cases q'; rfl)
      | (cases x <;> cases q'; done)
      | exact absurd (tag_same I r r' (by simp [tagD]) (by simp [tagD])) (by simp [tagD])
  · intro as ih e x v b c r r' q q'
    cases e with
    | tup bs =>
      obtain ⟨a, vs, rfl, q1, _, t1⟩ := r
      obtain ⟨a', vs', e', q2, _, t2⟩ := r'
      cases e'
      cases I.tuple_inj q1 q2
      cases x with
      | tup cs =>
        rw [eqD] at q q'
        cases z : eqZ as cs with
        | none => rw [z] at q; cases q
        | some y =>
          cases z' : eqZ bs cs with
          | none => rw [z'] at q'; cases q'
          | some y' =>
            rw [z] at q
            rw [z'] at q'
            cases q
            cases q'
            rw [eqZ_det I as bs cs vs y y' ih t1 t2 z z', t1.len, t2.len]
      | ref _ => cases q
      | scr _ => cases q
      | _ => cases q; cases q'; rfl
    | ref _ => cases q'
    | scr _ => cases q'
    | _ => exact absurd (tag_same I r r' (by simp [tagD]) (by simp [tagD])) (by simp [tagD])
  · intro as ih e x v b c r r' q q'
    cases e with
    | lst bs =>
      obtain ⟨a, vs, rfl, q1, _, t1⟩ := r
      obtain ⟨a', vs', e', q2, _, t2⟩ := r'
      cases e'
      rw [q1] at q2
      cases q2
      cases x with
      | lst cs =>
        rw [eqD] at q q'
        rw [t1.len] at q
        rw [t2.len] at q'
        split at q
        · rename_i hl
          rw [if_pos hl] at q'
          exact eqZ_det I as bs cs vs b c ih t1 t2 q q'
        · rename_i hl
          rw [if_neg hl] at q'
          cases q
          cases q'
          rfl
      | ref _ => cases q
      | scr _ => cases q
      | _ => cases q; cases q'; rfl
    | ref _ => cases q'
    | scr _ => cases q'
    | _ => exact absurd (tag_same I r r' (by simp [tagD]) (by simp [tagD])) (by simp [tagD])
  · intro ks as ih e x v b c r r' q q'
    cases e with
    | dct k2 bs =>
      cases x with
      | dct _ _ => cases q
      | ref _ => cases q
      | scr _ => cases q
      | _ => cases q; cases q'; rfl
    | ref _ => cases q'
    | scr _ => cases q'
    | _ => exact absurd (tag_same I r r' (by simp [tagD]) (by simp [tagD])) (by simp [tagD])
  · intro as ih e x v b c r r' q q'
    cases q
  · intro n e x v b c r r' q q'
    cases q
theorem eqF_is (I : Inv X pins σ H s) {x y : D} {v : V} {u : Value} {ys : List D} {c : Bool} (hy : y ∈ ys) (r : RD X.K H μ y v) (ru : RelV v u) (h : eqD y x = some c) : eqF X s H μ x ys u = c := by
  have ex : ∃ (y : D) (v : V) (c : Bool), y ∈ ys ∧ RD X.K H μ y v ∧ RelV v u ∧ eqD y x = some c := ⟨y, v, c, hy, r, ru, h⟩
  unfold eqF
  rw [dif_pos ex]
  have sp := ex.choose_spec.choose_spec.choose_spec
  have ev := sp.2.2.1.inj ru
  exact eqD_det I _ y x v _ c (ev ▸ sp.2.1) r sp.2.2.2 h
theorem inL_any (I : Inv X pins σ H s) {x : D} {zs : List D} : ∀ {ys : List D} {vs : List V} {us : List Value} {b : Bool}, (∀ y ∈ ys, y ∈ zs) → inL x ys = some b → RDs X.K H μ ys vs → Vals vs us → us.any (eqF X s H μ x zs) = b
  | [], vs, us, b, _, h, t, rv => by
    have h' : vs = [] := t
    subst h'
    cases rv
    cases h
    rfl
  | y :: ys, vs, us, b, hz, h, t, rv => by
    obtain ⟨v, r, rfl, h1, h2⟩ := t
    cases rv with
    | @cons _ u _ us r1 rt =>
      rw [inL] at h
      cases e1 : eqD y x with
      | none => rw [e1] at h; cases h
      | some c =>
        cases e2 : inL x ys with
        | none => rw [e1, e2] at h; cases h
        | some c2 =>
          rw [e1, e2] at h
          cases h
          rw [List.any_cons, eqF_is I (hz y List.mem_cons_self) h1 r1 e1, inL_any I (fun y hy => hz y (List.mem_cons_of_mem _ hy)) e2 h2 rt]
end
theorem op_inX (hu : X.A.units + 104 < cLine) : OpR X (compareOp .In) (rB X.K (cmpD .isin)) ∧ OpR X (compareOp .NotIn) (rB X.K (cmpD .notin)) := by
  have key : ∀ {pins : List (Addr × Obj)} {s : Shared} {σ : L2.St} {H : Hp} {x y : V} {v u : Value}, Inv X pins σ H s → RelV x v → RelV y u → ∀ {R : Fr} {G : Hp} {μ : List Addr} {Γ : List Slot} {h : List Cell} {σ' : L2.St} {a b : D} {t : Bool},
      Sim X.K R G μ Γ h σ' H → RW X.K Γ σ' G μ H a x → RW X.K Γ σ' G μ H b y → inH h a b = some t → (∀ z, b ≠ .str z) →
      ∃ (l : Addr) (items : Array Value) (e : Value → Bool), u = .ref l ∧ (s.heap.IsList l items ∨ s.heap.IsTuple l items) ∧ (∀ w, w ∈ items → EqAt X.A.in1 s w v (e w)) ∧ items.any e = t := by
    intro pins s σ H x y v u I rx ry R G μ Γ h σ' a b t S ra rb e hb
    unfold inH at e
    split at e
    · exact absurd rfl (hb _)
    · split at e
      · rename_i ys hys
        split at e
        · rename_i hd
          obtain ⟨p, vs, rfl, hp, lp, tp⟩ := seq_at S rb hys
          cases (show u = .ref p from ry)
          have tp' : RDs X.K H μ ys vs := tp.mono S.gh (List.prefix_refl _)
          rcases hp with hp | hp
          · obtain ⟨its, rv, pl, _⟩ := I.list hp
            refine ⟨p, its.toArray, eqF X s H μ a ys, rfl, .inl pl.isList, fun w hw => eqF_at I (ra.toH S) rx tp' rv e (by rw [units_in1]; omega) w (by simpa using hw), ?_⟩
            have := inL_any I (fun _ h => h) e tp' rv
            simpa using this
          · obtain ⟨its, rv, pl, _⟩ := I.tuple hp
            refine ⟨p, its.toArray, eqF X s H μ a ys, rfl, .inr pl, fun w hw => eqF_at I (ra.toH S) rx tp' rv e (by rw [units_in1]; omega) w (by simpa using hw), ?_⟩
            have := inL_any I (fun _ h => h) e tp' rv
            simpa using this
        · cases e
      · cases e
  constructor
  · intro pins s σ H x y v u Q I rx ry hh
    obtain ⟨R, G, μ, Γ, h, σ', a, b, d, S, ra, rb, e, q⟩ := hh
    change (inH h a b).map (fun b => D.bl b) = some d at e
    cases z : inH h a b with
    | none => rw [z] at e; cases e
    | some t =>
      rw [z] at e
      cases e
      have fin : EP X pins σ Q (.bool t) s := ⟨.bl t, H, I, rfl, q _ G H S .refl rfl⟩
      by_cases hb : ∃ w, b = .str w
      · obtain ⟨w, rfl⟩ := hb
        obtain ⟨ey, _⟩ := str_at rb
        subst ey
        unfold inH at z
        simp only at z
        split at z
        · rename_i a'
          obtain ⟨ex, _⟩ := str_at ra
          subst ex
          split at z
          · rename_i c hc
            cases z
            have ea : a' = ⟨#[c]⟩ := by
              obtain ⟨l⟩ := a'
              have : l.toList = [c] := hc
              have : l = #[c] := by
                apply Array.toList_inj.mp
                simpa using this
              rw [this]
            subst ea
            exact op_in_sign pins s σ H _ _ v u Q I rx ry ⟨c, w, rfl, rfl, q _ G H S .refl rfl⟩
          · cases z
        · cases z
      · obtain ⟨l, items, f, rfl, hl, he, ha⟩ := key I rx ry S ra rb z (fun w e => hb ⟨w, e⟩)
        rcases hl with hl | hl
        · exact SeqAt.in_listAt f hl he (by rw [ha]; exact fin)
        · exact SeqAt.in_tupleAt f hl he (by rw [ha]; exact fin)
  · intro pins s σ H x y v u Q I rx ry hh
    obtain ⟨R, G, μ, Γ, h, σ', a, b, d, S, ra, rb, e, q⟩ := hh
    change (inH h a b).map (fun b => D.bl (!b)) = some d at e
    cases z : inH h a b with
    | none => rw [z] at e; cases e
    | some t =>
      rw [z] at e
      cases e
      have fin : EP X pins σ Q (.bool (!t)) s := ⟨.bl (!t), H, I, rfl, q _ G H S .refl rfl⟩
      by_cases hb : ∃ w, b = .str w
      · obtain ⟨w, rfl⟩ := hb
        obtain ⟨ey, _⟩ := str_at rb
        subst ey
        unfold inH at z
        simp only at z
        split at z
        · rename_i a'
          obtain ⟨ex, _⟩ := str_at ra
          subst ex
          split at z
          · rename_i c hc
            cases z
            have ea : a' = ⟨#[c]⟩ := by
              obtain ⟨l⟩ := a'
              have : l.toList = [c] := hc
              have : l = #[c] := by
                apply Array.toList_inj.mp
                simpa using this
              rw [this]
            subst ea
            exact op_notIn_sign pins s σ H _ _ v u Q I rx ry ⟨c, w, rfl, rfl, q _ G H S .refl rfl⟩
          · cases z
        · cases z
      · obtain ⟨l, items, f, rfl, hl, he, ha⟩ := key I rx ry S ra rb z (fun w e => hb ⟨w, e⟩)
        rcases hl with hl | hl
        · exact SeqAt.notIn_listAt f hl he (by rw [ha]; exact fin)
        · exact SeqAt.notIn_tupleAt f hl he (by rw [ha]; exact fin)
theorem tuple_neC {prog : Program} {w : World} (a b : Addr) (xs ys : Array Value) (k1 k2 : Nat) (d1 d2 : Option Addr) (l1 l2 : Array (Option Value)) (e : Nat → Bool) :
    MeetsIn prog w (Builtin.«tuple.__ne__» ⟨[.ref a, .ref b], []⟩) fun A R s => s.heap.get? a = some { cls := .type "tuple", dict := d1, data := .seq xs k1, slots := l1 } ∧
      s.heap.get? b = some { cls := .type "tuple", dict := d2, data := .seq ys k2, slots := l2 } ∧ (∀ j (h1 : j < xs.size) (h2 : j < ys.size), EqIn prog w A.in1 s xs[j] ys[j] (e j)) ∧
      R (.ok (.ret (.bool (!((List.range (min xs.size ys.size)).all e && xs.size == ys.size))))) s := by
  refine .of_wp fun A R s hh => ?_
  obtain ⟨hp, gs, dr, tk, os⟩ := s
  obtain ⟨oa, ob, hpair, hfin⟩ := hh
  have su := AutoSeq1.sub_tuple_tuple
  have hlen : (xs.toList.zip ys.toList).length = min xs.size ys.size := by simp
  wp_walk using PySem.SeqAt.AutoSeq1.wpAny_loadPart' oa, PySem.SeqAt.AutoSeq1.wpAny_loadPart' ob, wpAny_forIn_list _ (fun todo acc st => acc.1 = none ∧ st = ⟨hp, gs, dr, tk, os⟩ ∧ ∃ m, todo = (xs.toList.zip ys.toList).drop m ∧
    R (.ok (.ret (.bool (!(((List.range (min xs.size ys.size)).drop m).all e && xs.size == ys.size))))) ⟨hp, gs, dr, tk, os⟩) _
  case turn =>
    rintro ⟨p, q⟩ todo acc st ⟨_, rfl, m, em, hm⟩
    have hml : m < (xs.toList.zip ys.toList).length := by
      by_cases hc : m < (xs.toList.zip ys.toList).length
      · exact hc
      · rw [List.drop_of_length_le (Nat.le_of_not_lt hc)] at em
        cases em
    have hmin : m < min xs.size ys.size := hlen ▸ hml
    have mx : m < xs.size := by omega
    have my : m < ys.size := by omega
    rw [List.drop_eq_getElem_cons hml] at em
    injection em with epq etail
    obtain rfl : p = xs[m] := by
      have := congrArg Prod.fst epq
      simpa using this
    obtain rfl : q = ys[m] := by
      have := congrArg Prod.snd epq
      simpa using this
    rw [show (List.range (min xs.size ys.size)).drop m = m :: (List.range (min xs.size ys.size)).drop (m + 1) by simp [List.drop_eq_getElem_cons, hmin], List.all_cons] at hm
    refine wpAny_bind (hpair m mx my _ _ ?_)
    by_cases hem : e m = true
    · rw [hem] at hm ⊢
      wp_walk
      exact ⟨rfl, rfl, m + 1, etail, by simpa using hm⟩
    · rw [Bool.not_eq_true] at hem
      rw [hem] at hm ⊢
      wp_walk
      exact ⟨_, rfl, by simpa using hm⟩
  case fin =>
    rintro ⟨c1, c2⟩ st ⟨ec, rfl, m, em, hm⟩
    dsimp only at ec
    subst ec
    have hend : min xs.size ys.size ≤ m := by
      by_cases hc : m < (xs.toList.zip ys.toList).length
      · rw [List.drop_eq_getElem_cons hc] at em
        cases em
      · rw [← hlen]
        exact Nat.le_of_not_lt hc
    rw [List.drop_of_length_le (by simpa using hend)] at hm
    wp_walk
    exact ⟨_, rfl, by simpa [Builtin.Tuple.tupleCompareSizes, bne] using hm⟩
  case h =>
    refine ⟨rfl, rfl, 0, rfl, ?_⟩
    rw [List.drop_zero]
    exact hfin
theorem tuple_neI {prog : Program} {w : World} {A : Around} {E : Value → Shared → Prop} {s : Shared} {a b : Addr} {xs ys : Array Value} {e : Nat → Bool} {Q : Value → Shared → Prop} (ha : s.heap.IsTuple a xs) (hb : s.heap.IsTuple b ys) (hu : A.units < cLine)
    (he : ∀ j (h1 : j < xs.size) (h2 : j < ys.size), EqIn prog w A.in1 s xs[j] ys[j] (e j)) (hQ : Q (.bool (!((List.range (min xs.size ys.size)).all e && xs.size == ys.size))) s) :
    wpAny (model prog w) A (richCompare .NotEq (.ref a) (.ref b)) Q E s := by
  obtain ⟨⟨c1, d1, q1, l1⟩, o1, z1, k1, y1⟩ := id ha
  obtain ⟨⟨c2, d2, q2, l2⟩, o2, z2, k2, y2⟩ := id hb
  dsimp only at z1 y1 z2 y2
  subst z1 y1 z2 y2
  refine wpAny_richCompare_same_room (T := "tuple") (op := .NotEq) ⟨_, o1, rfl⟩ ⟨_, o2, rfl⟩ PySem.F.slot_tuple_ne ?_ hu
  exact call_meetsIn PySem.F.slot_tuple_ne ⟨_, o1, rfl⟩ PySem.F.entry_tuple_ne (PySem.F.args_tuple_ne_2 _ _) (tuple_neC a b xs ys k1 k2 d1 d2 l1 l2 e) ⟨o1, o2, he, show Value.bool _ ≠ Value.notImplemented ∧ _ from ⟨(fun x => nomatch x), hQ⟩⟩
theorem dict_neI {prog : Program} {w : World} {K : Type} [DecidableEq K] {knd : KeyKind prog w K} {A : Around} {E : Value → Shared → Prop} {s : Shared} {a b : Addr} {ka kb : List (K × Value)} {r : Bool} {Q : Value → Shared → Prop} (na : (a == sysModules) = false) (nb : (b == sysModules) = false)
    (xa : s.heap.DictOf knd a ka) (xb : s.heap.DictOf knd b kb) (hu : A.units < cLine) (ht : ka.length = kb.length → PySem.W.KeqHitsIn prog w A.in1 s kb ka r) (hQ : Q (.bool (!(ka.length == kb.length && r))) s) : wpAny (model prog w) A (richCompare .NotEq (.ref a) (.ref b)) Q E s := by
  refine wpAny_richCompare_same_room (op := .NotEq) xa.typeIs xb.typeIs PySem.F.slot_dict_ne ?_ hu
  refine wpAny_call_entry PySem.F.slot_dict_ne xa.typeIs PySem.F.entry_dict_ne ?_ (PySem.F.args_dict_ne_2 _ _)
  show wpAny _ _ (bind (Builtin.Dict.dictSlotArgs "__ne__" ⟨[.ref a, .ref b], []⟩) _) _ _ s
  unfold Builtin.Dict.dictSlotArgs
  refine wpAny_bind (wpAny_bind (wpAny_notOrdered_dict xa.typeIs (wpAny_pure ?_)))
  refine wpAny_bind (wpAny_isInstance (T := "dict") xb.typeIs PySem.F.sub_dict_dict ?_)
  rw [if_neg (by decide)]
  refine wpAny_bind (wpAny_pure (wpAny_bind (wpAny_pure (wpAny_bind (PySem.W.keq_samePairsIn na nb xa xb ht (wpAny_pure ⟨_, rfl, (fun x => nomatch x), ?_⟩))))))
  simpa using hQ
theorem op_neX (hu : X.A.units + 102 < cLine) : OpR X (compareOp .NotEq) (rB X.K (cmpD .ne)) := by
  intro pins s σ H x y v u Q I rx ry hh
  obtain ⟨R, G, μ, Γ, h, σ', a, b, d, S, ra, rb, e, q⟩ := hh
  change (neH h a b).map (fun b => D.bl b) = some d at e
  unfold neH at e
  cases z : neD a b with
  | none =>
    rw [z] at e
    simp only at e
    split at e
    · rename_i hd
      have A1 := exp_at S 12 a x (ra.toH S)
      have B1 := exp_at S 12 b y (rb.toH S)
      revert A1 B1 e hd
      generalize expD h 12 a = a'
      generalize expD h 12 b = b'
      intro hd e A1 B1
      cases z2 : neX a' b' with
      | none => rw [z2] at e; cases e
      | some t =>
        rw [z2] at e
        cases e
        have fin : EP X pins σ Q (.bool t) s := ⟨.bl t, H, I, rfl, q _ G H S .refl rfl⟩
        unfold neX at z2
        split at z2
        · rename_i as bs
          cases z3 : eqD (.lst as) (.lst bs) with
          | none => rw [z3] at z2; cases z2
          | some c =>
            rw [z3] at z2
            cases z2
            obtain ⟨p, vs, rfl, hp, _, t1⟩ := A1
            obtain ⟨p', ws, rfl, hp', _, t2⟩ := B1
            cases (show v = .ref p from rx)
            cases (show u = .ref p' from ry)
            obtain ⟨its, rv, pt0, _⟩ := I.list (SqL.of hp)
            obtain ⟨jts, rw', pt0', _⟩ := I.list (SqL.of hp')
            have l1 := t1.len.trans rv.length
            have l2 := t2.len.trans rw'.length
            rw [eqD] at z3
            split at z3
            · rename_i hl
              have hp := eq_pairs (A := X.A) I (fun d _ => eqAt_D I d) t1 t2 rv rw' z3 (by simp only [D.depth] at hd; omega)
              have hsz : its.toArray.size = jts.toArray.size := by rw [List.size_toArray, List.size_toArray, ← l1, ← l2, hl]
              have e1 : (List.range its.toArray.size).all (eqJ as bs) = c := by
                have := eqZ_all z3
                rw [← hl, Nat.min_self] at this
                rw [List.size_toArray, ← l1, this]
              exact RcNeAt.lists pt0.isList pt0'.isList hsz (by omega) hp X.prog X.w X.xe _ (by rw [e1]; exact fin)
            · rename_i hl
              cases z3
              refine RcNeAt.lists_lengths pt0.isList pt0'.isList ?_ (by omega) X.prog X.w X.xe _ fin
              rw [List.size_toArray, List.size_toArray, ← l1, ← l2]
              simpa using hl
        · rename_i as bs
          cases z3 : eqX (.tup as) (.tup bs) with
          | none => rw [z3] at z2; cases z2
          | some c =>
            rw [z3] at z2
            cases z2
            obtain ⟨p, vs, rfl, hp, _, t1⟩ := A1
            obtain ⟨p', ws, rfl, hp', _, t2⟩ := B1
            cases (show v = .ref p from rx)
            cases (show u = .ref p' from ry)
            obtain ⟨its, rv, pt, _⟩ := I.tuple hp
            obtain ⟨jts, rw', pt', _⟩ := I.tuple hp'
            have l1 := t1.len.trans rv.length
            have l2 := t2.len.trans rw'.length
            rw [eqX] at z3
            cases hz : eqXZ as bs with
            | none => rw [hz] at z3; cases z3
            | some x =>
              rw [hz] at z3
              cases z3
              have hp := pairsX (A := X.A) I (fun d _ => eqAt_X I d) t1 t2 rv rw' hz (by simp only [D.depth] at hd; omega)
              have e1 : ((List.range (min its.toArray.size jts.toArray.size)).all (eqXJ as bs) && its.toArray.size == jts.toArray.size) = (x && as.length == bs.length) := by
                rw [List.size_toArray, List.size_toArray, ← l1, ← l2, eqXZ_all hz]
              exact tuple_neI pt pt' (by omega) hp (by rw [e1]; exact fin)
        · rename_i ks as ls bs
          cases z3 : eqX (.dct ks as) (.dct ls bs) with
          | none => rw [z3] at z2; cases z2
          | some c =>
            rw [z3] at z2
            cases z2
            obtain ⟨p, kvs, rfl, hp, y1, t1⟩ := A1
            obtain ⟨p', lvs, rfl, hp', y2, t2⟩ := B1
            cases (show v = .ref p from rx)
            cases (show u = .ref p' from ry)
            subst y1 y2
            obtain ⟨_, ya, va, ra', da⟩ := (show ObjOk X.prog X.w H s.heap p (.dK kvs) from I.hok p _ hp)
            obtain ⟨_, yb, vb, rb', db⟩ := (show ObjOk X.prog X.w H s.heap p' (.dK lvs) from I.hok p' _ hp')
            rw [eqX] at z3
            split at z3
            · rename_i nd
              split at z3
              · rename_i hl
                have hl' : (va.length == vb.length) = true := by
                  rw [← ra'.length, ← rb'.length]
                  simpa using hl
                refine dict_neI (knd := mixKind X.prog X.w) (r := c) ya yb da db (by omega) (fun _ => hitsX t2 rb' (n := depthL as) (by simp only [D.depth] at hd; rw [units_in1]; omega) ra' (fun d _ => eqAt_X I d) (Nat.le_refl _) t1 z3) ?_
                rw [hl', Bool.true_and]
                exact fin
              · rename_i hl
                cases z3
                have hl' : (va.length == vb.length) = false := by
                  rw [← ra'.length, ← rb'.length]
                  simpa using hl
                refine dict_neI (knd := mixKind X.prog X.w) (r := true) ya yb da db (by omega) (fun h => by rw [beq_eq_false_iff_ne] at hl'; exact absurd h hl') ?_
                rw [hl', Bool.false_and]
                exact fin
            · cases z3
        · cases z2
    · cases e
  | some t =>
    rw [z] at e
    cases e
    have fin : ∀ {x y : V}, RelV x v → RelV y u → scal x y = true → (!decide (x = y)) = t → wpAny (model X.prog X.w) X.A (compareOp .NotEq v u) (EP X pins σ Q) X.xe s := fun r1 r2 h1 h2 =>
      op_ne pins s σ H _ _ v u Q I r1 r2 ⟨h1, by rw [h2]; exact q _ G H S .refl rfl⟩
    unfold neD at z
    split at z
    · cases bl_at ra; cases bl_at rb; cases z; exact fin rx ry rfl (by rw [Bool.eq_iff_iff]; simp)
    · cases int_at ra; cases int_at rb; cases z; exact fin rx ry rfl (by rw [Bool.eq_iff_iff]; simp)
    · cases (str_at ra).1; cases (str_at rb).1; cases z; exact fin rx ry rfl (by rw [Bool.eq_iff_iff]; simp)
    · cases non_at ra; cases non_at rb; cases z; exact fin rx ry rfl (by simp)
    · cases non_at ra; cases int_at rb; cases z; exact fin rx ry rfl (by simp)
    · cases int_at ra; cases non_at rb; cases z; exact fin rx ry rfl (by simp)
    · cases non_at ra; cases (str_at rb).1; cases z; exact fin rx ry rfl (by simp)
    · cases (str_at ra).1; cases non_at rb; cases z; exact fin rx ry rfl (by simp)
    · cases z
/-- a value that is not None -/
theorem ne_non {K : PySem.W.Frag} {Γ : List Slot} {σ : L2.St} {G : Hp} {μ : List Addr} {H : Hp} {d : D} {v : V} (r : RW K Γ σ G μ H d v) (h : d ≠ .non) : v ≠ .non := by
  intro e
  subst e
  rcases r with r | ⟨i, c, a, h1, h2, h3, h4, h5⟩
  · cases d with
    | non => exact h rfl
    | bl _ => cases (show V.non = .bl _ from r)
    | int _ => cases (show V.non = .int _ from r)
    | str _ => cases (show V.non = .str _ from r.1)
    | tup _ => obtain ⟨a, vs, e, _⟩ := r; cases e
    | lst _ => obtain ⟨a, vs, e, _⟩ := r; cases e
    | scr _ => obtain ⟨a, vs, e, _⟩ := r; cases e
    | dct _ _ => obtain ⟨a, vs, e, _⟩ := r; cases e
    | ref _ => obtain ⟨a, e, _⟩ := r; cases e
  · cases h3
theorem op_cmp (o : Cm) (hu : X.A.units + 104 < cLine) : OpR X (compareOp (cmA o)) (rB X.K (cmpD o)) := by
  cases o with
  | eq => exact op_eqX (by omega)
  | ne => exact op_neX (by omega)
  | isin => exact (op_inX hu).1
  | notin => exact (op_inX hu).2
  | lt =>
    intro pins s σ H x y v u Q I rx ry hh
    obtain ⟨R, G, μ, Γ, h, σ', a, b, d, S, ra, rb, e, q⟩ := hh
    unfold cmpD at e
    simp only at e
    split at e
    · cases int_at ra; cases int_at rb; cases e; exact op_lt pins s σ H _ _ v u Q I rx ry ⟨_, _, rfl, rfl, q _ G H S .refl rfl⟩
    · cases e
  | le =>
    intro pins s σ H x y v u Q I rx ry hh
    obtain ⟨R, G, μ, Γ, h, σ', a, b, d, S, ra, rb, e, q⟩ := hh
    unfold cmpD at e
    simp only at e
    split at e
    · cases int_at ra; cases int_at rb; cases e; exact op_le pins s σ H _ _ v u Q I rx ry ⟨_, _, rfl, rfl, q _ G H S .refl rfl⟩
    · cases e
  | gt =>
    intro pins s σ H x y v u Q I rx ry hh
    obtain ⟨R, G, μ, Γ, h, σ', a, b, d, S, ra, rb, e, q⟩ := hh
    unfold cmpD at e
    simp only at e
    split at e
    · cases int_at ra; cases int_at rb; cases e; exact op_gt pins s σ H _ _ v u Q I rx ry ⟨_, _, rfl, rfl, q _ G H S .refl rfl⟩
    · cases e
  | ge =>
    intro pins s σ H x y v u Q I rx ry hh
    obtain ⟨R, G, μ, Γ, h, σ', a, b, d, S, ra, rb, e, q⟩ := hh
    unfold cmpD at e
    simp only at e
    split at e
    · cases int_at ra; cases int_at rb; cases e; exact op_ge pins s σ H _ _ v u Q I rx ry ⟨_, _, rfl, rfl, q _ G H S .refl rfl⟩
    · cases e
  | isN =>
    intro pins s σ H x y v u Q I rx ry hh
    obtain ⟨R, G, μ, Γ, h, σ', a, b, d, S, ra, rb, e, q⟩ := hh
    unfold cmpD at e
    simp only at e
    split at e
    · split at e
      · cases non_at ra; cases non_at rb; cases e; exact op_isN pins s σ H _ _ v u Q I rx ry ⟨rfl, q _ G H S .refl rfl⟩
      · rename_i hn
        cases non_at rb
        cases e
        refine op_isN pins s σ H _ _ v u Q I rx ry ⟨rfl, ?_⟩
        rw [decide_eq_false (ne_non ra hn)]
        exact q _ G H S .refl rfl
    · cases e
  | notN =>
    intro pins s σ H x y v u Q I rx ry hh
    obtain ⟨R, G, μ, Γ, h, σ', a, b, d, S, ra, rb, e, q⟩ := hh
    unfold cmpD at e
    simp only at e
    split at e
    · split at e
      · cases non_at ra; cases non_at rb; cases e; exact op_notN pins s σ H _ _ v u Q I rx ry ⟨rfl, q _ G H S .refl rfl⟩
      · rename_i hn
        cases non_at rb
        cases e
        refine op_notN pins s σ H _ _ v u Q I rx ry ⟨rfl, ?_⟩
        rw [decide_eq_false (ne_non ra hn)]
        exact q _ G H S .refl rfl
    · cases e
  | isT =>
    intro pins s σ H x y v u Q I rx ry hh
    obtain ⟨R, G, μ, Γ, h, σ', a, b, d, S, ra, rb, e, q⟩ := hh
    unfold cmpD at e
    simp only at e
    split at e
    · cases bl_at ra; cases bl_at rb; cases e; exact op_is_bl pins s σ H _ _ v u Q I rx ry ⟨_, _, rfl, rfl, by rw [show ∀ a b : Bool, decide (a = b) = (a == b) from by decide]; exact q _ G H S .refl rfl⟩
    · cases e
  | notT =>
    intro pins s σ H x y v u Q I rx ry hh
    obtain ⟨R, G, μ, Γ, h, σ', a, b, d, S, ra, rb, e, q⟩ := hh
    unfold cmpD at e
    simp only at e
    split at e
    · cases bl_at ra; cases bl_at rb; cases e; exact op_isnot_bl pins s σ H _ _ v u Q I rx ry ⟨_, _, rfl, rfl, by rw [show ∀ a b : Bool, decide (a = b) = (a == b) from by decide]; exact q _ G H S .refl rfl⟩
    · cases e
end
end DC

set_option linter.all false
set_option Elab.async false
set_option maxRecDepth 100000
set_option maxHeartbeats 2000000
/-! DCall: built-in calls, subscripts and slices of the small language. -/
namespace DC
open PySem L2 PySem.Spec PyProof.Rows
def tyN : Ty → String
  | .str => "str"
  | .int => "int"
  | .bool => "bool"
  | .tuple => "tuple"
  | .list => "list"
  | .dict => "dict"
section
variable {X : Cx}
theorem neg_D : UnR X (unaryOp .USub) (rU1 X.K fun _ x => negD x) := by
  intro pins s σ H x v Q I rx hh
  obtain ⟨R, G, μ, Γ, h, σ', a, d, S, ra, e, q⟩ := hh
  dsimp only at e
  unfold negD at e
  split at e
  · cases int_at ra
    cases e
    exact un_neg pins s σ H _ v Q I rx ⟨_, rfl, q _ G H S .refl rfl⟩
  · cases e
/-- the type of a thing -/
def tyD (h : List Cell) : D → Option String
  | .non => some "NoneType"
  | .bl _ => some "bool"
  | .int _ => some "int"
  | .str _ => some "str"
  | .tup _ => some "tuple"
  | .lst _ => some "list"
  | .scr _ => some "list"
  | .dct _ _ => some "dict"
  | .ref n => match h[n]? with
    | some (.lst _) => some "list"
    | some (.dct _ _) => some "dict"
    | some (.llst _) => some "list"
    | _ => none
theorem isi_ty : ∀ (t : Ty) (h : List Cell) (x : D) (b : Bool), isiD t h x = some b → ∃ T, tyD h x = some T ∧ kitB T (tyN t) = some b := by
  intro t h x b e
  cases x with
  | ref n =>
    unfold isiD at e
    unfold tyD
    simp only at e ⊢
    cases hn : h[n]? with
    | none => rw [hn] at e; cases e
    | some c =>
      rw [hn] at e
      cases c with
      | lst _ => refine ⟨_, rfl, ?_⟩; cases e; cases t <;> decide +kernel
      | dct _ _ => refine ⟨_, rfl, ?_⟩; cases e; cases t <;> decide +kernel
      | llst _ => refine ⟨_, rfl, ?_⟩; cases e; cases t <;> decide +kernel
      | ldct _ _ => cases e
      | ins _ _ => cases e
  | _ => refine ⟨_, rfl, ?_⟩; cases e; cases t <;> decide +kernel
theorem sqT_tyx {K : PySem.W.Frag} {H : Hp} {a : Addr} {xs : List V} (h : SqT K H a xs) : TyX K H (.ref a) (.type "tuple") := by
  rcases h with (h | ⟨o, h⟩) | ⟨o, its, n, hk, hc, _⟩
  · exact .base (.tup h)
  · exact .fTuple h
  · exact .kTuple hk hc
theorem sqL_tyx {K : PySem.W.Frag} {H : Hp} {a : Addr} {xs : List V} (h : SqL K H a xs) : TyX K H (.ref a) (.type "list") := by
  rcases h with (h | ⟨o, h⟩) | ⟨o, its, n, hk, hc, _⟩
  · exact .base (.lst h)
  · exact .base (.frz h)
  · exact .kList hk hc
theorem ty_at {K : PySem.W.Frag} {R : Fr} {G : Hp} {μ : List Addr} {Γ : List Slot} {h : List Cell} {σ : L2.St} {H : Hp} (S : Sim K R G μ Γ h σ H) {d : D} {v : V} (r : RW K Γ σ G μ H d v) {T : String} (e : tyD h d = some T) : TyX K H v (.type T) := by
  cases d with
  | non => cases non_at r; cases e; exact .base .non
  | bl b => cases bl_at r; cases e; exact .base (.bl b)
  | int b => cases int_at r; cases e; exact .base (.int b)
  | str b => cases (str_at r).1; cases e; exact .base (.str b)
  | tup ds => obtain ⟨a, vs, rfl, p, _⟩ := tup_at S r; cases e; exact sqT_tyx p
  | lst ds => obtain ⟨a, vs, rfl, p, _⟩ := lst_at S r rfl; cases e; exact .base (.lst p)
  | dct ks xs => obtain ⟨a, vs, rfl, p, _⟩ := dct_at S r; cases e; exact .base (.dK p)
  | scr ds =>
    cases e
    rcases r with r | ⟨i, c, a, h1, h2, h3, h4, h5⟩
    · obtain ⟨a, vs, rfl, p, _⟩ := r
      exact sqL_tyx (S.gh.seq p)
    · cases c <;> cases h4
  | ref n =>
    obtain ⟨a, rfl, ha⟩ := ref_at r
    obtain ⟨c, hc, k⟩ := S.cell_at ha
    unfold tyD at e
    simp only [hc] at e
    cases c with
    | lst _ => cases e; obtain ⟨vs, q, _⟩ := k; exact .base (.lst q)
    | dct _ _ => cases e; obtain ⟨vs, q, _⟩ := k; exact .base (.dK q)
    | llst _ => cases e; obtain ⟨vs, q, _⟩ := k; exact .base (.lst q)
    | ldct _ _ => cases e
    | ins _ _ => cases e
/-- isinstance(x, t), the class written -/
theorem isi_D (t : Ty) : CallR X (.builtin "isinstance") (fun xs H Q => ∃ x, xs = [x, .ty (tyN t)] ∧ rU1 X.K (fun h d => (isiD t h d).map .bl) x H Q) := by
  intro pins s σ H xs us Q I r hh
  obtain ⟨x, rfl, R, G, μ, Γ, h, σ', a, d, S, ra, e, q⟩ := hh
  cases z : isiD t h a with
  | none => simp only [z] at e; cases e
  | some b =>
    simp only [z] at e
    cases e
    obtain ⟨T, hT, hk⟩ := isi_ty t h a b z
    exact call_isi pins s σ H _ us Q I r ⟨x, .ty (tyN t), .type T, .type (tyN t), b, rfl, .ty _, ty_at S ra hT, kit_ty hk, q _ G H S .refl rfl⟩
theorem _root_.L2.Inv.tl {pins : List (Addr × Obj)} {σ : L2.St} {H : Hp} {s : Shared} (I : Inv X pins σ H s) {a : Addr} {xs ys : List V} (h : SqT X.K H a xs) (h' : SqL X.K H a ys) : False := by
  obtain ⟨_, _, ⟨o, ho, hc, _⟩, _⟩ := I.tuple h
  obtain ⟨_, _, ⟨o', n, ho', hc', _⟩, _⟩ := I.list h'
  rw [ho] at ho'
  cases ho'
  rw [hc] at hc'
  exact absurd hc' (by simp)
theorem join_len (z : Str) (ss : List Str) : (PySem.Txt.join z ss).length ≤ (ss.map (·.length)).sum + ss.length * z.length := by
  unfold PySem.Txt.join
  rw [PySem.StrLaws.glued_eq_join]
  exact PySem.StrLaws.join_length_le z ss
theorem vals_bls {K : PySem.W.Frag} {G : Hp} {μ : List Addr} : ∀ {ds : List D} {vs : List V} {bs : List Bool}, RDs K G μ ds vs → blsOf ds = some bs → vs = bs.map V.bl
  | [], vs, bs, t, e => by
    cases e
    exact t
  | d :: ds, vs, bs, t, e => by
    obtain ⟨v, r, rfl, h1, h2⟩ := t
    cases d <;> first | (unfold blsOf at e; cases e; done) | skip
    unfold blsOf at e
    cases z : blsOf ds with
    | none => rw [z] at e; cases e
    | some bs' =>
      rw [z] at e
      cases e
      rw [vals_bls h2 z]
      cases (show v = .bl _ from h1)
      rfl
theorem vals_ints {K : PySem.W.Frag} {G : Hp} {μ : List Addr} : ∀ {ds : List D} {vs : List V} {bs : List Int}, RDs K G μ ds vs → intsOf ds = some bs → vs = bs.map V.int
  | [], vs, bs, t, e => by
    cases e
    exact t
  | d :: ds, vs, bs, t, e => by
    obtain ⟨v, r, rfl, h1, h2⟩ := t
    cases d <;> first | (unfold intsOf at e; cases e; done) | skip
    unfold intsOf at e
    cases z : intsOf ds with
    | none => rw [z] at e; cases e
    | some bs' =>
      rw [z] at e
      cases e
      rw [vals_ints h2 z]
      cases (show v = .int _ from h1)
      rfl
theorem vals_strs {K : PySem.W.Frag} {G : Hp} {μ : List Addr} : ∀ {ds : List D} {vs : List V} {bs : List Str}, RDs K G μ ds vs → strsOf ds = some bs → vs = bs.map V.str
  | [], vs, bs, t, e => by
    cases e
    exact t
  | d :: ds, vs, bs, t, e => by
    obtain ⟨v, r, rfl, h1, h2⟩ := t
    cases d <;> first | (unfold strsOf at e; cases e; done) | skip
    unfold strsOf at e
    cases z : strsOf ds with
    | none => rw [z] at e; cases e
    | some bs' =>
      rw [z] at e
      cases e
      rw [vals_strs h2 z]
      cases (show v = .str _ from h1.1)
      rfl
theorem maxL_is : ∀ {ns : List Int} {m : Int}, maxL ns = some m → m ∈ ns ∧ ∀ y ∈ ns, y ≤ m
  | [], m, e => by cases e
  | [a], m, e => by
    cases e
    simp
  | a :: b :: r, m, e => by
    rw [maxL] at e
    · cases z : maxL (b :: r) with
      | none => rw [z] at e; cases e
      | some k =>
        rw [z] at e
        cases e
        obtain ⟨h1, h2⟩ := maxL_is z
        dsimp only
        split
        · rename_i hk
          refine ⟨List.mem_cons_self, fun y hy => ?_⟩
          rcases List.mem_cons.mp hy with rfl | hy
          · exact Int.le_refl _
          · exact Int.le_trans (h2 y hy) hk
        · rename_i hk
          refine ⟨List.mem_cons_of_mem _ h1, fun y hy => ?_⟩
          rcases List.mem_cons.mp hy with rfl | hy
          · omega
          · exact h2 y hy
    · intro x; cases x
theorem minL_is : ∀ {ns : List Int} {m : Int}, minL ns = some m → m ∈ ns ∧ ∀ y ∈ ns, m ≤ y
  | [], m, e => by cases e
  | [a], m, e => by
    cases e
    simp
  | a :: b :: r, m, e => by
    rw [minL] at e
    · cases z : minL (b :: r) with
      | none => rw [z] at e; cases e
      | some k =>
        rw [z] at e
        cases e
        obtain ⟨h1, h2⟩ := minL_is z
        dsimp only
        split
        · rename_i hk
          refine ⟨List.mem_cons_self, fun y hy => ?_⟩
          rcases List.mem_cons.mp hy with rfl | hy
          · exact Int.le_refl _
          · exact Int.le_trans hk (h2 y hy)
        · rename_i hk
          refine ⟨List.mem_cons_of_mem _ h1, fun y hy => ?_⟩
          rcases List.mem_cons.mp hy with rfl | hy
          · omega
          · exact h2 y hy
    · intro x; cases x
theorem toStr_len (i : Int) (h : 0 ≤ i ∧ i < 1000000000000000) : ((toString i : String) : Str).length ≤ maxLen := by
  obtain ⟨m, rfl⟩ := Int.eq_ofNat_of_zero_le h.1
  have hm : m < 10 ^ 15 := by omega
  have e := PyProof.Rows.text_ofNat m
  have e' : ((toString (m : Int) : String) : Str) = ⟨((Nat.toDigits 10 m).map Char.toNat).toArray⟩ := e
  rw [e']
  show (((Nat.toDigits 10 m).map Char.toNat).toArray).size ≤ _
  rw [List.size_toArray, List.length_map]
  exact Nat.le_trans (PyProof.Rows.digits10_le (by decide) hm) (by decide)
/-- the built-in that a B1 is -/
def b1V : B1 → Value
  | .len => .builtin "len"
  | .all => .builtin "all"
  | .any => .builtin "any"
  | .abs => .builtin "abs"
  | .int => .type "int"
  | .str => .type "str"
  | .tuple => .type "tuple"
  | .list => .type "list"
  | .max => .builtin "max"
  | .min => .builtin "min"
  | .sum => .builtin "sum"
  | .dict => .type "dict"
  | .sorted => .builtin "sorted"
/-! ### sorted texts -/
theorem strLe_iff {x y : Str} : strLe x y = true ↔ x.cps.toList ≤ y.cps.toList := by
  unfold strLe
  rw [PyProof.Rows.ltCps_eq]
  simp
theorem strLe_trans {x y z : Str} (h1 : strLe x y = true) (h2 : strLe y z = true) : strLe x z = true := by
  rw [strLe_iff] at *
  exact List.le_trans h1 h2
theorem strLe_anti {x y : Str} (h1 : strLe x y = true) (h2 : strLe y x = true) : x = y := by
  rw [strLe_iff] at *
  have := List.le_antisymm h1 h2
  obtain ⟨a⟩ := x
  obtain ⟨b⟩ := y
  congr 1
  exact Array.toList_inj.mp this
theorem strLe_total {x y : Str} (h : ¬ strLe x y = true) : strLe y x = true := by
  rw [strLe_iff] at *
  exact (List.le_total _ _).resolve_left h
theorem insS_mem {x z : Str} : ∀ {l : List Str}, z ∈ insS x l → z = x ∨ z ∈ l
  | [], h => by simpa [insS] using h
  | y :: l, h => by
    unfold insS at h
    split at h
    · simpa using h
    · rcases List.mem_cons.mp h with h | h
      · exact .inr (by simp [h])
      · rcases insS_mem h with h | h
        · exact .inl h
        · exact .inr (List.mem_cons_of_mem _ h)
theorem insS_perm (x : Str) : ∀ l : List Str, (insS x l).Perm (x :: l)
  | [] => List.Perm.refl _
  | y :: l => by
    unfold insS
    split
    · exact List.Perm.refl _
    · exact ((insS_perm x l).cons y).trans (List.Perm.swap x y l)
theorem sortS_perm : ∀ l : List Str, (sortS l).Perm l
  | [] => List.Perm.refl _
  | x :: l => (insS_perm x (sortS l)).trans ((sortS_perm l).cons x)
theorem insS_pw (x : Str) : ∀ {l : List Str}, l.Pairwise (fun a b => strLe a b = true) → (insS x l).Pairwise (fun a b => strLe a b = true)
  | [], _ => by simp [insS]
  | y :: l, h => by
    unfold insS
    rw [List.pairwise_cons] at h
    split
    · rename_i hxy
      rw [List.pairwise_cons, List.pairwise_cons]
      refine ⟨fun z hz => ?_, h⟩
      rcases List.mem_cons.mp hz with rfl | hz
      · exact hxy
      · exact strLe_trans hxy (h.1 z hz)
    · rename_i hxy
      rw [List.pairwise_cons]
      refine ⟨fun z hz => ?_, insS_pw x h.2⟩
      rcases insS_mem hz with rfl | hz
      · exact strLe_total hxy
      · exact h.1 z hz
theorem sortS_pw : ∀ l : List Str, (sortS l).Pairwise (fun a b => strLe a b = true)
  | [] => List.Pairwise.nil
  | x :: l => insS_pw x (sortS_pw l)
theorem pw_unique : ∀ {l1 l2 : List Str}, l1.Perm l2 → l1.Pairwise (fun a b => strLe a b = true) → l2.Pairwise (fun a b => strLe a b = true) → l1 = l2
  | [], l2, p, _, _ => (List.Perm.nil_eq p)
  | a :: r, [], p, _, _ => by have := p.length_eq; simp at this
  | a :: r, b :: q, p, h1, h2 => by
    rw [List.pairwise_cons] at h1 h2
    have e : a = b := by
      rcases List.mem_cons.mp (p.subset List.mem_cons_self) with e | m
      · exact e
      · rcases List.mem_cons.mp (p.symm.subset List.mem_cons_self) with e | m'
        · exact e.symm
        · exact strLe_anti (h1.1 b m') (h2.1 a m)
    subst e
    rw [pw_unique (List.Perm.cons_inv p) h1.2 h2.2]
theorem rising_pw : ∀ {l : List Str} {p : Str}, risingS p l = true → (∀ z ∈ l, strLe p z = true) ∧ l.Pairwise (fun a b => strLe a b = true)
  | [], p, _ => ⟨fun z h => absurd h List.not_mem_nil, List.Pairwise.nil⟩
  | x :: l, p, h => by
    unfold risingS at h
    rw [Bool.and_eq_true] at h
    obtain ⟨i1, i2⟩ := rising_pw h.2
    have hx : strLe p x = true := h.1
    refine ⟨fun z hz => ?_, List.pairwise_cons.mpr ⟨i1, i2⟩⟩
    rcases List.mem_cons.mp hz with rfl | hz
    · exact hx
    · exact strLe_trans hx (i1 z hz)
theorem sorted_pw {l : List Str} (h : sortedS l = true) : l.Pairwise (fun a b => strLe a b = true) := by
  cases l with
  | nil => exact List.Pairwise.nil
  | cons x l =>
    obtain ⟨i1, i2⟩ := rising_pw (show risingS x l = true from h)
    exact List.pairwise_cons.mpr ⟨i1, i2⟩
theorem txtKs_is : ∀ {ks : List Key} {ss : List Str}, txtKs ks = some ss → ks = ss.map Sum.inr
  | [], ss, h => by cases h; rfl
  | .inl _ :: ks, ss, h => by cases h
  | .inr x :: ks, ss, h => by
    unfold txtKs at h
    cases e : txtKs ks with
    | none => rw [e] at h; cases h
    | some t =>
      rw [e] at h
      cases h
      rw [txtKs_is e]
      rfl
theorem RDs.strs {K : PySem.W.Frag} {G : Hp} {μ : List Addr} : ∀ {ss : List Str}, (∀ x ∈ ss, x.length ≤ maxLen) → RDs K G μ (ss.map .str) (ss.map V.str)
  | [], _ => rfl
  | x :: ss, h => ⟨_, _, rfl, ⟨rfl, h x List.mem_cons_self⟩, RDs.strs fun y hy => h y (List.mem_cons_of_mem _ hy)⟩
theorem dctOf_at {K : PySem.W.Frag} {R : Fr} {G : Hp} {μ : List Addr} {Γ : List Slot} {h : List Cell} {σ : L2.St} {H : Hp} (S : Sim K R G μ Γ h σ H) {d : D} {v : V} (r : RW K Γ σ G μ H d v) {ks : List Key} {xs : List D} (e : dctOf h d = some (ks, xs)) :
    ∃ a kvs, v = .ref a ∧ Rd H a (.dK kvs) ∧ kvs.map (·.1) = ks ∧ RDs K G μ xs (kvs.map (·.2)) := by
  cases d with
  | dct k2 x2 =>
    cases e
    obtain ⟨a, kvs, e1, e2, e3⟩ := dct_at S r
    exact ⟨a, kvs, e1, .inl e2, e3⟩
  | ref n =>
    obtain ⟨a, rfl, ha⟩ := ref_at r
    obtain ⟨c, hc, k⟩ := S.cell_at ha
    unfold dctOf at e
    simp only [hc] at e
    cases c with
    | dct _ _ =>
      cases e
      obtain ⟨kvs, q, l, t⟩ := k
      exact ⟨a, kvs, rfl, .inl q, l, t⟩
    | ldct _ _ =>
      cases e
      obtain ⟨o, kvs, q, _, l, t⟩ := k
      exact ⟨a, kvs, rfl, .inr ⟨o, q⟩, l, t⟩
    | lst _ => cases e
    | llst _ => cases e
    | ins _ _ => cases e
  | _ => cases e
theorem call_b1 (hc : X.calm = true) (f : B1) : CallR X (b1V f) (rC1 X.K (b1D f)) := by
  intro pins s σ H xs us Q I r hh
  obtain ⟨x, rfl, R, G, μ, Γ, h, σ', a, d, S, ra, e, q⟩ := hh
  cases f with
  | len =>
    unfold b1D at e
    dsimp only at e
    split at e
    · obtain ⟨rfl, hl⟩ := str_at ra
      cases e
      exact call_len_str pins s σ H _ us Q I r ⟨_, rfl, le_sl hl, q _ G H S .refl rfl⟩
    · cases z : seqOf h a with
      | none => rw [z] at e; cases e
      | some ds =>
        rw [z] at e
        cases e
        obtain ⟨p, vs, rfl, hp, hl, t⟩ := seq_at S ra z
        refine call_len_seq pins s σ H _ us Q I r ⟨p, vs, rfl, hp, ?_⟩
        rw [← t.len]
        exact q _ G H S .refl rfl
  | all =>
    change (lstOf h a).bind (fun ds => (blsOf ds).map fun bs => D.bl (bs.all id)) = some d at e
    cases z : lstOf h a with
    | none => rw [z] at e; cases e
    | some ds =>
      rw [z] at e
      cases z2 : blsOf ds with
      | none => rw [Option.bind_some, z2] at e; cases e
      | some bs =>
        rw [Option.bind_some, z2] at e
        cases e
        obtain ⟨p, vs, rfl, hp, hl, t⟩ := lst_at S ra z
        have ev := vals_bls t z2
        subst ev
        exact cr_all hc pins s σ H _ us Q I r ⟨p, bs, rfl, .of hp, q _ G H S .refl rfl⟩
  | any =>
    change (lstOf h a).bind (fun ds => (blsOf ds).map fun bs => D.bl (bs.any id)) = some d at e
    cases z : lstOf h a with
    | none => rw [z] at e; cases e
    | some ds =>
      rw [z] at e
      cases z2 : blsOf ds with
      | none => rw [Option.bind_some, z2] at e; cases e
      | some bs =>
        rw [Option.bind_some, z2] at e
        cases e
        obtain ⟨p, vs, rfl, hp, hl, t⟩ := lst_at S ra z
        have ev := vals_bls t z2
        subst ev
        exact cr_any hc pins s σ H _ us Q I r ⟨p, bs, rfl, .of hp, q _ G H S .refl rfl⟩
  | abs =>
    unfold b1D at e
    dsimp only at e
    split at e
    · cases int_at ra
      cases e
      exact call_abs pins s σ H _ us Q I r ⟨_, rfl, q _ G H S .refl rfl⟩
    · cases e
  | int =>
    unfold b1D at e
    dsimp only at e
    split at e
    · cases int_at ra
      cases e
      exact call_int1 pins s σ H _ us Q I r (.inl ⟨_, rfl, q _ G H S .refl rfl⟩)
    · cases bl_at ra
      cases e
      exact call_int1 pins s σ H _ us Q I r (.inr ⟨_, rfl, q _ G H S .refl rfl⟩)
    · cases e
  | str =>
    unfold b1D at e
    dsimp only at e
    split at e
    · rename_i i
      cases int_at ra
      split at e
      · rename_i hi
        cases e
        refine call_str_int pins s σ H _ us Q I r ⟨i, rfl, ?_, q _ G H S .refl ⟨rfl, toStr_len i hi⟩⟩
        by_cases h0 : i.natAbs = 0
        · rw [h0]
          decide
        · have := (Nat.log2_lt (k := 60) h0).mpr (by omega)
          omega
      · cases e
    · cases e
  | tuple =>
    change (seqOf h a).map D.tup = some d at e
    cases z : seqOf h a with
    | none => rw [z] at e; cases e
    | some ds =>
      rw [z] at e
      cases e
      obtain ⟨p, vs, rfl, hp, hl, t⟩ := seq_at S ra z
      rcases hp with hp | hp
      · refine call_tuple_of pins s σ H _ us Q I r ⟨p, vs, rfl, .inl ⟨hp, fun l hl0 => ?_⟩⟩
        obtain ⟨S1, X1, r1⟩ := new_tup hl t hl0 S
        exact q _ _ _ S1 X1 r1
      · refine call_tuple_of pins s σ H _ us Q I r ⟨p, vs, rfl, .inr ⟨hp, q _ G H S .refl ?_⟩⟩
        cases a with
        | tup ds' =>
          cases z
          exact (tup_at S ra).choose_spec.choose_spec.2.2.2.2
        | lst ds' =>
          cases z
          obtain ⟨p', vs', e', hp', _⟩ := lst_at S ra rfl
          cases e'
          exact absurd (I.tl hp (SqL.of hp')) (fun z => z)
        | scr ds' =>
          cases z
          rcases ra with ra | ⟨i, c, a, h1, h2, h3, h4, h5⟩
          · obtain ⟨p', vs', e', hp', _⟩ := ra
            cases e'
            exact absurd (I.tl hp (S.gh.seq hp')) (fun z => z)
          · cases c <;> cases h4
        | ref n =>
          obtain ⟨p', vs', e', hp', _⟩ := lst_at S ra (ds := ds) z
          cases e'
          exact absurd (I.tl hp (SqL.of hp')) (fun z => z)
        | _ => cases z
  | list =>
    change (seqOf h a).map D.lst = some d at e
    cases z : seqOf h a with
    | none => rw [z] at e; cases e
    | some ds =>
      rw [z] at e
      cases e
      obtain ⟨p, vs, rfl, hp, hl, t⟩ := seq_at S ra z
      refine call_list_of pins s σ H _ us Q I r ⟨p, vs, rfl, hp, fun l hl0 => ?_⟩
      obtain ⟨S1, X1, r1⟩ := new_lst hl t hl0 S
      exact q _ _ _ S1 X1 r1
  | max =>
    change (lstOf h a).bind (fun ds => (intsOf ds).bind fun ns => (maxL ns).map D.int) = some d at e
    cases z : lstOf h a with
    | none => rw [z] at e; cases e
    | some ds =>
      rw [z, Option.bind_some] at e
      cases z2 : intsOf ds with
      | none => rw [z2] at e; cases e
      | some ns =>
        rw [z2, Option.bind_some] at e
        cases z3 : maxL ns with
        | none => rw [z3] at e; cases e
        | some m =>
          rw [z3] at e
          cases e
          obtain ⟨p, vs, rfl, hp, hl, t⟩ := lst_at S ra z
          have ev := vals_ints t z2
          subst ev
          obtain ⟨m1, m2⟩ := maxL_is z3
          refine cr_max hc pins s σ H _ us Q I r ⟨p, ns, rfl, .of hp, List.length_pos_of_mem m1, fun k k1 k2 => ?_⟩
          have : k = m := Int.le_antisymm (m2 k k1) (k2 m m1)
          subst this
          exact q _ G H S .refl rfl
  | min =>
    change (lstOf h a).bind (fun ds => (intsOf ds).bind fun ns => (minL ns).map D.int) = some d at e
    cases z : lstOf h a with
    | none => rw [z] at e; cases e
    | some ds =>
      rw [z, Option.bind_some] at e
      cases z2 : intsOf ds with
      | none => rw [z2] at e; cases e
      | some ns =>
        rw [z2, Option.bind_some] at e
        cases z3 : minL ns with
        | none => rw [z3] at e; cases e
        | some m =>
          rw [z3] at e
          cases e
          obtain ⟨p, vs, rfl, hp, hl, t⟩ := lst_at S ra z
          have ev := vals_ints t z2
          subst ev
          obtain ⟨m1, m2⟩ := minL_is z3
          refine cr_min hc pins s σ H _ us Q I r ⟨p, ns, rfl, .of hp, List.length_pos_of_mem m1, fun k k1 k2 => ?_⟩
          have : k = m := Int.le_antisymm (k2 m m1) (m2 k k1)
          subst this
          exact q _ G H S .refl rfl
  | sum =>
    change (lstOf h a).bind (fun ds => (intsOf ds).map fun ns => D.int ns.sum) = some d at e
    cases z : lstOf h a with
    | none => rw [z] at e; cases e
    | some ds =>
      rw [z, Option.bind_some] at e
      cases z2 : intsOf ds with
      | none => rw [z2] at e; cases e
      | some ns =>
        rw [z2] at e
        cases e
        obtain ⟨p, vs, rfl, hp, hl, t⟩ := lst_at S ra z
        have ev := vals_ints t z2
        subst ev
        exact cr_sum hc pins s σ H _ us Q I r ⟨p, ns, rfl, .of hp, q _ G H S .refl rfl⟩
  | dict =>
    change (dctOf h a).map (fun p => D.dct p.1 p.2) = some d at e
    cases z : dctOf h a with
    | none => rw [z] at e; cases e
    | some p =>
      obtain ⟨ks, xs⟩ := p
      rw [z] at e
      cases e
      obtain ⟨p, kvs, rfl, hp, l, t⟩ := dctOf_at S ra z
      refine call_dictD pins s σ H _ us Q I r ⟨p, kvs, rfl, hp, fun n hn => ?_⟩
      obtain ⟨S1, X1⟩ := S.push (o := .dK kvs) hn
      exact q _ _ _ S1 X1 ⟨n, kvs, rfl, upd_same, l, t.mono X1.gg X1.mm⟩
  | sorted =>
    change (dctOf h a).bind (fun p => (txtKs p.1).bind fun ks => if ks.length < 64 && ks.all (fun x => decide (x.length ≤ maxLen)) then some (D.lst ((sortS ks).map .str)) else none) = some d at e
    cases z : dctOf h a with
    | none => rw [z] at e; cases e
    | some p =>
      obtain ⟨ks, xs⟩ := p
      rw [z, Option.bind_some] at e
      cases z2 : txtKs ks with
      | none => rw [z2] at e; cases e
      | some ss =>
        rw [z2, Option.bind_some] at e
        split at e
        · rename_i h64
          simp only [Bool.and_eq_true, decide_eq_true_eq, List.all_eq_true] at h64
          obtain ⟨h64, hsm⟩ := h64
          cases e
          obtain ⟨p, kvs, rfl, hp, l, t⟩ := dctOf_at S ra z
          refine call_sortedD hc pins s σ H _ us Q I r ⟨p, kvs, ss, rfl, hp, l.trans (txtKs_is z2), h64, fun ys n hy so hn => ?_⟩
          have ey : ys = sortS ss := pw_unique (hy.trans (sortS_perm ss).symm) (sorted_pw so) (sortS_pw ss)
          subst ey
          have sm : ∀ x ∈ sortS ss, x.length ≤ maxLen := fun x hx => hsm x ((sortS_perm ss).subset hx)
          · obtain ⟨S1, X1, r1⟩ := new_lst (ds := (sortS ss).map .str) (by rw [List.length_map, (sortS_perm ss).length_eq]; show _ ≤ 16777216; omega) (RDs.strs sm) hn S
            exact q _ _ _ S1 X1 r1
        · cases e
def b2V : B2 → Value
  | .max => .builtin "max"
  | .min => .builtin "min"
theorem call_b2 (hc : X.calm = true) (f : B2) : CallR X (b2V f) (rC2 X.K fun _ => b2D f) := by
  intro pins s σ H xs us Q I r hh
  obtain ⟨x, y, rfl, R, G, μ, Γ, h, σ', a, b, d, S, ra, rb, e, q⟩ := hh
  simp only at e
  unfold b2D at e
  split at e
  · cases int_at ra
    cases int_at rb
    cases f with
    | max => cases e; exact call_max2 hc pins s σ H _ us Q I r ⟨_, _, rfl, q _ G H S .refl rfl⟩
    | min => cases e; exact call_min2 hc pins s σ H _ us Q I r ⟨_, _, rfl, q _ G H S .refl rfl⟩
  · cases e
theorem mt_joinD : MtR X "str.join" (fun x xs H Q => ∃ y, xs = [y] ∧ rB X.K (fun h a b => bmD .join h a b) x y H Q) := by
  intro pins s σ H x xs v us Q I rx rs hh
  obtain ⟨y, rfl, R, G, μ, Γ, h, σ', a, b, d, S, ra, rb, e, q⟩ := hh
  unfold bmD at e
  dsimp only at e
  split at e
  · rename_i z
    obtain ⟨rfl, _⟩ := str_at ra
    cases z1 : seqOf h b with
    | none => rw [z1] at e; cases e
    | some ds =>
      rw [z1, Option.bind_some] at e
      cases z2 : strsOf ds with
      | none => rw [z2] at e; cases e
      | some ss =>
        rw [z2, Option.bind_some] at e
        split at e
        · rename_i hz
          cases e
          obtain ⟨p, vs, rfl, hp, hl, t⟩ := seq_at S rb z1
          have ev := vals_strs t z2
          subst ev
          refine mt_join pins s σ H _ _ v us Q I rx rs ⟨z, p, ss, rfl, rfl, hp, hz, q _ G H S .refl ⟨rfl, ?_⟩⟩
          exact Nat.le_trans (join_len z ss) hz
        · cases e
  · cases e
theorem ix_dctV (hu : X.A.units + 1 < cLine) : IxR X (fun x y H Q => ∃ a v, x = .ref a ∧ DGet H a y (some v) ∧ Q v H) := by
  intro value slice pins s σ H x y v u Q I rx ry hh hs
  obtain ⟨a, z, rfl, g, q⟩ := hh
  cases (show v = .ref a from rx)
  exact tail_any (dict_typeIs I g) PySem.F.slot_dict_getitem.lookup (d_getItem hu I g ry fun w' s3 I3 rw' => ⟨z, H, I3, rw', q⟩) hs
theorem key_val {K : PySem.W.Frag} {Γ : List Slot} {σ : L2.St} {G : Hp} {μ : List Addr} {H : Hp} {d : D} {v : V} (r : RW K Γ σ G μ H d v) {k : Key} (e : keyOf d = some k) : v = kV k := by
  cases d <;> first | (cases e; done) | skip
  · cases e
    exact int_at r
  · cases e
    exact (str_at r).1
theorem ix_D (hu : X.A.units + 1 < cLine) : IxR X (rB X.K ixD) := by
  intro value slice pins s σ H x y v u Q I rx ry hh hs
  obtain ⟨R, G, μ, Γ, h, σ', a, b, d, S, ra, rb, e, q⟩ := hh
  unfold ixD at e
  split at e
  · rename_i ks xs hd
    obtain ⟨p, kvs, rfl, hp, rfl, t⟩ := dctOf_at S ra hd
    cases hk : keyOf b with
    | none => rw [hk] at e; cases e
    | some k =>
      rw [hk, Option.bind_some] at e
      obtain ⟨w, hw, rw'⟩ := (dget_at (k := k) t).1 d e
      have ey := key_val rb hk
      subst ey
      exact ix_dctV hu value slice pins s σ H _ _ v u Q I rx ry ⟨p, w, rfl, by rw [← hw]; exact .inl ⟨kvs, k, hp, rfl, rfl⟩, q _ G H S .refl rw'⟩ hs
  · split at e
    · rename_i k
      cases int_at rb
      split at e
      · rename_i _ z _
        obtain ⟨rfl, hz⟩ := str_at ra
        cases hc : atI z.cps.toList k with
        | none => rw [hc] at e; cases e
        | some c =>
          rw [hc] at e
          cases e
          exact ix_str value slice pins s σ H _ _ v u Q I rx ry ⟨z, k, c, rfl, rfl, le_sl hz, hc, q _ G H S .refl ⟨rfl, by show (1 : Nat) ≤ 16777216; decide⟩⟩ hs
      · cases hq : seqOf h a with
        | none => rw [hq] at e; cases e
        | some ds =>
          rw [hq, Option.bind_some] at e
          obtain ⟨p, vs, rfl, hp, hl, t⟩ := seq_at S ra hq
          have hat : ∃ w, atI vs k = some w ∧ RD X.K G μ d w := by
            unfold atI at e ⊢
            rw [← t.len]
            cases hj : ixN ds.length k with
            | none => rw [hj] at e; cases e
            | some j =>
              rw [hj, Option.bind_some] at e
              rw [Option.bind_some]
              exact t.at e
          obtain ⟨w, hw, rw'⟩ := hat
          rcases hp with hp | hp
          · exact ix_list value slice pins s σ H _ _ v u Q I rx ry ⟨p, vs, k, w, rfl, rfl, hp, hw, q _ G H S .refl rw'⟩ hs
          · exact ix_tup value slice pins s σ H _ _ v u Q I rx ry ⟨p, vs, k, w, rfl, rfl, hp, hw, q _ G H S .refl rw'⟩ hs
    · cases e
theorem sl_D : SlR X (fun x l u H Q => rU1 X.K (fun h a => slI h a l u) x H Q) := by
  intro pins s σ H x v vl vu l u sl Q I rx hs pl pu hh
  obtain ⟨R, G, μ, Γ, h, σ', a, d, S, ra, e, q⟩ := hh
  dsimp only at e
  unfold slI at e
  split at e
  · rename_i z
    obtain ⟨rfl, hz⟩ := str_at ra
    cases e
    refine sl_str pins s σ H _ v vl vu l u sl Q I rx hs pl pu ⟨z, rfl, le_sl hz, ?_⟩
    have e1 : cutS z l u = ⟨(cut z.cps.toList l u).toArray⟩ := by
      unfold cutS cut
      rw [show z.cps.toList.length = z.length by simp [Str.length]]
    rw [e1]
    refine q _ G H S .refl ⟨rfl, ?_⟩
    show ((cut z.cps.toList l u).toArray).size ≤ _
    rw [List.size_toArray]
    refine Nat.le_trans (cut_len _ _ _) ?_
    rw [show z.cps.toList.length = z.length by simp [Str.length]]
    exact hz
  · rename_i ds
    cases e
    obtain ⟨p, vs, rfl, hp, lp, tp, rp⟩ := tup_at S ra
    refine sl_tupA pins s σ H _ v vl vu l u sl Q I rx hs pl pu ⟨p, vs, rfl, hp, fun hw => ?_, fun _ z hz0 => ?_⟩
    · have ee : cut ds l u = ds := by
        rw [← tp.len] at hw
        unfold cut
        rw [hw.1, hw.2]
        simp
      rw [ee] at q
      exact q _ G H S .refl rp
    · obtain ⟨S1, X1, r1⟩ := new_tup (ds := cut ds l u) (Nat.le_trans (cut_len _ _ _) lp) tp.cut hz0 S
      exact q _ _ _ S1 X1 r1
  · cases z : lstOf h a with
    | none => rw [z] at e; cases e
    | some ds =>
      rw [z] at e
      cases e
      obtain ⟨p, vs, rfl, hp, lp, tp⟩ := lst_at S ra z
      refine sl_list pins s σ H _ v vl vu l u sl Q I rx hs pl pu ⟨p, vs, rfl, .of hp, fun z hz0 => ?_⟩
      obtain ⟨S1, X1, r1⟩ := new_lst (ds := cut ds l u) (Nat.le_trans (cut_len _ _ _) lp) tp.cut hz0 S
      exact q _ _ _ S1 X1 r1
end
end DC

set_option linter.all false
set_option Elab.async false
set_option maxRecDepth 100000
set_option maxHeartbeats 2000000
/-! DEnum: enumerate of a tuple; walks over a list or a tuple, whichever it is. -/
namespace PySem
open Sem (wp)
open AutoSeq1 (wpAny_loadPart')
theorem meets_enumerate_newT (l : Addr) (items : Array Value) (n : Nat) (dct : Option Addr) (sl : Array (Option Value)) :
    Meets (Builtin.«enumerate.__new__» ⟨[.type "enumerate", .ref l], []⟩) (fun _ R s => s.heap.get? l = some { cls := .type "tuple", dict := dct, data := .seq items n, slots := sl } ∧
      R (.ok (.ret (.ref (s.heap.push { cls := .type "tuple_iterator", data := .fields #[.ref l, .int 0 0] }).objs.size)))
        { s with heap := (s.heap.push { cls := .type "tuple_iterator", data := .fields #[.ref l, .int 0 0] }).push { cls := .type "enumerate", data := .fields #[.none, .bool false, .ref s.heap.objs.size, rawInt 0, .none, .none] } }) :=
  .of_wp fun prog w A R s h => by
    obtain ⟨hp, g, d, tk, os⟩ := s; obtain ⟨hl, h⟩ := h
    have hsub := sub_enumerate
    have hL : Heap.IsTuple (Shared.heap ⟨hp, g, d, tk, os⟩) l items := ⟨_, hl, rfl, n, rfl⟩
    wp_walk using wpAny_loadPart' hl
    refine wpAny_stack_any fun st => wpAny_pure ?_
    split
    · rename_i c _ _ _ _ _
      cases (c == Value.type "enumerate")
      · wp_walk using wpAny_loadPart' hl, wpAny_pyIter_tuple hL
        exact ⟨_, rfl, h⟩
      · wp_walk using wpAny_loadPart' hl, wpAny_pyIter_tuple hL
        exact ⟨_, rfl, h⟩
    · wp_walk using wpAny_loadPart' hl, wpAny_pyIter_tuple hL
      exact ⟨_, rfl, h⟩
section
variable {prog : Program} {w : World} {A : Around} {E : Value → Shared → Prop} {s : Shared}
theorem call_enumerate_tuple {l : Addr} {items : Array Value} {Q : Value → Shared → Prop} (hL : s.heap.IsTuple l items)
    (h : ∀ h', IsEnum h' (s.heap.objs.size + 1) s.heap.objs.size 0 .none → h'.IsTupleIter s.heap.objs.size l 0 → h'.objs.size = s.heap.objs.size + 2 →
      (∀ b o, s.heap.get? b = some o → h'.get? b = some o) → Q (.ref (s.heap.objs.size + 1)) { s with heap := h' }) :
    wpAny (model prog w) A (call (.type "enumerate") [.ref l]) Q E s := by
  obtain ⟨⟨c, dct, dt, sl⟩, hl, hc, n, hd⟩ := hL
  replace hc : c = .type "tuple" := hc
  replace hd : dt = .seq items n := hd
  subst hc hd
  refine callType_new F.called_enumerate (by decide) (F.typeCall_enumerate_1 _) (F.newCall_enumerate_1 _) (fun obj => F.args_object_init_2 obj _) F.entry_enumerate_new
    (meets_enumerate_newT l items n dct sl) ⟨hl, ?_⟩
  have hz : (s.heap.push { cls := .type "tuple_iterator", data := .fields #[.ref l, .int 0 0] }).objs.size = s.heap.objs.size + 1 := Heap.size_push ..
  show _ ∧ _
  rw [hz]
  have he : IsEnum ((s.heap.push { cls := .type "tuple_iterator", data := .fields #[.ref l, .int 0 0] }).push
      { cls := .type "enumerate", data := .fields #[.none, .bool false, .ref s.heap.objs.size, rawInt 0, .none, .none] }) (s.heap.objs.size + 1) s.heap.objs.size 0 .none := by
    have := Heap.get?_push_size (s.heap.push { cls := .type "tuple_iterator", data := .fields #[.ref l, .int 0 0] })
      (o := { cls := .type "enumerate", data := .fields #[.none, .bool false, .ref s.heap.objs.size, rawInt 0, .none, .none] }) rfl
    rw [hz] at this; exact this
  refine ⟨⟨_, he, rfl⟩, h _ he ⟨_, Heap.get?_push_of_some _ (Heap.get?_push_size _ rfl), rfl, rfl⟩ (by rw [Heap.size_push, hz]) fun b o x => Heap.get?_push_of_some _ (Heap.get?_push_of_some _ x)⟩
theorem wpAny_pyNext_enumT_end {e it l : Addr} {i : Nat} {items : Array Value} {old : Value} {Q : Option Value → Shared → Prop} (hh : A.handled = none)
    (he : IsEnum s.heap e it i old) (hit : s.heap.IsTupleIter it l i) (hl : s.heap.IsTuple l items) (hx : items[i]? = none)
    (hQ : ∀ h', Heap.ExtBut it s.heap h' → Q none { s with heap := h' }) : wpAny (model prog w) A (pyNext (.ref e)) Q E s := by
  have hT : s.TypeIs (.ref e) "enumerate" := ⟨_, he, rfl⟩
  unfold pyNext
  refine wpAny_bind (wpAny_attempt (wpAny_callSpecial?_slot (name := Str.ofString "__next__") hT F.slot_enumerate_next
    (wpAny_call_entry F.slot_enumerate_next hT F.entry_enumerate_next ?_ (F.args_enumerate_next_1 _))))
  show wpAny _ _ (field (.ref e) 2 >>= _) _ _ _
  refine wpAny_bind (wpAny_field he rfl (x := .ref it) rfl ?_)
  refine wpAny_bind (wpAny_nextOf_tuple_end hh hit hl hx fun h' x he' hx' => ?_)
  obtain ⟨o, ho, hc⟩ := hx'
  refine wpAny_bind (wpAny_isInstance (T := "StopIteration") (b := true) ⟨o, ho, hc⟩ isSubtype_stop ?_)
  exact wpAny_pure (hQ _ he')
end
end PySem
namespace DC
open PySem L2 PySem.Spec PyProof.Rows
/-- the tuple at a, the items in new pairs -/
def IteT (K : PySem.W.Frag) (a : Addr) : It :=
  ⟨fun i H => ∃ xs x, SqT K H a xs ∧ xs[i]? = some x, fun i H v H' => ∃ T x, v = .ref T ∧ H T = none ∧ H' = upd H T (.tup [.int (i : Nat), x]) ∧ ∀ xs, SqT K H a xs → xs[i]? = some x, fun i H => ∃ xs, SqT K H a xs ∧ xs.length ≤ i⟩
theorem turn_enumT {P : Program} {w : World} {K : PySem.W.Frag} {elts : List Expr} {kk : Nat} {tpos : Pos} (a e it : Addr) (hae : a ≠ e) (hai : a ≠ it) :
    Turn P w K (.Tuple elts kk tpos) (IteT K a) [e, it] e (fun i h => (∃ old, IsEnum h e it ((i : Nat) : Int) old) ∧ h.IsTupleIter it a i ∧ e ≠ it) where
  mem := by simp
  obj := fun i h st b hb => by
    obtain ⟨⟨old, he⟩, ⟨o, ho, hc, hd⟩, _⟩ := st
    have e' : b = e ∨ b = it := by simpa using hb
    rcases e' with z | z
    · rw [z]; exact ⟨_, he, fun v q => nomatch q⟩
    · rw [z]; exact ⟨o, ho, fun v q => by rw [hd] at q; cases q⟩
  keep := fun i h h' st k => let ⟨⟨old, he⟩, hi, hne⟩ := st; ⟨⟨old, k e (by simp) _ he⟩, hi.at fun o q => k it (by simp) o q, hne⟩
  item := by
    intro X hP hw hK hc i pins s σ H E I hf st hg
    subst hP hw hK
    obtain ⟨⟨old, he⟩, hit, hne⟩ := st
    obtain ⟨xs, x, hq, hx⟩ := hg
    obtain ⟨its, rv, p, hz⟩ := I.tuple hq
    obtain ⟨u, hu, ru⟩ := rv.get hx
    have hel : e < s.heap.objs.size := Heap.lt_size he
    have hil : it < s.heap.objs.size := by obtain ⟨_, q, _⟩ := hit; exact Heap.lt_size q
    have hlt : i < its.toArray.size := by
      have := (List.getElem?_eq_some_iff.mp hu).1
      simpa using this
    refine wpAny_pyNext_enum_itemD (Draws.tuple (A := X.A.in1) (I.ok.hd hc) it a hai its.toArray) he ⟨hit, p⟩ hlt hne (by simp [hne, Ne.symm hae]) fun x' h' tk hx' ho st' hT hsz hk => ?_
    have ex : x' = u := by
      have e1 : its.toArray[i]? = some u := by simpa using hu
      rw [e1] at hx'
      exact (Option.some.inj hx').symm
    subst ex
    refine ⟨_, rfl, wpAny_letOwnedTupleGo_enum (s := { s with heap := h', toks := tk + 1 }) ho fun h'' he' sb => ?_⟩
    have hT2 : h''.get? s.heap.objs.size = some { cls := .type "tuple", data := .seq #[.int i tk, x'] } := (sb.2 _ (Nat.ne_of_gt hel)).trans hT
    have new : ObjOk X.prog X.w (upd H s.heap.objs.size (.tup [.int (i : Nat), x])) h'' s.heap.objs.size (.tup [.int (i : Nat), x]) :=
      ⟨by show 2 ≤ sizeLine; decide, [.int i tk, x'], .cons ⟨_, rfl⟩ (.cons ru .nil), ⟨_, hT2, rfl, _, rfl⟩⟩
    have I1 : Inv X pins σ (upd H s.heap.objs.size (.tup [.int (i : Nat), x])) { s with heap := h'', toks := tk + 1 } :=
      I.turnedNew (ch := [e, it]) (fun b ob hb q => (sb.2 b (fun z => hb (by simp [z]))).trans (hk b ob (fun z => hb (by simp [z])) (fun z => hb (by simp [z])) q)) hf (Nat.le_refl _) new
    refine ⟨.ref s.heap.objs.size, _, I1, rfl, ⟨_, x, rfl, I.hok.fresh (Nat.le_refl _), rfl, fun ys hy => by rw [I.tuple_inj hy hq]; exact hx⟩, ⟨⟨x', ?_⟩, st'.1.at fun o q => (sb.2 it (Ne.symm hne)).trans q, hne⟩, fun b hb => ?_⟩
    · have e1 : ((i + 1 : Nat) : Int) = (i : Int) + 1 := by omega
      rw [e1]; exact he'
    · have hb' : b < s.heap.objs.size := by
        have e' : b = e ∨ b = it := by simpa using hb
        rcases e' with z | z
        · rw [z]; exact hel
        · rw [z]; exact hil
      rw [upd_ne (Nat.ne_of_lt hb')]
      exact (hf b hb).1
  done := by
    intro X hP hw hK hc i pins s σ H E I hf st hg
    subst hP hw hK
    obtain ⟨⟨old, he⟩, hit, hne⟩ := st
    obtain ⟨xs, hq, hx⟩ := hg
    obtain ⟨its, rv, p, hz⟩ := I.tuple hq
    obtain ⟨f0, f1, f2, f3, f4, f5⟩ := hf it (by simp)
    have hl := rv.length
    exact wpAny_pyNext_enumT_end (I.ok.hd hc) he hit p (by simp; omega) fun h' eb => ⟨rfl, I.turned (t' := s.toks) (fun b o hb q => eb b o hb q) f0 f1 f3 f4 f5⟩
  self := fun A i s Q E st h => let ⟨⟨_, he⟩, _⟩ := st; wpAny_pyIter_enum he h
theorem walk_enumT {K : PySem.W.Frag} {a : Addr} {xs : List V} : Walk (IteT K a) xs.length (fun H => SqT K H a xs) (YPair (fun i => some (.int (i : Nat))) (fun i => xs[i]?)) := by
  refine ⟨fun i _ hi q => ⟨xs, xs[i], q, by simp [hi]⟩, fun _ q => ⟨xs, q, Nat.le_refl _⟩, fun i H v H' _ q y => ?_⟩
  obtain ⟨T, x, h1, h2, h3, h4⟩ := y
  exact ⟨T, .int (i : Nat), x, h1, h2, h3, rfl, h4 xs q⟩
section
variable {X : Cx} {tg : Expr}
/-- for x in e, a list or a tuple -/
def iSeq (K : PySem.W.Frag) (tl : TE) : TI := fun σ H R => tl σ H fun x H1 => ∃ a, x = .ref a ∧ ((∃ xs, SqL K H1 a xs) ∧ R (Itl K a) H1 ∨ (∃ xs, SqT K H1 a xs) ∧ R (Itt K a) H1)
theorem pi_seq {l : Expr} {tl : TE} (hl : PE X l tl) : PI X tg l (iSeq X.K tl) := by
  refine ⟨fun pins s σ H R I h => ?_⟩
  refine thn (hl.run pins s σ H _ I h) fun v s1 ⟨x, H1, I1, r1, q1⟩ => ?_
  obtain ⟨a, e, ⟨⟨xs, hq⟩, q⟩ | ⟨⟨xs, hq⟩, q⟩⟩ := q1
  · subst e
    cases r1
    obtain ⟨its, rv, p, hz⟩ := I1.list hq
    refine wpAny_pyIter_list p.isList ?_
    refine ⟨s1.heap.objs.size, [s1.heap.objs.size], _, _, H1, rfl, I1.kept (t' := s1.toks) fun b o e => Heap.get?_push_of_some _ e, turn_list a _, ⟨_, Heap.get?_push_size _ rfl, rfl, rfl⟩, fun b hb => ?_, q⟩
    have e : b = s1.heap.objs.size := by simpa using hb
    subst e
    exact I1.fpOk (Nat.le_refl _) (I1.hok.fresh (Nat.le_refl _))
  · subst e
    cases r1
    obtain ⟨its, rv, p, hz⟩ := I1.tuple hq
    refine wpAny_pyIter_tuple (show s1.heap.IsTuple a its.toArray from p) ?_
    refine ⟨s1.heap.objs.size, [s1.heap.objs.size], _, _, H1, rfl, I1.kept (t' := s1.toks) fun b o e => Heap.get?_push_of_some _ e, turn_tuple a _, ⟨_, Heap.get?_push_size _ rfl, rfl, rfl⟩, fun b hb => ?_, q⟩
    have e : b = s1.heap.objs.size := by simpa using hb
    subst e
    exact I1.fpOk (Nat.le_refl _) (I1.hok.fresh (Nat.le_refl _))
/-- for i, x in enumerate(e), a list or a tuple -/
def iEnumA (K : PySem.W.Frag) (ta : TA) : TI := fun σ H R => ta σ H fun vs H1 => ∃ a xs, vs = [.ref a] ∧ (SqL K H1 a xs ∧ R (Ite K a) H1 ∨ SqT K H1 a xs ∧ R (IteT K a) H1)
theorem pi_enumA {e : Expr} {ta : TA} {p pos tpos : Pos} {elts : List Expr} {kk : Nat} (hg : Gl X "enumerate") (hm : X.mg "enumerate" = none) (ha : PA X [e] ta) (hs : starEach [e] X.env = [(false, eval e X.env)]) :
    PI X (.Tuple elts kk tpos) (.Call (.Name "enumerate" p) [e] [] pos) (iEnumA X.K ta) := by
  refine ⟨fun pins s σ H R I h => ?_⟩
  refine Call_ (ld_blt I hg hm boot_enumerate (PyProof.Rows.callWith_type1 (thn (ha.run pos pins s σ H _ I h) fun us s1 ⟨vs, H1, I1, r1, q1⟩ => ?_) hs rfl))
  obtain ⟨a, xs, ex, q1⟩ := q1
  subst ex
  have fin : ∀ b, (b = s1.heap.objs.size + 1 ∨ b = s1.heap.objs.size) → FpOk X pins H1 b := fun b e' => by
    have hle : s1.heap.objs.size ≤ b := by
      rcases e' with z | z
      · rw [z]; exact Nat.le_add_right _ _
      · rw [z]; exact Nat.le_refl _
    exact I1.fpOk hle (I1.hok.fresh hle)
  cases r1 with
  | cons r rr =>
    cases rr
    cases r
    rcases q1 with ⟨hq, q⟩ | ⟨hq, q⟩
    · obtain ⟨its, rv, p', hz⟩ := I1.list hq
      refine call_enumerate_list p'.isList fun h' he hit hsz hk => wpAny_pyIter_enum he ?_
      have I2 : Inv X pins σ H1 { s1 with heap := h' } := I1.kept (t' := s1.toks) hk
      exact ⟨s1.heap.objs.size + 1, [s1.heap.objs.size + 1, s1.heap.objs.size], _, _, H1, rfl, I2, turn_enum a (s1.heap.objs.size + 1) s1.heap.objs.size, ⟨⟨.none, he⟩, hit, Nat.succ_ne_self _⟩, fun b hb => fin b (by simpa using hb), q⟩
    · obtain ⟨its, rv, p', hz⟩ := I1.tuple hq
      have alt : a < s1.heap.objs.size := by
        obtain ⟨o, ho, _⟩ := p'
        exact Heap.lt_size ho
      refine call_enumerate_tuple p' fun h' he hit hsz hk => wpAny_pyIter_enum he ?_
      have I2 : Inv X pins σ H1 { s1 with heap := h' } := I1.kept (t' := s1.toks) hk
      exact ⟨s1.heap.objs.size + 1, [s1.heap.objs.size + 1, s1.heap.objs.size], _, _, H1, rfl, I2, turn_enumT a (s1.heap.objs.size + 1) s1.heap.objs.size (Nat.ne_of_lt (Nat.lt_succ_of_lt alt)) (Nat.ne_of_lt alt), ⟨⟨.none, he⟩, hit, Nat.succ_ne_self _⟩, fun b hb => fin b (by simpa using hb), q⟩
end
end DC

set_option linter.all false
set_option Elab.async false
set_option maxRecDepth 100000
set_option maxHeartbeats 2000000
/-! DChk: «this text is this core», a Bool; what is known where a body runs (Wd, XOk). -/
namespace DC
open PySem L2 PySem.Spec PyProof.Rows
structure Ck where
  fnm : Nat → Option Str
  gnm : Nat → Option Str
def nmOk (x : Str) : Bool := !(x == ("__debug__" : Str)) && !(x == ("__classdict__" : Str)) && !decide (x = ("__name__" : Str))
def visB (sc : Scope) (x : Str) : Bool := match sc.names.lookup x with
  | some .local => true
  | some .cell => true
  | some .free => true
  | _ => false
def locB (sc : Scope) (x : Str) : Bool := match sc.names.lookup x with
  | some .local => true
  | some .cell => true
  | _ => false
def slotB (N : List Str) (sc : Scope) (i : Nat) (x : Str) : Bool := decide (N[i]? = some x) && visB sc x && nmOk x
def tgtB (N : List Str) (sc : Scope) (i : Nat) (x : Str) : Bool := decide (N[i]? = some x) && locB sc x
def glB (sc : Scope) (x : Str) : Bool := decide (sc.names.lookup x = some .globalImplicit) && nmOk x
def cD : D → Const → Bool
  | .non, .none => true
  | .bl a, .bool b => a == b
  | .int i, .int j => decide (i = j)
  | .str x, .str y => decide (x = y) && decide (x.length ≤ maxLen)
  | _, _ => false
def b1N : B1 → String
  | .len => "len"
  | .all => "all"
  | .any => "any"
  | .abs => "abs"
  | .int => "int"
  | .str => "str"
  | .tuple => "tuple"
  | .list => "list"
  | .max => "max"
  | .min => "min"
  | .sum => "sum"
  | .dict => "dict"
  | .sorted => "sorted"
def b2N : B2 → String
  | .max => "max"
  | .min => "min"
def bltNames : List String := ["len", "all", "any", "abs", "int", "str", "tuple", "list", "max", "min", "sum", "bool", "dict", "range", "enumerate", "isinstance", "sorted"]
/-- its value is frozen, no list that is still changed -/
def strong : CE → Bool
  | .pk _ => false
  | .and _ b => strong b
  | .or _ b => strong b
  | .ite _ a b => strong a && strong b
  | .orv a b => strong a && strong b
  | _ => true
/-- it gives a new list or dict that nobody else holds -/
def fresh : CE → Bool
  | .lst _ => true
  | .dct _ _ => true
  | .lc _ _ _ _ _ _ => true
  | .b1 .dict _ => true
  | .b1 .list _ => true
  | _ => false
/-- it may be asked as a test -/
def tstOk : CE → Bool
  | .ite _ _ _ => false
  | .orv _ _ => false
  | .lkd _ _ _ => false
  | .and a b => tstOk a && tstOk b
  | .or a b => tstOk a && tstOk b
  | .not a => tstOk a
  | _ => true
def isSlice : Expr → Bool
  | .Slice _ _ _ _ => true
  | _ => false
def isStar : Expr → Bool
  | .Starred _ _ => true
  | _ => false
def isSetD : Expr → Bool
  | .Set _ _ _ => true
  | _ => false
/-- the operands of a bool operation behind the first -/
def restOf (op : BoolOp) (y : Expr) (rest : List Expr) (p : Pos) : Expr := match rest with
  | [] => y
  | _ => .BoolOp op (y :: rest) p
def keyC (k : Key) (e : Option Expr) : Bool := match e with
  | some (.Constant (.int i) _ _) => decide (k = .inl i)
  | some (.Constant (.str x) _ _) => decide (k = .inr x)
  | _ => false
def keysC : List Key → List (Option Expr) → Bool
  | [], [] => true
  | k :: ks, e :: es => keyC k e && keysC ks es
  | _, _ => false
def chkNames (N : List Str) (sc : Scope) : List Nat → List Expr → Bool
  | [], [] => true
  | i :: is, .Name x _ :: es => tgtB N sc i x && chkNames N sc is es
  | _, _ => false
def chkTg (N : List Str) (sc : Scope) (t : Tg) (e : Expr) : Bool := match t with
  | .one i => match e with
    | .Name x _ => tgtB N sc i x
    | _ => false
  | .tup is => match e with
    | .Tuple es _ _ => chkNames N sc is es
    | _ => false
def tgIn (t : Tg) (own : List Nat) : Bool := match t with
  | .one i => decide (i ∈ own)
  | .tup is => is.all fun i => decide (i ∈ own)
def ownOf (N : List Str) (own : List Nat) : List (Str × Nat) := own.map fun i => (N.getD i Str.empty, i)
def joinC (o : CE) (k : Const) : Bool := match o with
  | .c (.str x) => (match k with
    | .str y => decide (x = y) && decide (x.length ≤ maxLen)
    | _ => false)
  | _ => false
def noC (lo : CE) : Bool := match lo with
  | .no => true
  | _ => false
def trueC (c : CE) : Bool := match c with
  | .c (.bl true) => true
  | _ => false
def isTup : Expr → Bool
  | .Tuple _ _ _ => true
  | _ => false
def noComp : Expr → Bool
  | .ListComp _ _ _ _ => false
  | .SetComp _ _ _ _ => false
  | .DictComp _ _ _ _ _ => false
  | _ => true
/-- no super() -/
def objE : Expr → Bool
  | .Call (.Name x _) [] [] _ => !(x == ("super" : Str))
  | _ => true
/-- what is walked; chk: the sources are these texts -/
def chkIt (chk : List Expr → Bool) (k : ItK) (sc : Scope) (iter tg : Expr) : Bool := match k with
  | .seq => chk [iter] && !isSetD iter
  | .text => chk [iter] && !isSetD iter
  | .range1 => match iter with
    | .Call (.Name x _) [l] [] _ => decide (x = ("range" : Str)) && glB sc x && chk [l]
    | _ => false
  | .range2 => match iter with
    | .Call (.Name x _) [l, r] [] _ => decide (x = ("range" : Str)) && glB sc x && chk [l, r]
    | _ => false
  | .enum => match iter with
    | .Call (.Name x _) [l] [] _ => isTup tg && decide (x = ("enumerate" : Str)) && glB sc x && chk [l]
    | _ => false
  | .keys => chk [iter] && !isSetD iter
  | .items => match iter with
    | .Call (.Attribute l m ap) [] [] cp => isTup tg && decide (m = ("items" : Str)) && chk [l] && objE l && (ap.endLine == cp.line)
    | _ => false
mutual
def chkE (cx : Ck) (N : List Str) : CE → Scope → Expr → Bool
  | .c d, sc, e => match e with
    | .Constant k _ _ => cD d k
    | _ => false
  | .v i, sc, e => match e with
    | .Name x _ => slotB N sc i x
    | _ => false
  | .pk i, sc, e => match e with
    | .Name x _ => slotB N sc i x
    | _ => false
  | .g i, sc, e => match e with
    | .Name x _ => glB sc x && decide (cx.gnm i = some x)
    | _ => false
  | .no, _, _ => false
  | .bin o a b, sc, e => match e with
    | .BinOp l op r _ => decide (op = opA o) && chkE cx N a sc l && chkE cx N b sc r
    | _ => false
  | .neg a, sc, e => match e with
    | .UnaryOp op l _ => decide (op = .USub) && chkE cx N a sc l
    | _ => false
  | .cmp o a b, sc, e => match e with
    | .Compare l [op] [r] _ => decide (op = cmA o) && chkE cx N a sc l && chkE cx N b sc r && !behindInMarks op r
    | _ => false
  | .chain o o' a b c, sc, e => match e with
    | .Compare l [op, op'] [m, r] _ => decide (op = cmA o) && decide (op' = cmA o') && chkE cx N a sc l && chkE cx N b sc m && chkE cx N c sc r && !lastMarks [op, op'] [m, r]
    | _ => false
  | .and a b, sc, e => match e with
    | .BoolOp op (x :: y :: rest) p => decide (op = .And) && chkE cx N a sc x && chkE cx N b sc (restOf .And y rest p)
    | _ => false
  | .or a b, sc, e => match e with
    | .BoolOp op (x :: y :: rest) p => decide (op = .Or) && chkE cx N a sc x && chkE cx N b sc (restOf .Or y rest p)
    | _ => false
  | .not a, sc, e => match e with
    | .UnaryOp op x _ => decide (op = .Not) && chkE cx N a sc x
    | _ => false
  | .ite t a b, sc, e => match e with
    | .IfExp c x y _ => tstOk t && chkE cx N t sc c && chkE cx N a sc x && chkE cx N b sc y
    | _ => false
  | .isi t a, sc, e => match e with
    | .Call (.Name x _) [l, .Name ty _] [] _ => decide (x = ("isinstance" : Str)) && glB sc x && glB sc ty && decide (ty = Str.ofString (tyN t)) && chkE cx N a sc l && !isStar l
    | _ => false
  | .b1 f a, sc, e => match e with
    | .Call (.Name x _) [l] [] _ => decide (x = Str.ofString (b1N f)) && glB sc x && chkE cx N a sc l && !isStar l
    | _ => false
  | .b2 f a b, sc, e => match e with
    | .Call (.Name x _) [l, r] [] _ => decide (x = Str.ofString (b2N f)) && glB sc x && chkE cx N a sc l && chkE cx N b sc r && !isStar l && !isStar r
    | _ => false
  | .bm f o a, sc, e => match e with
    | .Call (.Attribute (.Constant k kk kp) m ap) [l] [] cp => decide (f = .join) && decide (m = ("join" : Str)) && joinC o k && chkE cx N a sc l && !isStar l && (ap.endLine == cp.line)
    | _ => false
  | .call f as, sc, e => match e with
    | .Call (.Name x _) (l :: ls) [] _ => glB sc x && decide (cx.fnm f = some x) && chkEs cx N as sc (l :: ls)
    | .Call (.Name x _) [] [] _ => glB sc x && decide (cx.fnm f = some x) && chkEs cx N as sc []
    | _ => false
  | .ix a b, sc, e => match e with
    | .Subscript l r _ => chkE cx N a sc l && chkE cx N b sc r && !isSlice r
    | _ => false
  | .sl a lo hi, sc, e => match e with
    | .Subscript l (.Slice x y none _) _ => chkE cx N a sc l && (match x with
        | none => noC lo
        | some x => chkE cx N lo sc x) && (match y with
        | none => noC hi
        | some y => chkE cx N hi sc y)
    | _ => false
  | .tup as, sc, e => match e with
    | .Tuple es _ _ => chkEs cx N as sc es
    | _ => false
  | .lst as, sc, e => match e with
    | .List es _ => chkEs cx N as sc es
    | _ => false
  | .dct ks as, sc, e => match e with
    | .Dict keys vals _ => keysC ks keys && decide ks.Nodup && decide (ks.length ≤ 15) && chkEs cx N as sc vals && decide (as.length = ks.length)
    | _ => false
  | .lc k srcs tg own cond elt, sc, e => match e with
    | .ListComp el [⟨tg', iter, ifs, z⟩] scope _ => decide (z = 0) && blkC N sc scope (ownOf N own) && tgIn tg own && chkIt (fun es => chkEs cx N srcs sc es) k sc iter tg' && chkTg N scope tg tg' && tstOk cond && (match ifs with
        | [] => trueC cond
        | [c] => chkE cx N cond scope c
        | _ => false) && chkE cx N elt scope el && strong elt && !isSetD iter
    | _ => false
  | .new a, sc, e => fresh a && chkE cx N a sc e
  | .attr a f, sc, e => match e with
    | .Attribute l f' _ => decide (f' = f) && chkE cx N a sc l && objE l
    | _ => false
  | .meth a m as, sc, e => match e with
    | .Call (.Attribute l m' ap) (x :: xs) [] cp => decide (m' = m) && chkE cx N a sc l && objE l && chkEs cx N as sc (x :: xs) && (ap.endLine == cp.line) && decide (xs.length < 20)
    | .Call (.Attribute l m' ap) [] [] cp => decide (m' = m) && chkE cx N a sc l && objE l && chkEs cx N as sc [] && (ap.endLine == cp.line)
    | _ => false
  | .make c as, sc, e => match e with
    | .Call (.Name x _) (l :: ls) [] _ => glB sc x && decide (x = c) && chkEs cx N as sc (l :: ls)
    | .Call (.Name x _) [] [] _ => glB sc x && decide (x = c) && chkEs cx N as sc []
    | _ => false
  | .getd o k d, sc, e => match e with
    | .Call (.Attribute l m ap) [x, y] [] cp => decide (m = ("get" : Str)) && chkE cx N o sc l && objE l && chkE cx N k sc x && chkE cx N d sc y && strong d && !isStar x && !isStar y && (ap.endLine == cp.line)
    | _ => false
  | .orv a b, sc, e => match e with
    | .BoolOp op (x :: y :: rest) p => decide (op = .Or) && chkE cx N a sc x && chkE cx N b sc (restOf .Or y rest p)
    | _ => false
  | .popK o k, sc, e => match e with
    | .Call (.Attribute l m ap) [x] [] cp => decide (m = ("pop" : Str)) && chkE cx N o sc l && objE l && chkE cx N k sc x && !isStar x && (ap.endLine == cp.line)
    | _ => false
  | .lkd _ _ a, sc, e => strong a && chkE cx N a sc e && noComp e
  | .popL o, sc, e => match e with
    | .Call (.Attribute l m ap) [] [] cp => decide (m = ("pop" : Str)) && chkE cx N o sc l && objE l && (ap.endLine == cp.line)
    | _ => false
termination_by structural a => a
def chkEs (cx : Ck) (N : List Str) : List CE → Scope → List Expr → Bool
  | [], _, es => match es with
    | [] => true
    | _ => false
  | a :: as, sc, es => match es with
    | e :: es => strong a && chkE cx N a sc e && !isStar e && chkEs cx N as sc es
    | _ => false
termination_by structural as => as
end
/-! ### calls -/
def hminus (H : Hp) (μ : List Addr) : Hp := fun a => if a ∈ μ then none else H a
section
variable {K : PySem.W.Frag} {R : Fr} {G G' : Hp} {μ μ' : List Addr} {Γ : List Slot} {h h' : List Cell} {σ : L2.St} {H H' : Hp}
theorem hm_of {a : Addr} {o : HO} (e : H a = some o) (hm : a ∉ μ) : hminus H μ a = some o := by
  unfold hminus
  rw [if_neg hm]
  exact e
theorem hm_to {a : Addr} {o : HO} (e : hminus H μ a = some o) : a ∉ μ ∧ H a = some o := by
  unfold hminus at e
  split at e
  · cases e
  · exact ⟨by assumption, e⟩
/-- the state as a callee finds it -/
theorem Sim.enter (S : Sim K R G μ Γ h σ H) : Sim K ⟨hminus H μ, G, μ, R.lk⟩ G μ [] h [] H := by
  refine ⟨S.gh, fun a o e => (hm_to e).2, Same.refl _, List.prefix_refl _, fun a e => .inl e, fun a e => ?_, S.mg, S.nd, S.len, S.cells, S.ul, S.lm, rfl, fun i s e => by simp at e, fun i j a c c' e _ _ _ => by simp at e⟩
  show hminus H μ a = none
  unfold hminus
  rw [if_pos e]
/-- the state behind a call -/
theorem Sim.back (S : Sim K R G μ Γ h σ H) (S' : Sim K ⟨hminus H μ, G, μ, R.lk⟩ G' μ' [] h' [] H') : Sim K R G' μ' Γ h' σ H' ∧ Ext Γ σ G μ H G' μ' H' := by
  have gg : Same G G' := S'.g0
  have mm : μ <+: μ' := S'.m0
  have hk : ∀ {a : Addr} {o : HO}, H a = some o → a ∉ μ → H' a = some o := fun e hm => S'.fh _ _ (hm_of e hm)
  have fn : ∀ {a : Addr}, hminus H μ a = none → R.F a = none := fun {a} e => by
    cases q : R.F a with
    | none => rfl
    | some o =>
      have hm : a ∉ μ := fun z => by
        have := S.mf a z
        rw [q] at this
        cases this
      rw [hm_of (S.fh a o q) hm] at e
      cases e
  have own : ∀ (i : Nat) (c : Cell) (a : Addr), Γ[i]? = some (.own c) → σ[i]? = some (some (.ref a)) → H' a = H a ∧ CellAt K G μ H a c ∧ G' a = none ∧ R.F a = none ∧ a ∉ μ' := fun i c a e1 e2 => by
    obtain ⟨a', q1, c1, g1, f1, m1⟩ := S.slots i _ e1
    rw [e2] at q1
    cases q1
    obtain ⟨o, ho⟩ := c1.there
    refine ⟨(hk ho m1).trans ho.symm, c1, ?_, f1, fun z => ?_⟩
    · cases q : G' a with
      | none => rfl
      | some u =>
        rcases S'.gf a (by rw [q]; simp) with z | z
        · exact absurd g1 z
        · have z' : hminus H μ a = none := z
          rw [hm_of ho m1] at z'
          cases z'
    · have z' : hminus H μ a = none := S'.mf a z
      rw [hm_of ho m1] at z'
      cases z'
  refine ⟨⟨S'.gh, fun a o e => hk (S.fh a o e) (fun z => by have := S.mf a z; rw [e] at this; cases this), S.g0.trans gg, S.m0.trans mm, fun a e => ?_, fun a e => fn (S'.mf a e), S'.mg, S'.nd, S'.len, S'.cells, S'.ul, S'.lm, S.slen, fun i s e => ?_, S.dist⟩, gg, mm, fun i c a e1 e2 => (own i c a e1 e2).1⟩
  · rcases S'.gf a e with z | z
    · exact S.gf a z
    · exact .inr (fn z)
  · have q := S.slots i s e
    cases s with
    | no => trivial
    | val d =>
      obtain ⟨v, e1, r⟩ := q
      exact ⟨v, e1, r.mono gg mm⟩
    | own c =>
      obtain ⟨a, e1, _⟩ := q
      obtain ⟨o1, o2, o3, o4, o5⟩ := own i c a e e1
      exact ⟨a, e1, o2.mono gg mm o1, o3, o4, o5⟩
/-- an object more that is to stay -/
theorem Sim.addF (S : Sim K R G μ Γ h σ H) {p : Addr} {o : HO} (hH : H p = some o) (hG : G p = none) (hm : p ∉ μ) (ho : ∀ (i : Nat) (c : Cell), Γ[i]? = some (.own c) → σ[i]? ≠ some (some (.ref p))) :
    Sim K ⟨upd R.F p o, R.G0, R.μ0, R.lk⟩ G μ Γ h σ H := by
  refine ⟨S.gh, fun a u e => ?_, S.g0, S.m0, fun a e => ?_, fun a e => ?_, S.mg, S.nd, S.len, S.cells, S.ul, S.lm, S.slen, fun i s e => ?_, S.dist⟩
  · by_cases q : a = p
    · subst q
      have e' : upd R.F a o a = some u := e
      rw [upd_same] at e'
      rw [hH]
      exact e'
    · have e' : upd R.F p o a = some u := e
      rw [upd_ne q] at e'
      exact S.fh a u e'
  · by_cases q : a = p
    · subst q
      exact absurd hG e
    · show _ ∨ upd R.F p o a = none
      rw [upd_ne q]
      exact S.gf a e
  · have n : a ≠ p := fun z => hm (by rw [← z]; exact e)
    show upd R.F p o a = none
    rw [upd_ne n]
    exact S.mf a e
  · have q := S.slots i s e
    cases s with
    | no => trivial
    | val d => exact q
    | own c =>
      obtain ⟨a, e1, c1, g1, f1, m1⟩ := q
      have n : a ≠ p := fun z => ho i c e (by rw [← z]; exact e1)
      refine ⟨a, e1, c1, g1, ?_, m1⟩
      show upd R.F p o a = none
      rw [upd_ne n]
      exact f1
theorem Sim.subF {F : Hp} (S : Sim K R G μ Γ h σ H) (hF : Same F R.F) : Sim K ⟨F, R.G0, R.μ0, R.lk⟩ G μ Γ h σ H := by
  have fn : ∀ {a : Addr}, R.F a = none → F a = none := fun e => hF.free e
  refine ⟨S.gh, hF.trans S.fh, S.g0, S.m0, fun a e => ?_, fun a e => fn (S.mf a e), S.mg, S.nd, S.len, S.cells, S.ul, S.lm, S.slen, fun i s e => ?_, S.dist⟩
  · rcases S.gf a e with z | z
    · exact .inl z
    · exact .inr (fn z)
  · have q := S.slots i s e
    cases s with
    | no => trivial
    | val d => exact q
    | own c =>
      obtain ⟨a, e1, c1, g1, f1, m1⟩ := q
      exact ⟨a, e1, c1, g1, fn f1, m1⟩
end
/-- what a def of the table promises -/
def spFn (K : PySem.W.Frag) (ca : Str → Addr) (T : Tb) (n f : Nat) : Sp := fun vs H Q E =>
  ∃ (G : Hp) (μ : List Addr) (h : List Cell) (ds : List D) (F : Fn) (lk : Hp), Sim K ⟨hminus H μ, G, μ, lk⟩ G μ [] h [] H ∧ RDs K G μ ds vs ∧ T.fn f = some F ∧ ds.length = F.ar ∧
    Go K ca (fun cls dx _ H => E cls dx H) ⟨hminus H μ, G, μ, lk⟩ [] [] (ρE K true) G μ H (callN T n f ds h) Q
/-- what is known of the text's defs and constants; n: how deep calls may go -/
structure Wd (P : Program) (w : World) (K : PySem.W.Frag) (mg : Str → Option Value) (base : Heap) (T : Tb) (ca : Str → Addr) (cx : Ck) (n : Nat) : Prop where
  fns : ∀ f nm, cx.fnm f = some nm → ∃ (fa : Addr) (fd : FuncData) (ps : List Str), mg nm = some (.ref fa) ∧ PySem.W.keepIn K (.ref fa) = true ∧ Binds K fd ps [] ∧ FnOk P w K mg base (L2.CX P w) (2 * n) fa fd ps (spFn K ca T n f)
  globs : ∀ i nm, cx.gnm i = some nm → ∃ u, mg nm = some u ∧ ∀ d, T.glob i = some d → ∃ v, RelV v u ∧ ∀ G μ, RD K G μ d v
  blt : ∀ x ∈ bltNames, mg (Str.ofString x) = none
  flds : ∀ c f, T.fld c f = true → Cls K (clsA K c) ∧ NoAttr K (clsA K c) f
  mths : ∀ c m f, T.meth c m = some f → ∃ (fa : Addr) (fd : FuncData) (ps : List Str), Cls K (clsA K c) ∧ Meth K (clsA K c) m fa ∧ Binds K fd ps [] ∧ FnOk P w K mg base (L2.CX P w) (2 * n) fa fd ps (spFn K ca T n f)
  inits : ∀ c f, T.init c = some f → ∃ (fa : Addr) (fd : FuncData) (ps : List Str), mg c = some (.ref (clsA K c)) ∧ Mk K (clsA K c) fa ∧ Binds K fd ps [] ∧ FnOk P w K mg base (L2.CX P w) (2 * n) fa fd ps (spFn K ca T n f)
/-- the frame's scope names what the text's scope names -/
structure ScOk (sc : Scope) (env : Env) : Prop where
  vis : ∀ x, visB sc x = true → Vis env.scope x
  loc : ∀ x, locB sc x = true → L2.Loc env.scope x
  gl : ∀ x, sc.names.lookup x = some .globalImplicit → env.scope.names.lookup x = some .globalImplicit
  cf : ∀ x, (sc.names.lookup x = some .cell ∨ sc.names.lookup x = some .free) → (env.scope.names.lookup x = some .cell ∨ env.scope.names.lookup x = some .free)
  lcl : ∀ x, sc.names.lookup x = some .local → env.scope.names.lookup x = some .local
theorem ScOk.self {env : Env} : ScOk env.scope env := by
  refine ⟨fun x q => ?_, fun x q => ?_, fun _ h => h, fun _ h => h, fun _ h => h⟩
  · unfold visB at q
    unfold Vis
    split at q
    · exact .inl (by assumption)
    · exact .inr (.inl (by assumption))
    · exact .inr (.inr (by assumption))
    · cases q
  · unfold locB at q
    unfold L2.Loc
    split at q
    · exact .inl (by assumption)
    · exact .inr (by assumption)
    · cases q
theorem lookup_map2 {f : Str → NameKind → NameKind} : ∀ {l : List (Str × NameKind)} {x : Str}, (l.map fun p => (p.1, f p.1 p.2)).lookup x = (l.lookup x).map (f x)
  | [], _ => rfl
  | p :: l, x => by
    obtain ⟨n, k⟩ := p
    rw [List.map_cons, List.lookup_cons, List.lookup_cons]
    cases hx : x == n with
    | true =>
      have : x = n := by simpa using hx
      subst this
      rfl
    | false => exact lookup_map2
theorem relabel_at {scope : Scope} {env : Env} {x : Str} : (relabel scope env).names.lookup x = (scope.names.lookup x).map fun k => if (k == .free && env.scope.kind == .function && env.kindOf x == some .cell) = true then .cell else k := by
  rw [← lookup_map2 (f := fun n k => if (k == .free && env.scope.kind == .function && env.kindOf n == some .cell) = true then .cell else k)]
  unfold relabel
  dsimp only
  congr 1
  apply List.map_congr_left
  intro p _
  obtain ⟨n, k⟩ := p
  dsimp only
  split <;> rfl
theorem ScOk.blk {scope : Scope} {cl : List (Str × Addr)} {C : Addr} {env : Env} : ScOk scope (compEnvC scope cl C env) := by
  have hl : ∀ x, scope.names.lookup x = some .local → (relabel scope env).names.lookup x = some .local := fun x h => by rw [relabel_at, h]; rfl
  have hc : ∀ x, scope.names.lookup x = some .cell → (relabel scope env).names.lookup x = some .cell := fun x h => by rw [relabel_at, h]; rfl
  have hf : ∀ x, scope.names.lookup x = some .free → (relabel scope env).names.lookup x = some .cell ∨ (relabel scope env).names.lookup x = some .free := fun x h => by
    rw [relabel_at, h]
    dsimp only [Option.map]
    split
    · exact .inl rfl
    · exact .inr rfl
  refine ⟨fun x q => ?_, fun x q => ?_, fun x h => ?_, fun x h => ?_, hl⟩
  · unfold visB at q
    unfold Vis
    split at q
    · exact .inl (hl x (by assumption))
    · exact .inr (.inl (hc x (by assumption)))
    · exact .inr (hf x (by assumption))
    · cases q
  · unfold locB at q
    unfold L2.Loc
    split at q
    · exact .inl (hl x (by assumption))
    · exact .inr (hc x (by assumption))
    · cases q
  · show (relabel scope env).names.lookup x = _
    rw [relabel_at, h]
    rfl
  · rcases h with h | h
    · exact .inl (hc x h)
    · exact hf x h
structure XOk (T : Tb) (ca : Str → Addr) (cx : Ck) (n : Nat) (N : List Str) (W : WX) (sc : Scope) (X : Cx) : Prop where
  wd : Wd X.prog X.w X.K X.mg X.base T ca cx n
  hN : X.N = N
  nd : N.Nodup
  hsc : ScOk sc X.env
  kind : X.env.scope.kind = .function
  room : Room (2 * n + 1) X.A
  takes : Takes X W
  passes : PassesOwn (model X.prog X.w) X.A X.env X.xe
  calm : X.calm = true
  fnl : ∀ x, locB sc x = true → X.fn x = true ∨ X.env.scope.names.lookup x = some .local
end DC

set_option linter.all false
set_option Elab.async false
set_option maxRecDepth 100000
set_option maxHeartbeats 4000000
/-! DExp: the checker is sound: an expression that is a core expression gives what the evaluator tells. -/
namespace DC
open PySem L2 PySem.Spec PyProof.Rows

theorem and4 {a b : Bool} (h : (a && b) = true) : a = true ∧ b = true := by simpa using h
theorem not_t {a : Bool} (h : (!a) = true) : a = false := by simpa using h
theorem nm_dbg {x : Str} (h : nmOk x = true) : (x == ("__debug__" : Str)) = false ∧ (x == ("__classdict__" : Str)) = false ∧ x ≠ "__name__" := by
  unfold nmOk at h
  simp only [Bool.and_eq_true] at h
  exact ⟨not_t h.1.1, not_t h.1.2, of_decide_eq_false (not_t h.2)⟩
section
variable {T : Tb} {ca : Str → Addr} {cx : Ck} {n : Nat} {N : List Str} {W : WX} {sc : Scope} {X : Cx}
theorem slot_vis (O : XOk T ca cx n N W sc X) {i : Nat} {x : Str} (h : slotB N sc i x = true) : X.N[i]? = some x ∧ Vis X.env.scope x ∧ nmOk x = true := by
  unfold slotB at h
  simp only [Bool.and_eq_true, decide_eq_true_eq] at h
  exact ⟨by rw [O.hN]; exact h.1.1, O.hsc.vis x h.1.2, h.2⟩
theorem tgt_loc (O : XOk T ca cx n N W sc X) {i : Nat} {x : Str} (h : tgtB N sc i x = true) : X.N[i]? = some x ∧ L2.Loc X.env.scope x ∧ (X.fn x = true ∨ X.env.scope.names.lookup x = some .local) := by
  unfold tgtB at h
  simp only [Bool.and_eq_true, decide_eq_true_eq] at h
  exact ⟨by rw [O.hN]; exact h.1, O.hsc.loc x h.2, O.fnl x h.2⟩
theorem gl_of (O : XOk T ca cx n N W sc X) {x : Str} (h : glB sc x = true) : Gl X x ∧ nmOk x = true := by
  unfold glB at h
  simp only [Bool.and_eq_true, decide_eq_true_eq] at h
  exact ⟨O.hsc.gl x h.1, h.2⟩
theorem star_of {e : Expr} (h : isStar e = false) (es : List Expr) (env : Env) : starEach (e :: es) env = (false, eval e env) :: starEach es env := by
  cases e <;> first | rfl | (cases h)
theorem pair_swap : ∀ (pos : Pos) (l : List (Bool × Sem Value)), l.any (·.1) = false → (backTo pos l).any (·.1) = false := by
  intro pos l h
  cases l with
  | nil => rfl
  | cons a r => simpa [backTo] using h
/-- no star among them -/
theorem stars_of : ∀ {as : List CE} {es : List Expr}, chkEs cx N as sc es = true → ∀ (env : Env), (starEach es env).any (·.1) = false
  | [], [], _, env => rfl
  | [], _ :: _, h, env => by
    simp [chkEs] at h
  | a :: as, [], h, env => by
    simp [chkEs] at h
  | a :: as, e :: es, h, env => by
    rw [chkEs] at h
    simp only [Bool.and_eq_true] at h
    rw [star_of (not_t h.1.2), List.any_cons, stars_of h.2 env]
    rfl
theorem no_star : ∀ {as : List CE} {e : Expr} {es : List Expr}, chkEs cx N as sc (e :: es) = true → isStar e = false
  | [], e, es, h => by
    simp [chkEs] at h
  | a :: as, e, es, h => by
    rw [chkEs] at h
    simp only [Bool.and_eq_true] at h
    exact not_t h.1.2
theorem blt_of (O : XOk T ca cx n N W sc X) {x : String} (h : x ∈ bltNames) : X.mg (Str.ofString x) = none := O.wd.blt x h

/-! ### readings put together -/
variable {K : PySem.W.Frag} {σ : L2.St} {H : Hp} {ρ : Rel D V}
theorem toB_go {R : Fr} {Γ : List Slot} {G : Hp} {μ : List Addr} {r : Out D} {st : Bool} {Q : Bool → Hp → Prop} (g : Go K ca W R Γ σ ρB G μ H (toB r) Q) :
    Go K ca W R Γ σ (ρE K st) G μ H r (fun v H1 => ∃ b, v = .bl b ∧ Q b H1) := by
  refine (Go.bind (ρ := ρE K st) g).mono fun v H1 ⟨a, h1, G1, μ1, S1, X1, r1, g1⟩ => ?_
  cases a with
  | bl b =>
    have e := bl_at (r1 : RE K st Γ σ G1 μ1 H1 (.bl b) v).w
    exact ⟨b, e, Go.val (b := b) g1 S1 rfl⟩
  | _ => exact g1.elim
/-- a value's reading serves as a test's, where the text is asked for its truth as it stands -/
theorem pt_of {e : Expr} {ev : List Slot → List Cell → Out D} {st : Bool} (p : PE X e (tI X.K ca W (ρE X.K st) ev)) (he : ∀ whole, isTrue e X.env whole = (do let v ← whole; standAt e.pos; holding [v] (truthy v))) :
    PT X e (tI X.K ca W ρB (fun Γ h => toB (ev Γ h))) := by
  refine (pt_val p he).imp fun σ H Q ⟨R, G, μ, Γ, h, S, g⟩ => ?_
  exact ⟨R, G, μ, Γ, h, S, toB_go g⟩
theorem val_go {d : D} {v : V} {st : Bool} {Q : VK} (hv : ∀ (R : Fr) (G : Hp) (μ : List Addr) (Γ : List Slot) (h : List Cell), Sim K R G μ Γ h σ H → RD K G μ d v) (t : tI K ca W (ρE K st) (fun _ h => some (.ok d h)) σ H Q) : Q v H := by
  obtain ⟨R, G, μ, Γ, h, S, g⟩ := t
  exact Go.val g S (.of (hv R G μ Γ h S))

/-! ### one rule a construct -/
theorem hu_room (O : XOk T ca cx n N W sc X) : X.A.units + 200 < cLine := by have := O.room.un; omega
variable {l r m e : Expr} {p : Pos} {ea eb ec : List Slot → List Cell → Out D} {sa sb se : Bool}
theorem s_bin (o : Op) (pa : PE X l (tI X.K ca W (ρE X.K sa) ea)) (pb : PE X r (tI X.K ca W (ρE X.K sb) eb)) :
    PE X (.BinOp l (opA o) r p) (tI X.K ca W (ρE X.K se) (fun Γ h => bnd (ea Γ h) fun x h => bnd (eb Γ h) fun y h => liftO (binD o h x y) h)) :=
  (pe_op (op_bin o) pa pb).imp fun _ _ _ t => two_of t
theorem s_neg (pa : PE X l (tI X.K ca W (ρE X.K sa) ea)) : PE X (.UnaryOp .USub l p) (tI X.K ca W (ρE X.K se) (fun Γ h => bnd (ea Γ h) fun x h => liftO (negD x) h)) :=
  (pe_un neg_D pa).imp fun _ _ _ t => un_of (f := fun _ x => negD x) t
theorem s_cmp (O : XOk T ca cx n N W sc X) (o : Cm) (pa : PE X l (tI X.K ca W (ρE X.K sa) ea)) (pb : PE X r (tI X.K ca W (ρE X.K sb) eb)) (hm : behindInMarks (cmA o) r = false) :
    PE X (.Compare l [cmA o] [r] p) (tI X.K ca W (ρE X.K se) (fun Γ h => bnd (ea Γ h) fun x h => bnd (eb Γ h) fun y h => liftO (cmpD o h x y) h)) ∧
    PT X (.Compare l [cmA o] [r] p) (tI X.K ca W ρB (fun Γ h => toB (bnd (ea Γ h) fun x h => bnd (eb Γ h) fun y h => liftO (cmpD o h x y) h))) :=
  have hu := hu_room O
  ⟨(pe_cmpR (op_cmp o (by omega)) pa pb hm).imp fun _ _ _ t => two_of t,
   (pt_cmpR (op_cmp o (by omega)) pa pb hm).imp fun σ H Q ⟨R, G, μ, Γ, h, S, g⟩ => two_of (st := true) ⟨R, G, μ, Γ, h, S, toB_go g⟩⟩
theorem chain_read {o o' : Cm} {st : Bool} {Q : VK} (t : tI X.K ca W (ρE X.K st) (fun Γ h => bnd (ea Γ h) fun x h => bnd (eb Γ h) fun y h => match cmpD o h x y with
    | some (.bl true) => bnd (ec Γ h) fun z h => liftO (cmpD o' h y z) h
    | some (.bl false) => some (.ok (.bl false) h)
    | _ => none) σ H Q) : tChain (rB X.K (cmpD o)) (rB X.K (cmpD o')) (tI X.K ca W (ρE X.K sa) ea) (tI X.K ca W (ρE X.K sb) eb) (tI X.K ca W (ρE X.K se) ec) σ H Q := by
  obtain ⟨R, G, μ, Γ, h, S, g⟩ := t
  refine ⟨R, G, μ, Γ, h, S, g.bind.mono fun v H1 ⟨a, h1, G1, μ1, S1, X1, r1, g1⟩ => ?_⟩
  refine ⟨R, G1, μ1, Γ, h1, S1, g1.bind.mono fun u H2 ⟨b, h2, G2, μ2, S2, X2, r2, g2⟩ => ?_⟩
  cases z : cmpD o h2 a b with
  | none => rw [z] at g2; exact g2.elim
  | some d =>
    rw [z] at g2
    refine ⟨R, G2, μ2, Γ, h2, σ, a, b, d, S2, (r1 : RE X.K sa Γ σ G1 μ1 H1 a v).w.mono X2, (r2 : RE X.K sb Γ σ G2 μ2 H2 b u).w, z, fun w G3 H3 S3 X3 r3 => ?_⟩
    cases d with
    | bl k =>
      refine ⟨k, r3, ?_⟩
      cases k with
      | true =>
        rw [if_pos rfl]
        refine ⟨R, G3, μ2, Γ, h2, S3, ((Go.shift g2 X3).bind).mono fun w' H4 ⟨c, h4, G4, μ4, S4, X4, r4, g4⟩ => ?_⟩
        obtain ⟨d', e, q⟩ := liftO_go g4
        exact ⟨R, G4, μ4, Γ, h4, σ, b, c, d', S4, ((r2 : RE X.K sb Γ σ G2 μ2 H2 b u).w.mono X3).mono X4, (r4 : RE X.K se Γ σ G4 μ4 H4 c w').w, e, q⟩
      | false =>
        rw [if_neg Bool.false_ne_true]
        exact Go.val (Go.shift g2 X3) S3 (.of rfl)
    | _ => exact g2.elim
theorem s_chain (O : XOk T ca cx n N W sc X) (o o' : Cm) (pa : PE X l (tI X.K ca W (ρE X.K sa) ea)) (pb : PE X m (tI X.K ca W (ρE X.K sb) eb)) (pc : PE X r (tI X.K ca W (ρE X.K se) ec)) (hm : lastMarks [cmA o, cmA o'] [m, r] = false) {st : Bool} :
    PE X (.Compare l [cmA o, cmA o'] [m, r] p) (tI X.K ca W (ρE X.K st) (fun Γ h => bnd (ea Γ h) fun x h => bnd (eb Γ h) fun y h => match cmpD o h x y with
      | some (.bl true) => bnd (ec Γ h) fun z h => liftO (cmpD o' h y z) h
      | some (.bl false) => some (.ok (.bl false) h)
      | _ => none)) ∧
    PT X (.Compare l [cmA o, cmA o'] [m, r] p) (tI X.K ca W ρB (fun Γ h => toB (bnd (ea Γ h) fun x h => bnd (eb Γ h) fun y h => match cmpD o h x y with
      | some (.bl true) => bnd (ec Γ h) fun z h => liftO (cmpD o' h y z) h
      | some (.bl false) => some (.ok (.bl false) h)
      | _ => none))) :=
  have hu := hu_room O
  ⟨(pe_chain (op_cmp o (by omega)) (op_cmp o' (by omega)) pa pb pc hm).imp fun _ _ _ t => chain_read t,
   (pt_chain (op_cmp o (by omega)) (op_cmp o' (by omega)) pa pb pc hm).imp fun σ H Q ⟨R, G, μ, Γ, h, S, g⟩ => chain_read (st := true) ⟨R, G, μ, Γ, h, S, toB_go g⟩⟩

/-! ### and, or, not -/
def andO (ea eb : List Slot → List Cell → Out D) : List Slot → List Cell → Out D := fun Γ h => bnd (ea Γ h) fun x h => match x with
  | .bl true => eb Γ h
  | .bl false => some (.ok (.bl false) h)
  | _ => none
def orO (ea eb : List Slot → List Cell → Out D) : List Slot → List Cell → Out D := fun Γ h => bnd (ea Γ h) fun x h => match x with
  | .bl true => some (.ok (.bl true) h)
  | .bl false => eb Γ h
  | _ => none
def notO (ea : List Slot → List Cell → Out D) : List Slot → List Cell → Out D := fun Γ h => bnd (ea Γ h) fun x h => match x with
  | .bl b => some (.ok (.bl (!b)) h)
  | _ => none
theorem and_read {st : Bool} {Q : VK} (t : tI X.K ca W (ρE X.K st) (andO ea eb) σ H Q) : tAndV (tI X.K ca W (ρE X.K sa) ea) (tI X.K ca W (ρE X.K st) eb) σ H Q := by
  obtain ⟨R, G, μ, Γ, h, S, g⟩ := t
  refine ⟨R, G, μ, Γ, h, S, (Go.bind (ρ := ρE X.K sa) g).mono fun v H1 ⟨a, h1, G1, μ1, S1, X1, r1, g1⟩ => ?_⟩
  cases a with
  | bl b =>
    refine ⟨b, bl_at (r1 : RE X.K sa Γ σ G1 μ1 H1 (.bl b) v).w, ?_⟩
    cases b with
    | true => exact ⟨R, G1, μ1, Γ, h1, S1, g1⟩
    | false => exact Go.val g1 S1 (.of rfl)
  | _ => exact g1.elim
theorem or_read {st : Bool} {Q : VK} (t : tI X.K ca W (ρE X.K st) (orO ea eb) σ H Q) : tOrV (tI X.K ca W (ρE X.K sa) ea) (tI X.K ca W (ρE X.K st) eb) σ H Q := by
  obtain ⟨R, G, μ, Γ, h, S, g⟩ := t
  refine ⟨R, G, μ, Γ, h, S, (Go.bind (ρ := ρE X.K sa) g).mono fun v H1 ⟨a, h1, G1, μ1, S1, X1, r1, g1⟩ => ?_⟩
  cases a with
  | bl b =>
    refine ⟨b, bl_at (r1 : RE X.K sa Γ σ G1 μ1 H1 (.bl b) v).w, ?_⟩
    cases b with
    | true => exact Go.val g1 S1 (.of rfl)
    | false => exact ⟨R, G1, μ1, Γ, h1, S1, g1⟩
  | _ => exact g1.elim
theorem not_read {st : Bool} {Q : VK} (t : tI X.K ca W (ρE X.K st) (notO ea) σ H Q) : tNotV (tI X.K ca W (ρE X.K sa) ea) σ H Q := by
  obtain ⟨R, G, μ, Γ, h, S, g⟩ := t
  refine ⟨R, G, μ, Γ, h, S, (Go.bind (ρ := ρE X.K sa) g).mono fun v H1 ⟨a, h1, G1, μ1, S1, X1, r1, g1⟩ => ?_⟩
  cases a with
  | bl b => exact ⟨b, bl_at (r1 : RE X.K sa Γ σ G1 μ1 H1 (.bl b) v).w, Go.val g1 S1 (.of rfl)⟩
  | _ => exact g1.elim
/-- from a test's wish: first the test a -/
theorem toB_first {R : Fr} {Γ : List Slot} {G : Hp} {μ : List Addr} {r : Out D} {f : D → List Cell → Out D} {Q : Bool → Hp → Prop} (g : Go X.K ca W R Γ σ ρB G μ H (toB (bnd r f)) Q) (hf : ∀ d h, (∀ b, d ≠ .bl b) → f d h = none) :
    Go X.K ca W R Γ σ ρB G μ H (toB r) (fun b H1 => ∃ (h1 : List Cell) (G1 : Hp) (μ1 : List Addr), Sim X.K R G1 μ1 Γ h1 σ H1 ∧ Ext Γ σ G μ H G1 μ1 H1 ∧ Go X.K ca W R Γ σ ρB G1 μ1 H1 (toB (f (.bl b) h1)) Q) := by
  match r, g with
  | none, g => exact g
  | some (.exc e h'), g => exact g
  | some (.ok d h'), g =>
    have g' : Go X.K ca W R Γ σ ρB G μ H (toB (f d h')) Q := g
    cases d with
    | bl b =>
      intro b' G1 μ1 H1 S1 X1 e
      have e' : b = b' := e
      subst e'
      exact ⟨h', G1, μ1, S1, X1, Go.shift g' X1⟩
    | _ =>
      rw [hf _ _ (fun b z => by cases z)] at g'
      exact g'.elim
theorem and_readT {Q : Bool → Hp → Prop} (t : tI X.K ca W ρB (fun Γ h => toB (andO ea eb Γ h)) σ H Q) : tAnd (tI X.K ca W ρB (fun Γ h => toB (ea Γ h))) (tI X.K ca W ρB (fun Γ h => toB (eb Γ h))) σ H Q := by
  obtain ⟨R, G, μ, Γ, h, S, g⟩ := t
  refine ⟨R, G, μ, Γ, h, S, (toB_first g fun d h hd => ?_).mono fun b H1 ⟨h1, G1, μ1, S1, X1, g1⟩ => ?_⟩
  · cases d <;> first | exact absurd rfl (hd _) | rfl
  · cases b with
    | true => exact ⟨R, G1, μ1, Γ, h1, S1, g1⟩
    | false => exact Go.val (b := false) g1 S1 rfl
theorem or_readT {Q : Bool → Hp → Prop} (t : tI X.K ca W ρB (fun Γ h => toB (orO ea eb Γ h)) σ H Q) : tOr (tI X.K ca W ρB (fun Γ h => toB (ea Γ h))) (tI X.K ca W ρB (fun Γ h => toB (eb Γ h))) σ H Q := by
  obtain ⟨R, G, μ, Γ, h, S, g⟩ := t
  refine ⟨R, G, μ, Γ, h, S, (toB_first g fun d h hd => ?_).mono fun b H1 ⟨h1, G1, μ1, S1, X1, g1⟩ => ?_⟩
  · cases d <;> first | exact absurd rfl (hd _) | rfl
  · cases b with
    | true => exact Go.val (b := true) g1 S1 rfl
    | false => exact ⟨R, G1, μ1, Γ, h1, S1, g1⟩
theorem not_readT {Q : Bool → Hp → Prop} (t : tI X.K ca W ρB (fun Γ h => toB (notO ea Γ h)) σ H Q) : tNot (tI X.K ca W ρB (fun Γ h => toB (ea Γ h))) σ H Q := by
  obtain ⟨R, G, μ, Γ, h, S, g⟩ := t
  refine ⟨R, G, μ, Γ, h, S, (toB_first g fun d h hd => ?_).mono fun b H1 ⟨h1, G1, μ1, S1, X1, g1⟩ => ?_⟩
  · cases d <;> first | exact absurd rfl (hd _) | rfl
  · exact Go.val (b := !b) g1 S1 rfl
theorem ite_read {et : List Slot → List Cell → Out D} {st : Bool} {Q : VK} (t : tI X.K ca W (ρE X.K st) (fun Γ h => bnd (et Γ h) fun x h => match x with
    | .bl true => ea Γ h
    | .bl false => eb Γ h
    | _ => none) σ H Q) : tIf (tI X.K ca W ρB (fun Γ h => toB (et Γ h))) (tI X.K ca W (ρE X.K st) ea) (tI X.K ca W (ρE X.K st) eb) σ H Q := by
  obtain ⟨R, G, μ, Γ, h, S, g⟩ := t
  dsimp only at g
  refine ⟨R, G, μ, Γ, h, S, ?_⟩
  dsimp only
  cases z : et Γ h with
  | none => rw [z] at g; exact g.elim
  | some r =>
    rw [z] at g
    cases r with
    | exc e h' => exact g
    | ok d h' =>
      cases d with
      | bl b =>
        intro b' G1 μ1 H1 S1 X1 e
        have e' : b = b' := e
        subst e'
        have g' := Go.shift g X1
        cases b with
        | true => exact ⟨R, G1, μ1, Γ, h', S1, g'⟩
        | false => exact ⟨R, G1, μ1, Γ, h', S1, g'⟩
      | _ => exact g.elim

/-! ### argument lists -/
theorem args_read {as : List CE} {a : CE} {f : CE → List Slot → List Cell → Out D} {fs : List Slot → List Cell → Out (List D)} {Q : List V → Hp → Prop} (hs : se = true)
    (t : tI X.K ca W (ρL X.K) (fun Γ h => bnd (ea Γ h) fun x h => bnd (fs Γ h) fun xs h => some (.ok (x :: xs) h)) σ H Q) : tCons (tI X.K ca W (ρE X.K se) ea) (tI X.K ca W (ρL X.K) fs) σ H Q := by
  obtain ⟨R, G, μ, Γ, h, S, g⟩ := t
  refine ⟨R, G, μ, Γ, h, S, (Go.bind (ρ := ρE X.K se) g).mono fun v H1 ⟨x, h1, G1, μ1, S1, X1, r1, g1⟩ => ?_⟩
  refine ⟨R, G1, μ1, Γ, h1, S1, (Go.bind (ρ := ρL X.K) g1).mono fun vs H2 ⟨xs, h2, G2, μ2, S2, X2, r2, g2⟩ => ?_⟩
  exact Go.val g2 S2 (RDs.cons (((r1 : RE X.K se Γ σ G1 μ1 H1 x v).s hs).mono X2.gg X2.mm) r2)
theorem nil_read {Q : List V → Hp → Prop} (t : tI X.K ca W (ρL X.K) (fun _ h => some (.ok [] h)) σ H Q) : tNil σ H Q := by
  obtain ⟨R, G, μ, Γ, h, S, g⟩ := t
  exact Go.val g S RDs.nil
variable {es : List Expr} {el : List Slot → List Cell → Out (List D)}
theorem s_tup {k : Nat} (pa : PA X es (tI X.K ca W (ρL X.K) el)) : PE X (.Tuple es k p) (tI X.K ca W (ρE X.K se) (fun Γ h => bnd (el Γ h) fun xs h => if xs.length ≤ maxLen then some (.ok (.tup xs) h) else none)) := by
  refine (pe_tup pa).imp fun σ H Q ⟨R, G, μ, Γ, h, S, g⟩ => ?_
  refine ⟨R, G, μ, Γ, h, S, (Go.bind (ρ := ρL X.K) g).mono fun vs H1 ⟨xs, h1, G1, μ1, S1, X1, r1, g1⟩ => ?_⟩
  split at g1
  · rename_i hz
    refine ⟨by rw [← RDs.len r1]; exact le_sl hz, fun q hq => ?_⟩
    obtain ⟨S2, X2, r2⟩ := new_tup hz r1 hq S1
    exact g1 _ _ _ _ S2 X2 (.of r2)
  · exact g1.elim
theorem fresh_own {R : Fr} {Γ : List Slot} {G : Hp} {μ : List Addr} {h : List Cell} (S : Sim K R G μ Γ h σ H) {q : Addr} (hq : H q = none) : G q = none ∧ R.F q = none ∧ q ∉ μ ∧ ∀ (i : Nat) (c : Cell), Γ[i]? = some (.own c) → σ[i]? ≠ some (some (.ref q)) := by
  refine ⟨S.gh.free hq, S.fh.free hq, fun z => ?_, fun i c e1 e2 => ?_⟩
  · obtain ⟨o, ho⟩ := S.mem_there z
    rw [hq] at ho
    cases ho
  · obtain ⟨a, q1, c1, _⟩ := S.slots i _ e1
    rw [e2] at q1
    cases q1
    obtain ⟨o, ho⟩ := c1.there
    rw [hq] at ho
    cases ho
theorem s_lstF (pa : PA X es (tI X.K ca W (ρL X.K) el)) : PE X (.List es p) (tI X.K ca W (ρF X.K) (fun Γ h => bnd (el Γ h) fun xs h => if xs.length ≤ maxLen then some (.ok (.lst xs) h) else none)) := by
  refine (pe_lst pa).imp fun σ H Q ⟨R, G, μ, Γ, h, S, g⟩ => ?_
  refine ⟨R, G, μ, Γ, h, S, (Go.bind (ρ := ρL X.K) g).mono fun vs H1 ⟨xs, h1, G1, μ1, S1, X1, r1, g1⟩ => ?_⟩
  split at g1
  · rename_i hz
    refine ⟨by rw [← RDs.len r1]; exact le_sl hz, fun q hq => ?_⟩
    obtain ⟨S2, X2⟩ := S1.lay (o := .lst vs) hq
    obtain ⟨f1, f2, f3, f4⟩ := fresh_own S1 hq
    exact g1 _ _ _ _ S2 X2 ⟨q, .lst xs, rfl, rfl, ⟨vs, upd_same, hz, r1⟩, f1, f2, f3, f4⟩
  · exact g1.elim
/-- a fresh thing, frozen -/
theorem frz_of {ev : List Slot → List Cell → Out D} {Q : VK} (t : tI K ca W (ρE K se) ev σ H Q) : tI K ca W (ρF K) ev σ H Q := by
  obtain ⟨R, G, μ, Γ, h, S, g⟩ := t
  refine ⟨R, G, μ, Γ, h, S, ?_⟩
  match ev Γ h, g with
  | none, g => exact g
  | some (.exc e h'), g => exact g
  | some (.ok d h'), g =>
    intro v G1 μ1 H1 S1 X1 hv
    obtain ⟨q, c, rfl, rfl, hc, f1, f2, f3, f4⟩ := hv
    obtain ⟨o, ho⟩ := hc.there
    obtain ⟨S2, X2⟩ := S1.frz ho f1 f2 f3 f4
    exact g _ _ _ _ S2 (X1.trans X2) (.of (hc.frz X2.gg (by rw [upd_same]; exact ho.symm)))
/-- a fresh thing becomes a cell -/
theorem new_of {ev : List Slot → List Cell → Out D} {Q : VK} (t : tI K ca W (ρE K se) (fun Γ h => bnd (ev Γ h) fun x h => newCell h x) σ H Q) : tI K ca W (ρF K) ev σ H Q := by
  obtain ⟨R, G, μ, Γ, h, S, g⟩ := t
  refine ⟨R, G, μ, Γ, h, S, (Go.bind (ρ := ρF K) g).mono fun v H1 ⟨d, h1, G1, μ1, S1, X1, r1, g1⟩ => ?_⟩
  obtain ⟨q, c, rfl, rfl, hc, f1, f2, f3, f4⟩ := r1
  obtain ⟨S2, X2⟩ := S1.cell (c := c) hc.toA f1 f2 f3 f4
  have e : (μ1 ++ [q])[h1.length]? = some q := by
    rw [← S1.len]
    simp
  cases c with
  | lst ds => exact g1 _ _ _ _ S2 X2 (.of ⟨q, rfl, e⟩)
  | dct ks xs => exact g1 _ _ _ _ S2 X2 (.of ⟨q, rfl, e⟩)
  | ins _ _ => exact hc.elim
  | llst _ => exact hc.elim
  | ldct _ _ => exact hc.elim
end
end DC

set_option linter.all false
set_option Elab.async false
set_option maxRecDepth 100000
set_option maxHeartbeats 4000000
/-! DExp2: calls, subscripts, slices, dict displays of the small language. -/
namespace DC
open PySem L2 PySem.Spec PyProof.Rows
section
variable {T : Tb} {ca : Str → Addr} {cx : Ck} {n : Nat} {N : List Str} {W : WX} {sc : Scope} {X : Cx} {σ : L2.St} {H : Hp}
variable {l r m e : Expr} {p pp : Pos} {ea eb ec : List Slot → List Cell → Out D} {sa sb se : Bool}
theorem bootB1 (f : B1) : bootBuiltins (Str.ofString (b1N f)) = some (b1V f) := by cases f <;> decide +kernel
theorem b1_mem (f : B1) : b1N f ∈ bltNames := by cases f <;> decide
theorem bootB2 (f : B2) : bootBuiltins (Str.ofString (b2N f)) = some (b2V f) := by cases f <;> decide +kernel
theorem b2_mem (f : B2) : b2N f ∈ bltNames := by cases f <;> decide
theorem bootTy (t : Ty) : bootBuiltins (Str.ofString (tyN t)) = some (.type (tyN t)) := by cases t <;> decide +kernel
theorem ty_mem (t : Ty) : tyN t ∈ bltNames := by cases t <;> decide
theorem one_read {f : List Cell → D → Option D} {st : Bool} {Q : VK} (t : tI X.K ca W (ρE X.K st) (fun Γ h => bnd (ea Γ h) fun x h => liftO (f h x) h) σ H Q) :
    tCB (rC1 X.K f) (tCons (tI X.K ca W (ρE X.K sa) ea) tNil) σ H Q := by
  obtain ⟨R, G, μ, Γ, h, S, g⟩ := t
  refine ⟨R, G, μ, Γ, h, S, (Go.bind (ρ := ρE X.K sa) g).mono fun v H1 ⟨a, h1, G1, μ1, S1, X1, r1, g1⟩ => ?_⟩
  obtain ⟨d, ed, q⟩ := liftO_go g1
  exact ⟨v, rfl, R, G1, μ1, Γ, h1, σ, a, d, S1, (r1 : RE X.K sa Γ σ G1 μ1 H1 a v).w, ed, q⟩
/-- what a built-in that gives a new thing asks -/
def rN (K : PySem.W.Frag) (f : List Cell → D → Option D) : List V → Hp → VK → Prop := fun xs H Q => ∃ x, xs = [x] ∧ ∃ (R : Fr) (G : Hp) (μ : List Addr) (Γ : List Slot) (h : List Cell) (σ : L2.St) (a d : D), Sim K R G μ Γ h σ H ∧ RW K Γ σ G μ H a x ∧ f h a = some d ∧
  ∀ v H', Sim K R G μ Γ h σ H' → Ext Γ σ G μ H G μ H' → ρF K R Γ σ G μ H' d v → Q v H'
theorem call_b1N (f : B1) (hf : f = .dict ∨ f = .list) : CallR X (b1V f) (rN X.K (b1D f)) := by
  intro pins s σ H xs us Q I r hh
  obtain ⟨x, rfl, R, G, μ, Γ, h, σ', a, d, S, ra, e, q⟩ := hh
  rcases hf with rfl | rfl
  · change (dctOf h a).map (fun p => D.dct p.1 p.2) = some d at e
    cases z : dctOf h a with
    | none => rw [z] at e; cases e
    | some p =>
      obtain ⟨ks, xs⟩ := p
      rw [z] at e
      cases e
      obtain ⟨p, kvs, rfl, hp, l, t⟩ := dctOf_at S ra z
      refine call_dictD pins s σ H _ us Q I r ⟨p, kvs, rfl, hp, fun n hn => ?_⟩
      obtain ⟨S1, X1⟩ := S.lay (o := .dK kvs) hn
      obtain ⟨f1, f2, f3, f4⟩ := fresh_own S hn
      exact q _ _ S1 X1 ⟨n, .dct ks xs, rfl, rfl, ⟨kvs, upd_same, l, t⟩, f1, f2, f3, f4⟩
  · change (seqOf h a).map D.lst = some d at e
    cases z : seqOf h a with
    | none => rw [z] at e; cases e
    | some ds =>
      rw [z] at e
      cases e
      obtain ⟨p, vs, rfl, hp, hl, t⟩ := seq_at S ra z
      refine call_list_of pins s σ H _ us Q I r ⟨p, vs, rfl, hp, fun n hn => ?_⟩
      obtain ⟨S1, X1⟩ := S.lay (o := .lst vs) hn
      obtain ⟨f1, f2, f3, f4⟩ := fresh_own S hn
      exact q _ _ S1 X1 ⟨n, .lst ds, rfl, rfl, ⟨vs, upd_same, hl, t⟩, f1, f2, f3, f4⟩
theorem s_b1F (O : XOk T ca cx n N W sc X) (f : B1) (hf : f = .dict ∨ f = .list) (hg : glB sc (Str.ofString (b1N f)) = true) (pa : PE X l (tI X.K ca W (ρE X.K sa) ea)) (hs : isStar l = false) :
    PE X (.Call (.Name (Str.ofString (b1N f)) pp) [l] [] p) (tI X.K ca W (ρF X.K) (fun Γ h => bnd (ea Γ h) fun x h => liftO (b1D f h x) h)) := by
  obtain ⟨h1, h2⟩ := gl_of O hg
  obtain ⟨d1, d2, d3⟩ := nm_dbg h2
  have hv := bootB1 f
  have hm := blt_of O (b1_mem f)
  have hc := call_b1N (X := X) f hf
  have ha := pa_cons pa pa_nil (star_of hs [] X.env)
  have hst := star_of hs [] X.env
  refine PE.imp (t := tCB (rN X.K (b1D f)) (tCons (tI X.K ca W (ρE X.K sa) ea) tNil)) ?_ fun σ H Q t => ?_
  · rcases hf with rfl | rfl <;> first
      | exact pe_callB hc h1 hm hv ha d3 d1 hst rfl
      | exact pe_callTy hc h1 hm hv ha d3 d1 hst rfl
  · obtain ⟨R, G, μ, Γ, h, S, g⟩ := t
    refine ⟨R, G, μ, Γ, h, S, (Go.bind (ρ := ρE X.K sa) g).mono fun v H1 ⟨a, h1, G1, μ1, S1, X1, r1, g1⟩ => ?_⟩
    cases z : b1D f h1 a with
    | none => rw [z] at g1; exact g1.elim
    | some d =>
      rw [z] at g1
      exact ⟨v, rfl, R, G1, μ1, Γ, h1, σ, a, d, S1, (r1 : RE X.K sa Γ σ G1 μ1 H1 a v).w, z, fun v2 H2 S2 X2 r2 => g1 v2 G1 μ1 H2 S2 X2 r2⟩
theorem s_b1 (O : XOk T ca cx n N W sc X) (f : B1) (hg : glB sc (Str.ofString (b1N f)) = true) (pa : PE X l (tI X.K ca W (ρE X.K sa) ea)) (hs : isStar l = false) :
    PE X (.Call (.Name (Str.ofString (b1N f)) pp) [l] [] p) (tI X.K ca W (ρE X.K se) (fun Γ h => bnd (ea Γ h) fun x h => liftO (b1D f h x) h)) := by
  obtain ⟨h1, h2⟩ := gl_of O hg
  obtain ⟨d1, d2, d3⟩ := nm_dbg h2
  have hv := bootB1 f
  have hm := blt_of O (b1_mem f)
  have hc := call_b1 (X := X) O.calm f
  have ha := pa_cons pa pa_nil (star_of hs [] X.env)
  have hst := star_of hs [] X.env
  refine PE.imp (t := tCB (rC1 X.K (b1D f)) (tCons (tI X.K ca W (ρE X.K sa) ea) tNil)) ?_ fun _ _ _ t => one_read t
  cases f <;> first
    | exact pe_callB hc h1 hm hv ha d3 d1 hst rfl
    | exact pe_callTy hc h1 hm hv ha d3 d1 hst rfl
theorem two_read {f : List Cell → D → D → Option D} {st : Bool} {Q : VK} (t : tI X.K ca W (ρE X.K st) (fun Γ h => bnd (ea Γ h) fun x h => bnd (eb Γ h) fun y h => liftO (f h x y) h) σ H Q) :
    tCB (rC2 X.K f) (tCons (tI X.K ca W (ρE X.K sa) ea) (tCons (tI X.K ca W (ρE X.K sb) eb) tNil)) σ H Q := by
  obtain ⟨R, G, μ, Γ, h, S, g⟩ := t
  refine ⟨R, G, μ, Γ, h, S, (Go.bind (ρ := ρE X.K sa) g).mono fun v H1 ⟨a, h1, G1, μ1, S1, X1, r1, g1⟩ => ?_⟩
  refine ⟨R, G1, μ1, Γ, h1, S1, (Go.bind (ρ := ρE X.K sb) g1).mono fun u H2 ⟨b, h2, G2, μ2, S2, X2, r2, g2⟩ => ?_⟩
  obtain ⟨d, ed, q⟩ := liftO_go g2
  exact ⟨v, u, rfl, R, G2, μ2, Γ, h2, σ, a, b, d, S2, (r1 : RE X.K sa Γ σ G1 μ1 H1 a v).w.mono X2, (r2 : RE X.K sb Γ σ G2 μ2 H2 b u).w, ed, q⟩
theorem s_b2 (O : XOk T ca cx n N W sc X) (f : B2) (hg : glB sc (Str.ofString (b2N f)) = true) (pa : PE X l (tI X.K ca W (ρE X.K sa) ea)) (pb : PE X r (tI X.K ca W (ρE X.K sb) eb)) (hs : isStar l = false) (hs2 : isStar r = false) :
    PE X (.Call (.Name (Str.ofString (b2N f)) pp) [l, r] [] p) (tI X.K ca W (ρE X.K se) (fun Γ h => bnd (ea Γ h) fun x h => bnd (eb Γ h) fun y h => liftO (b2D f x y) h)) := by
  obtain ⟨h1, h2⟩ := gl_of O hg
  obtain ⟨d1, d2, d3⟩ := nm_dbg h2
  have hv := bootB2 f
  have hm := blt_of O (b2_mem f)
  have hc := call_b2 (X := X) O.calm f
  have ha := pa_cons pa (pa_cons pb pa_nil (star_of hs2 [] X.env)) (star_of hs [r] X.env)
  refine PE.imp (t := tCB (rC2 X.K fun _ => b2D f) (tCons (tI X.K ca W (ρE X.K sa) ea) (tCons (tI X.K ca W (ρE X.K sb) eb) tNil))) ?_ fun _ _ _ t => two_read (f := fun _ => b2D f) t
  have hpl : (backTo p (starEach [r] X.env)).any (·.1) = false := pair_swap _ _ (by rw [star_of hs2]; rfl)
  cases f <;> exact pe_callB hc h1 hm hv ha d3 d1 (star_of hs [r] X.env) hpl
theorem s_isi (O : XOk T ca cx n N W sc X) (t : Ty) (hg : glB sc ("isinstance" : Str) = true) (hg2 : glB sc (Str.ofString (tyN t)) = true) (pa : PE X l (tI X.K ca W (ρE X.K sa) ea)) (hs : isStar l = false) {p2 : Pos} :
    PE X (.Call (.Name ("isinstance" : Str) pp) [l, .Name (Str.ofString (tyN t)) p2] [] p) (tI X.K ca W (ρE X.K se) (fun Γ h => bnd (ea Γ h) fun x h => liftO ((isiD t h x).map .bl) h)) := by
  obtain ⟨h1, h2⟩ := gl_of O hg
  obtain ⟨d1, d2, d3⟩ := nm_dbg h2
  obtain ⟨k1, k2⟩ := gl_of O hg2
  obtain ⟨e1, e2, e3⟩ := nm_dbg k2
  have pt : PE X (.Name (Str.ofString (tyN t)) p2) (tC (.ty (tyN t))) := pe_bltn k1 (blt_of O (ty_mem t)) (bootTy t) rfl e3 e1
  have ha := pa_cons pa (pa_cons pt pa_nil) (star_of hs _ X.env)
  refine (pe_callB (isi_D t) h1 (blt_of O (x := "isinstance") (by decide)) (by decide +kernel) ha d3 d1 (star_of hs _ X.env) rfl).imp fun σ H Q t => ?_
  obtain ⟨R, G, μ, Γ, h, S, g⟩ := t
  refine ⟨R, G, μ, Γ, h, S, (Go.bind (ρ := ρE X.K sa) g).mono fun v H1 ⟨a, h1, G1, μ1, S1, X1, r1, g1⟩ => ?_⟩
  obtain ⟨d, ed, q⟩ := liftO_go g1
  exact ⟨v, rfl, R, G1, μ1, Γ, h1, σ, a, d, S1, (r1 : RE X.K sa Γ σ G1 μ1 H1 a v).w, ed, q⟩
theorem s_join {x : Str} {kk : Nat} {kp ap : Pos} (hx : x.length ≤ maxLen) (pa : PE X l (tI X.K ca W (ρE X.K sb) eb)) (hs : isStar l = false) (hl : (ap.endLine == p.line) = true) :
    PE X (.Call (.Attribute (.Constant (.str x) kk kp) ("join" : Str) ap) [l] [] p) (tI X.K ca W (ρE X.K se) (fun Γ h => bnd (some (.ok (.str x) h)) fun a h => bnd (eb Γ h) fun y h => liftO (bmD .join h a y) h)) := by
  refine (pe_m1 PySem.F.slot_str_join PySem.F.type_str_join mt_joinD pe_str pa (by rw [star_of hs]; rfl) rfl hl).imp fun σ H Q t => ?_
  obtain ⟨R, G, μ, Γ, h, S, g⟩ := t
  refine ⟨⟨x, rfl⟩, R, G, μ, Γ, h, S, ?_⟩
  have g' : Go X.K ca W R Γ σ (ρE X.K se) G μ H (bnd (eb Γ h) fun y h => liftO (bmD .join h (.str x) y) h) Q := g
  refine (Go.bind (ρ := ρE X.K sb) g').mono fun u H1 ⟨b, h1, G1, μ1, S1, X1, r1, g1⟩ => ?_
  obtain ⟨d, ed, q⟩ := liftO_go g1
  exact ⟨u, rfl, R, G1, μ1, Γ, h1, σ, .str x, b, d, S1, .inl ⟨rfl, hx⟩, (r1 : RE X.K sb Γ σ G1 μ1 H1 b u).w, ed, q⟩
/-! ### a def of the text -/
theorem go_call (O : XOk T ca cx n N W sc X) {R : Fr} {G : Hp} {μ : List Addr} {Γ : List Slot} {h : List Cell} {f : Nat} {ds : List D} {vs : List V} {st : Bool} {Q : VK} (S : Sim X.K R G μ Γ h σ H) (t : RDs X.K G μ ds vs) (g : Go X.K ca W R Γ σ (ρE X.K st) G μ H (callN T n f ds h) Q) :
    spFn X.K ca T n f vs H Q (WE W σ) := by
  have S0 := S.enter
  cases hn : T.fn f with
  | none =>
    have e : callN T n f ds h = none := by
      cases n with
      | zero => rfl
      | succ k => rw [callN, hn]
    rw [e] at g
    exact g.elim
  | some F =>
    by_cases hl : ds.length = F.ar
    · refine ⟨G, μ, h, ds, F, R.lk, S0, t, hn, hl, ?_⟩
      match callN T n f ds h, g with
      | none, g => exact g
      | some (.ok d h'), g =>
        intro v G1 μ1 H1 S1 X1 r1
        obtain ⟨S2, X2⟩ := S.back S1
        exact g v G1 μ1 H1 S2 X2 (.of (RE.s r1 rfl))
      | some (.exc e h'), g =>
        intro cls dx G1 μ1 H1 S1 ex
        obtain ⟨S2, X2⟩ := S.back S1
        exact g cls dx G1 μ1 H1 S2 ex
    · have e : callN T n f ds h = none := by
        cases n with
        | zero => rfl
        | succ k =>
          rw [callN, hn]
          exact if_neg hl
      rw [e] at g
      exact g.elim
variable {es : List Expr} {el : List Slot → List Cell → Out (List D)}
theorem s_call (O : XOk T ca cx n N W sc X) {f : Nat} {x : Str} (hg : glB sc x = true) (hf : cx.fnm f = some x) (pa : PA X (l :: es) (tI X.K ca W (ρL X.K) el)) (hs : isStar l = false) (hs2 : (starEach es X.env).any (·.1) = false) :
    PE X (.Call (.Name x pp) (l :: es) [] p) (tI X.K ca W (ρE X.K se) (fun Γ h => bnd (el Γ h) fun xs h => callN T n f xs h)) := by
  obtain ⟨h1, h2⟩ := gl_of O hg
  obtain ⟨d1, d2, d3⟩ := nm_dbg h2
  obtain ⟨fa, fd, ps, m1, m2, m3, m4⟩ := O.wd.fns f x hf
  refine (pe_callS m4 (O.room.mono (by omega)) h1 m1 m2 m3 (E := WE W) (fun σ => passAt O.takes σ) pa d1 (star_of hs es X.env) (pair_swap _ _ hs2)).imp fun σ H Q t => ?_
  obtain ⟨R, G, μ, Γ, h, S, g⟩ := t
  refine ⟨R, G, μ, Γ, h, S, (Go.bind (ρ := ρL X.K) g).mono fun vs H1 ⟨xs, h1, G1, μ1, S1, X1, r1, g1⟩ => ?_⟩
  exact go_call O S1 r1 g1
theorem s_call0 (O : XOk T ca cx n N W sc X) {f : Nat} {x : Str} (hg : glB sc x = true) (hf : cx.fnm f = some x) :
    PE X (.Call (.Name x pp) [] [] p) (tI X.K ca W (ρE X.K se) (fun Γ h => callN T n f [] h)) := by
  obtain ⟨h1, h2⟩ := gl_of O hg
  obtain ⟨d1, d2, d3⟩ := nm_dbg h2
  obtain ⟨fa, fd, ps, m1, m2, m3, m4⟩ := O.wd.fns f x hf
  refine ⟨fun pins s σ H Q I t => ?_⟩
  obtain ⟨R, G, μ, Γ, h, S, g⟩ := t
  refine wpAny_Call_Name_kw (ld_glob I h1 m1 ?_ d1)
  exact PySem.W.callWith_K0 I.kIn m2 (run_fnS (us := []) (vs := []) (E := WE W) m4 (O.room.mono (by omega)) m3 (passAt O.takes σ) I .nil (go_call O S RDs.nil g))
theorem plain_ix {b : Expr} (h : isSlice b = false) : PlainIx b := by
  intro o i
  cases b <;> first | rfl | (cases h)
theorem s_ix (O : XOk T ca cx n N W sc X) (pa : PE X l (tI X.K ca W (ρE X.K sa) ea)) (pb : PE X r (tI X.K ca W (ρE X.K sb) eb)) (hs : isSlice r = false) :
    PE X (.Subscript l r p) (tI X.K ca W (ρE X.K se) (fun Γ h => bnd (ea Γ h) fun x h => bnd (eb Γ h) fun y h => liftO (ixD h x y) h)) :=
  have hu := hu_room O
  (pe_ix (ix_D (by omega)) pa pb (plain_ix hs)).imp fun _ _ _ t => two_of t
end
end DC

set_option linter.all false
set_option Elab.async false
set_option maxRecDepth 100000
set_option maxHeartbeats 4000000
/-! DExp3: slices, dict displays, what is walked, targets, comprehensions. -/
namespace DC
open PySem L2 PySem.Spec PyProof.Rows
section
variable {T : Tb} {ca : Str → Addr} {cx : Ck} {n : Nat} {N : List Str} {W : WX} {sc : Scope} {X : Cx} {σ : L2.St} {H : Hp}
variable {l r m e : Expr} {p pp : Pos} {ea eb ec : List Slot → List Cell → Out D} {sa sb se : Bool}
/-! ### slices -/
/-- a bound's text: left out, or an expression -/
def BdOk (X : Cx) (ca : Str → Addr) (W : WX) (b : Bool) (x : Option Expr) (ev : List Slot → List Cell → Out D) : Prop :=
  match x with
  | none => b = true ∧ ∀ Γ h, ev Γ h = some (.ok .non h)
  | some x => b = false ∧ ∃ st, PE X x (tI X.K ca W (ρE X.K st) ev)
def tBd (X : Cx) (ca : Str → Addr) (W : WX) (x : Option Expr) (ev : List Slot → List Cell → Out D) (st : Bool) : TO := match x with
  | none => tNoPart
  | some _ => tPart (tI X.K ca W (ρE X.K st) ev)
theorem bd_part {b : Bool} {x : Option Expr} {ev : List Slot → List Cell → Out D} (h : BdOk X ca W b x ev) : ∃ st, PO X x (tBd X ca W x ev st) := by
  cases x with
  | none => exact ⟨true, po_none⟩
  | some x =>
    obtain ⟨_, st, pe⟩ := h
    exact ⟨st, po_some pe⟩
/-- a bound that is asked, then the rest -/
theorem bd_read {b : Bool} {x : Option Expr} {ev : List Slot → List Cell → Out D} (hb : BdOk X ca W b x ev) {st : Bool} {R : Fr} {G : Hp} {μ : List Addr} {Γ : List Slot} {h : List Cell} {γ δ : Type} {ρ : Rel γ δ} {f : Option Int → List Cell → Out γ} {Q : δ → Hp → Prop} {C : Option Int → Hp → Prop}
    (S : Sim X.K R G μ Γ h σ H) (g : Go X.K ca W R Γ σ ρ G μ H (bnd (ev Γ h) fun d h => match boundC b d with | some o => f o h | none => none) Q)
    (k : ∀ o h1 G1 μ1 H1, Sim X.K R G1 μ1 Γ h1 σ H1 → Ext Γ σ G μ H G1 μ1 H1 → Go X.K ca W R Γ σ ρ G1 μ1 H1 (f o h1) Q → C o H1) : tBd X ca W x ev st σ H C := by
  cases x with
  | none =>
    obtain ⟨rfl, e⟩ := hb
    rw [e Γ h] at g
    exact k none h G μ H S .refl g
  | some x =>
    obtain ⟨rfl, _⟩ := hb
    refine ⟨R, G, μ, Γ, h, S, (Go.bind (ρ := ρE X.K st) g).mono fun v H1 ⟨a, h1, G1, μ1, S1, X1, r1, g1⟩ => ?_⟩
    cases a with
    | int i => exact ⟨i, int_at (r1 : RE X.K st Γ σ G1 μ1 H1 (.int i) v).w, k (some i) h1 G1 μ1 H1 S1 X1 g1⟩
    | _ => exact g1.elim
theorem s_sl {x y : Option Expr} {p2 : Pos} {bl bh : Bool} (pa : PE X l (tI X.K ca W (ρE X.K sa) ea)) (hl : BdOk X ca W bl x eb) (hh : BdOk X ca W bh y ec) :
    PE X (.Subscript l (.Slice x y none p2) p) (tI X.K ca W (ρE X.K se) (fun Γ h => bnd (ea Γ h) fun a h => bnd (eb Γ h) fun lo h => match boundC bl lo with
      | some lo => bnd (ec Γ h) fun hi h => match boundC bh hi with
        | some hi => liftO (slI h a lo hi) h
        | none => none
      | none => none)) := by
  obtain ⟨s1, p1⟩ := bd_part hl
  obtain ⟨s2, p2⟩ := bd_part hh
  refine (pe_slice sl_D pa p1 p2).imp fun σ H Q t => ?_
  obtain ⟨R, G, μ, Γ, h, S, g⟩ := t
  refine ⟨R, G, μ, Γ, h, S, (Go.bind (ρ := ρE X.K sa) g).mono fun v H1 ⟨a, h1, G1, μ1, S1, X1, r1, g1⟩ => ?_⟩
  have r1' := (r1 : RE X.K sa Γ σ G1 μ1 H1 a v).w
  refine bd_read hl S1 g1 fun lo h2 G2 μ2 H2 S2 X2 g2 => ?_
  refine bd_read hh S2 g2 fun hi h3 G3 μ3 H3 S3 X3 g3 => ?_
  obtain ⟨d, ed, q⟩ := liftO_go g3
  exact ⟨R, G3, μ3, Γ, h3, σ, a, d, S3, (r1'.mono X2).mono X3, ed, q⟩

/-! ### dict displays -/
theorem merge_nodup : ∀ (kvs more : List (Key × V)), ((kvs ++ more).map (·.1)).Nodup → mergeK kvs more = kvs ++ more
  | kvs, [], _ => by
    rw [List.append_nil]
    rfl
  | kvs, p :: more, h => by
    have e : mergeK kvs (p :: more) = mergeK (putK kvs p.1 p.2) more := rfl
    have e2 : putK kvs p.1 p.2 = kvs ++ [p] := by
      unfold putK
      rw [if_neg]
      intro z
      rw [List.any_eq_true] at z
      obtain ⟨q, hq, hk⟩ := z
      have hk : q.1 = p.1 := of_decide_eq_true hk
      rw [List.map_append, List.nodup_append] at h
      exact h.2.2 q.1 (List.mem_map.mpr ⟨q, hq, rfl⟩) p.1 (by simp) hk
    rw [e, e2, merge_nodup (kvs ++ [p]) more (by rw [List.append_assoc]; exact h), List.append_assoc]
    rfl
theorem pe_key {k : Key} {e : Expr} (h : keyC k (some e) = true) : PE X e (tC (kV k)) := by
  unfold keyC at h
  split at h
  · rename_i e'
    injection e' with e'
    subst e'
    have := of_decide_eq_true h
    subst this
    exact pe_int
  · rename_i e'
    injection e' with e'
    subst e'
    have := of_decide_eq_true h
    subst this
    exact pe_str
  · cases h
/-- the pairs' readings: keys are written, values one behind the other -/
def DP (X : Cx) (ca : Str → Addr) (W : WX) (pos : Pos) (ks : List Key) (keys : List (Option Expr)) (vals : List Expr) (el : List Slot → List Cell → Out (List D)) : Prop :=
  ∃ trs, PPs X pos keys vals trs ∧ ∀ (σ : L2.St) (H : Hp) (R : Fr) (G : Hp) (μ : List Addr) (Γ : List Slot) (h : List Cell) (Q : List (V × V) → Hp → Prop), Sim X.K R G μ Γ h σ H →
    Go X.K ca W R Γ σ (ρL X.K) G μ H (el Γ h) (fun vs H' => vs.length = ks.length → Q ((ks.map kV).zip vs) H') → (∀ ds h', el Γ h = some (.ok ds h') → ds.length = ks.length) → tPairs trs σ H Q
theorem dp_nil {pos : Pos} : DP X ca W pos [] [] [] (fun _ h => some (.ok [] h)) :=
  ⟨[], pps_nil, fun σ H R G μ Γ h Q S g _ => (Go.val (b := []) g S RDs.nil) rfl⟩
theorem dp_cons {pos : Pos} {k : Key} {ks : List Key} {k' : Option Expr} {keys : List (Option Expr)} {v : Expr} {vals : List Expr} {el : List Slot → List Cell → Out (List D)} (hk : keyC k k' = true) (hv : PE X v (tI X.K ca W (ρE X.K se) ea)) (hs : se = true) (hr : DP X ca W pos ks keys vals el) :
    DP X ca W pos (k :: ks) (k' :: keys) (v :: vals) (fun Γ h => bnd (ea Γ h) fun x h => bnd (el Γ h) fun xs h => some (.ok (x :: xs) h)) := by
  obtain ⟨trs, p1, p2⟩ := hr
  cases k' with
  | none => cases hk
  | some k' =>
    refine ⟨(tC (kV k), _) :: trs, pps_cons (pe_key hk) hv p1, fun σ H R G μ Γ h Q S g hlen => ?_⟩
    refine ⟨R, G, μ, Γ, h, S, ?_⟩
    cases z : ea Γ h with
    | none => simp only [z] at g; exact g.elim
    | some r =>
      cases r with
      | exc e h' => simp only [z] at g; exact g
      | ok d h1 =>
        simp only [z] at g hlen
        intro w G1 μ1 H1 S1 X1 r1
        refine p2 σ H1 R G1 μ1 Γ h1 _ S1 ?_ fun ds h' e => ?_
        · have g' : Go X.K ca W R Γ σ (ρL X.K) G μ H (bnd (el Γ h1) fun xs h => some (.ok (d :: xs) h)) _ := g
          refine ((Go.shift g' X1).bind).mono fun ws H2 ⟨xs, h2, G2, μ2, S2, X2, r2, g2⟩ hl => ?_
          exact Go.val (b := w :: ws) g2 S2 (RDs.cons ((RE.s r1 hs).mono X2.gg X2.mm) r2) (by simp [hl])
        · have := hlen (d :: ds) h' (by show (bnd (el Γ h1) fun xs h => some (Res.ok (d :: xs) h)) = _; rw [e]; rfl)
          simpa using this
/-- the same wish where more is to stay -/
theorem Go.addF {α β : Type} {R : Fr} {Γ : List Slot} {G : Hp} {μ : List Addr} {r : Out α} {ρ : Rel α β} {Q : β → Hp → Prop} {K : PySem.W.Frag} {q : Addr} {o : HO} (g : Go K ca W R Γ σ ρ G μ H r Q) (hq : R.F q = none) {C : β → Hp → Prop}
    (k : ∀ a h' b G' μ' H', r = some (.ok a h') → Sim K ⟨upd R.F q o, R.G0, R.μ0, R.lk⟩ G' μ' Γ h' σ H' → Ext Γ σ G μ H G' μ' H' → ρ ⟨upd R.F q o, R.G0, R.μ0, R.lk⟩ Γ σ G' μ' H' a b → C b H') :
    Go K ca W ⟨upd R.F q o, R.G0, R.μ0, R.lk⟩ Γ σ ρ G μ H r C := by
  match r, g, k with
  | none, g, k => exact g
  | some (.exc e h'), g, k => exact fun cls dx G' μ' H' S X => g cls dx G' μ' H' (S.subF (F := R.F) (Same.new hq)) X
  | some (.ok a h'), g, k => exact fun b G' μ' H' S X e => k a h' b G' μ' H' rfl S X e
theorem zip_rel {K : PySem.W.Frag} {G : Hp} {μ : List Addr} : ∀ {ks : List Key} {vs : List V}, vs.length = ks.length → (ks.map kV).zip vs = (ks.zip vs).map (fun kv => (kV kv.1, kv.2)) ∧ (ks.zip vs).map (·.1) = ks ∧ (ks.zip vs).map (·.2) = vs
  | [], [], _ => ⟨rfl, rfl, rfl⟩
  | [], _ :: _, h => by simp at h
  | _ :: _, [], h => by simp at h
  | k :: ks, v :: vs, h => by
    obtain ⟨h1, h2, h3⟩ := zip_rel (K := K) (G := G) (μ := μ) (ks := ks) (vs := vs) (by simpa using h)
    simp [h1, h2, h3]
theorem s_dct0 : PE X (.Dict [] [] p) (tI X.K ca W (ρF X.K) (fun Γ h => bnd (some (.ok [] h)) fun xs h => some (.ok (.dct [] xs) h))) := by
  refine pe_dnewK.imp fun σ H Q t q hq => ?_
  obtain ⟨R, G, μ, Γ, h, S, g⟩ := t
  obtain ⟨S1, X1⟩ := S.lay (o := .dK []) hq
  obtain ⟨f1, f2, f3, f4⟩ := fresh_own S hq
  exact g _ _ _ _ S1 X1 ⟨q, .dct [] [], rfl, rfl, ⟨[], upd_same, rfl, RDs.nil⟩, f1, f2, f3, f4⟩
theorem s_dctF {ks : List Key} {keys : List (Option Expr)} {vals : List Expr} {el : List Slot → List Cell → Out (List D)} (hp : DP X ca W p ks keys vals el) (hnd : ks.Nodup) (h15 : ks.length ≤ 15) (hl : keys.length = ks.length) (hl2 : vals.length = ks.length)
    (hall : keys.all (·.isSome) = true) (hlen : ∀ Γ h ds h', el Γ h = some (.ok ds h') → ds.length = ks.length) (h0 : keys ≠ []) :
    PE X (.Dict keys vals p) (tI X.K ca W (ρF X.K) (fun Γ h => bnd (el Γ h) fun xs h => some (.ok (.dct ks xs) h))) := by
  · obtain ⟨trs, p1, p2⟩ := hp
    refine (pe_disp p1 hall (hl.trans hl2.symm) h0 (by omega)).imp fun σ H Q t q hq => ?_
    obtain ⟨R, G, μ, Γ, h, S, g⟩ := t
    obtain ⟨S1, X1⟩ := S.lay (o := .dK []) hq
    obtain ⟨f1, f2, f3, f4⟩ := fresh_own S hq
    have S2 := S1.addF (o := .dK []) upd_same f1 f3 f4
    refine p2 σ _ _ G μ Γ h _ S2 ?_ (hlen Γ h)
    have g' := ((Go.bind (ρ := ρL X.K) g).shift X1).addF (o := .dK []) f2 (C := fun vs H2 => vs.length = ks.length → H2 q = some (.dK []) ∧ ∃ kvs : List (Key × V), (ks.map kV).zip vs = kvs.map (fun kv => (kV kv.1, kv.2)) ∧ kvs.length ≤ 15 ∧ Q (.ref q) (upd H2 q (.dK (mergeK [] kvs))))
    refine g' fun ds h' vs G' μ' H' er S3 X3 r3 hv => ?_
    have hq2 : H' q = some (.dK []) := S3.fh q _ upd_same
    have S4 := S3.subF (F := R.F) (Same.new f2)
    obtain ⟨z1, z2, z3⟩ := zip_rel (K := X.K) (G := G) (μ := μ) hv
    refine ⟨hq2, ks.zip vs, z1, by rw [List.length_zip]; omega, ?_⟩
    have em : mergeK [] (ks.zip vs) = ks.zip vs := by
      rw [merge_nodup [] _ (by rw [List.nil_append, z2]; exact hnd)]
      rfl
    rw [em]
    simp only [er] at g
    have q4 : G' q = none ∧ q ∉ μ' ∧ ∀ (i : Nat) (c : Cell), Γ[i]? = some (.own c) → σ[i]? ≠ some (some (.ref q)) := by
      refine ⟨?_, fun z => ?_, f4⟩
      · cases zz : G' q with
        | none => rfl
        | some u =>
          rcases S3.gf q (by rw [zz]; simp) with y | y
          · exact absurd (S.g0.free f1) y
          · have y' : upd R.F q (.dK []) q = none := y
            rw [upd_same] at y'
            cases y'
      · have y' : upd R.F q (.dK []) q = none := S3.mf q z
        rw [upd_same] at y'
        cases y'
    obtain ⟨S5, X5⟩ := S4.over (o := .dK (ks.zip vs)) q4.1 f2 q4.2.1 q4.2.2
    refine (Go.shift g X1 : Go X.K ca W R Γ σ (ρF X.K) G μ _ (some (.ok (.dct ks ds) h')) Q) _ G' μ' _ S5 (X3.trans X5) ⟨q, .dct ks ds, rfl, rfl, ⟨ks.zip vs, upd_same, z2, by rw [z3]; exact r3⟩, q4.1, f2, q4.2.1, q4.2.2⟩

/-! ### what is walked -/
/-- J gives the items, while what is frozen stays -/
def WalkD (K : PySem.W.Frag) (lk : Hp) (J : It) (its : List D) (G1 : Hp) (μ1 : List Addr) : Prop :=
  ∀ (i : Nat) (R : Fr) (G : Hp) (μ : List Addr) (Γ : List Slot) (h : List Cell) (σ : L2.St) (H : Hp), R.lk = lk → Sim K R G μ Γ h σ H → Same G1 G → μ1 <+: μ →
    (∀ d, its[i]? = some d → J.go i H ∧ ∀ x H', J.yld i H x H' → ∃ G', Sim K R G' μ Γ h σ H' ∧ Ext Γ σ G μ H G' μ H' ∧ RD K G' μ d x ∧ Same H H') ∧ (i = its.length → J.stop i H)
theorem walk_to {K : PySem.W.Frag} {lk : Hp} {J : It} {its : List D} {G1 : Hp} {μ1 : List Addr} {vs : List V} {P : Hp → Prop} (t : RDs K G1 μ1 its vs) (w : Walk J vs.length P (YAt vs)) (hP : ∀ G H, Same G1 G → Same G H → P H) : WalkD K lk J its G1 μ1 := by
  intro i R G μ Γ h σ H _ S gg mm
  have p := hP G H gg S.gh
  refine ⟨fun d hd => ?_, fun e => ?_⟩
  · obtain ⟨v, hv, rv⟩ := t.at hd
    have hi : i < vs.length := (List.getElem?_eq_some_iff.mp hv).1
    refine ⟨w.goes i H hi p, fun x H' y => ?_⟩
    obtain ⟨e1, e2⟩ := w.yields i H x H' hi p y
    subst e1
    rw [hv] at e2
    cases e2
    exact ⟨G, S, .refl, rv.mono gg mm, Same.refl _⟩
  · have e' : i = vs.length := by rw [e, t.len]
    subst e'
    exact w.stops H p
theorem walk_pairs {K : PySem.W.Frag} {lk : Hp} {J : It} {ds : List D} {G1 : Hp} {μ1 : List Addr} {vs : List V} {P : Hp → Prop} (t : RDs K G1 μ1 ds vs) (w : Walk J vs.length P (YPair (fun i => some (.int (i : Nat))) (fun i => vs[i]?))) (hP : ∀ G H, Same G1 G → Same G H → P H) :
    WalkD K lk J (ds.mapIdx fun i d => .tup [.int i, d]) G1 μ1 := by
  intro i R G μ Γ h σ H _ S gg mm
  have p := hP G H gg S.gh
  refine ⟨fun d hd => ?_, fun e => ?_⟩
  · rw [List.getElem?_mapIdx] at hd
    cases z : ds[i]? with
    | none => rw [z] at hd; cases hd
    | some d0 =>
      rw [z] at hd
      cases hd
      obtain ⟨v, hv, rv⟩ := t.at z
      have hi : i < vs.length := (List.getElem?_eq_some_iff.mp hv).1
      refine ⟨w.goes i H hi p, fun x H' y => ?_⟩
      obtain ⟨Tt, a, b, e1, e2, e3, e4, e5⟩ := w.yields i H x H' hi p y
      subst e1 e3
      have e4 : some (V.int (i : Nat)) = some a := e4
      cases e4
      have e5 : vs[i]? = some b := e5
      rw [hv] at e5
      cases e5
      obtain ⟨S1, X1, r1⟩ := new_tup (ds := [.int (i : Nat), d0]) (by show 2 ≤ 16777216; decide) (RDs.cons (d := .int (i : Nat)) rfl (RDs.cons (rv.mono gg mm) RDs.nil)) e2 S
      exact ⟨_, S1, X1, r1, Same.new e2⟩
  · have e' : i = vs.length := by rw [e, List.length_mapIdx, t.len]
    subst e'
    exact w.stops H p
theorem walk_ints {K : PySem.W.Frag} {lk : Hp} {lo : Int} {k : Nat} {G1 : Hp} {μ1 : List Addr} : WalkD K lk (Itr lo k) ((List.range k).map fun (i : Nat) => .int (lo + (i : Int))) G1 μ1 := by
  intro i R G μ Γ h σ H _ S gg mm
  refine ⟨fun d hd => ?_, fun e => ?_⟩
  · rw [List.getElem?_map] at hd
    cases z : (List.range k)[i]? with
    | none => rw [z] at hd; cases hd
    | some j =>
      rw [z] at hd
      cases hd
      obtain ⟨h1, h2⟩ := List.getElem?_eq_some_iff.mp z
      rw [List.getElem_range] at h2
      subst h2
      rw [List.length_range] at h1
      refine ⟨h1, fun x H' y => ?_⟩
      obtain ⟨e1, e2⟩ := y
      subst e1 e2
      exact ⟨G, S, .refl, rfl, Same.refl _⟩
  · have e' : i = k := by rw [e, List.length_map, List.length_range]
    subst e'
    exact Nat.le_refl _
theorem walk_text {K : PySem.W.Frag} {lk : Hp} {z : Str} {G1 : Hp} {μ1 : List Addr} : WalkD K lk (Its z) (z.cps.toList.map fun c => .str ⟨#[c]⟩) G1 μ1 := by
  intro i R G μ Γ h σ H _ S gg mm
  refine ⟨fun d hd => ?_, fun e => ?_⟩
  · rw [List.getElem?_map] at hd
    cases q : z.cps.toList[i]? with
    | none => rw [q] at hd; cases hd
    | some c =>
      rw [q] at hd
      cases hd
      have h1 : i < z.cps.size := by
        have := (List.getElem?_eq_some_iff.mp q).1
        simpa using this
      refine ⟨h1, fun x H' y => ?_⟩
      obtain ⟨e1, c', e2, e3⟩ := y
      subst e1 e3
      have : z.cps[i]? = some c := by simpa using q
      rw [this] at e2
      cases e2
      exact ⟨G, S, .refl, ⟨rfl, by show (1 : Nat) ≤ 16777216; decide⟩, Same.refl _⟩
  · have e' : i = z.cps.size := by rw [e]; simp
    subst e'
    exact Nat.le_refl _
/-- what is locked stands -/
theorem Sim.lkd {K : PySem.W.Frag} {R : Fr} {G : Hp} {μ : List Addr} {Γ : List Slot} {h : List Cell} {σ : L2.St} {H : Hp} (S : Sim K R G μ Γ h σ H) {a : Addr} {u : HO} (e : R.lk a = some u) : H a = some u := by
  have ha := S.lm a (by rw [e]; simp)
  obtain ⟨n, hn⟩ := List.getElem?_of_mem ha
  obtain ⟨c, hc, q⟩ := S.cell_at hn
  cases c with
  | llst ds =>
    obtain ⟨vs, q1, q2, _⟩ := q
    rw [e] at q2
    cases q2
    exact q1
  | ldct ks xs =>
    obtain ⟨o, kvs, q1, q2, _⟩ := q
    rw [e] at q2
    cases q2
    exact q1
  | lst _ => rw [S.ul n a _ hn hc rfl] at e; cases e
  | dct _ _ => rw [S.ul n a _ hn hc rfl] at e; cases e
  | ins _ _ => rw [S.ul n a _ hn hc rfl] at e; cases e
/-- a locked list -/
theorem walk_lk {K : PySem.W.Frag} {lk : Hp} {J : It} {its : List D} {G1 : Hp} {μ1 : List Addr} {vs : List V} {P : Hp → Prop} {a : Addr} {u : HO} (t : RDs K G1 μ1 its vs) (w : Walk J vs.length P (YAt vs)) (e : lk a = some u) (hP : ∀ H, H a = some u → P H) : WalkD K lk J its G1 μ1 := by
  intro i R G μ Γ h σ H hl S gg mm
  subst hl
  have p := hP H (S.lkd e)
  refine ⟨fun d hd => ?_, fun e => ?_⟩
  · obtain ⟨v, hv, rv⟩ := t.at hd
    have hi : i < vs.length := (List.getElem?_eq_some_iff.mp hv).1
    refine ⟨w.goes i H hi p, fun x H' y => ?_⟩
    obtain ⟨e1, e2⟩ := w.yields i H x H' hi p y
    subst e1
    rw [hv] at e2
    cases e2
    exact ⟨G, S, .refl, rv.mono gg mm, Same.refl _⟩
  · have e' : i = vs.length := by rw [e, t.len]
    subst e'
    exact w.stops H p
theorem kD_rd {K : PySem.W.Frag} {G : Hp} {μ : List Addr} {k : Key} (h : kOk k = true) : RD K G μ (kD k) (kV k) := by
  cases k with
  | inl i => rfl
  | inr x => exact ⟨rfl, of_decide_eq_true h⟩
/-- a locked dict's keys -/
theorem walk_keys {K : PySem.W.Frag} {lk : Hp} {G1 : Hp} {μ1 : List Addr} {kvs : List (Key × V)} {a : Addr} {o : Obj} (e : lk a = some (.frz o (.dK kvs))) (hk : (kvs.map (·.1)).all kOk = true) : WalkD K lk (Itk a o kvs) ((kvs.map (·.1)).map kD) G1 μ1 := by
  intro i R G μ Γ h σ H hl S gg mm
  subst hl
  have p := S.lkd e
  refine ⟨fun d hd => ?_, fun e => ⟨p, by rw [e]; simp⟩⟩
  rw [List.getElem?_map, List.getElem?_map] at hd
  cases z : kvs[i]? with
  | none => rw [z] at hd; cases hd
  | some kv =>
    rw [z] at hd
    cases hd
    refine ⟨⟨p, (List.getElem?_eq_some_iff.mp z).1⟩, fun x H' y => ?_⟩
    obtain ⟨rfl, k, v, q1, rfl⟩ := y
    rw [z] at q1
    cases q1
    exact ⟨G, S, .refl, kD_rd (List.all_eq_true.mp hk _ (List.mem_map.mpr ⟨_, List.mem_of_getElem? z, rfl⟩)), Same.refl _⟩
theorem walk_items {K : PySem.W.Frag} {lk : Hp} {G1 : Hp} {μ1 : List Addr} {kvs : List (Key × V)} {xs : List D} {a : Addr} {o : Obj} (e : lk a = some (.frz o (.dK kvs))) (hk : (kvs.map (·.1)).all kOk = true) (t : RDs K G1 μ1 xs (kvs.map (·.2))) : WalkD K lk (Iti a o kvs) (((kvs.map (·.1)).zip xs).map fun p => .tup [kD p.1, p.2]) G1 μ1 := by
  intro i R G μ Γ h σ H hl S gg mm
  subst hl
  have p := S.lkd e
  have hlen : xs.length = kvs.length := by rw [t.len, List.length_map]
  refine ⟨fun d hd => ?_, fun e => ⟨p, by rw [e]; simp [hlen]⟩⟩
  rw [List.getElem?_map] at hd
  cases z0 : ((kvs.map (·.1)).zip xs)[i]? with
  | none => rw [z0] at hd; cases hd
  | some kx =>
    rw [z0] at hd
    cases hd
    rw [List.getElem?_zip_eq_some] at z0
    obtain ⟨y1, y2⟩ := z0
    rw [List.getElem?_map] at y1
    cases z : kvs[i]? with
    | none => rw [z] at y1; cases y1
    | some kv =>
      rw [z] at y1
      have y1 : some kv.1 = some kx.1 := y1
      injection y1 with y1
      obtain ⟨v, hv, rv⟩ := t.at y2
      rw [List.getElem?_map, z] at hv
      have hv : some kv.2 = some v := hv
      injection hv with hv
      refine ⟨⟨p, (List.getElem?_eq_some_iff.mp z).1⟩, fun x H' y => ?_⟩
      obtain ⟨Tt, k, v', q1, rfl, q2, rfl⟩ := y
      rw [z] at q1
      cases q1
      have hk1 : kOk kx.1 = true := List.all_eq_true.mp hk _ (List.mem_map.mpr ⟨_, List.mem_of_getElem? z, y1⟩)
      have rk : RD K G μ (kD kx.1) (kV kx.1) := kD_rd hk1
      obtain ⟨kx1, kx2⟩ := kx
      have y1 : k = kx1 := y1
      have hv : v' = v := hv
      subst y1 hv
      obtain ⟨S1, X1, r1⟩ := new_tup (ds := [kD k, kx2]) (by show 2 ≤ 16777216; decide) (RDs.cons rk (RDs.cons (rv.mono gg mm) RDs.nil)) q2 S
      exact ⟨_, S1, X1, r1, Same.new q2⟩
end
end DC

set_option linter.all false
set_option Elab.async false
set_option maxRecDepth 100000
set_option maxHeartbeats 4000000
/-! DExp4: sources of walks, targets, comprehensions. -/
namespace DC
open PySem L2 PySem.Spec PyProof.Rows
section
variable {T : Tb} {ca : Str → Addr} {cx : Ck} {n : Nat} {N : List Str} {W : WX} {sc : Scope} {X : Cx} {σ : L2.St} {H : Hp}
variable {l r m e tg : Expr} {p pp : Pos} {ea eb ec : List Slot → List Cell → Out D} {sa sb se : Bool}
def el1 (ea : List Slot → List Cell → Out D) : List Slot → List Cell → Out (List D) := fun Γ h => bnd (ea Γ h) fun x h => bnd (some (.ok [] h)) fun xs h => some (.ok (x :: xs) h)
theorem el1_go {R : Fr} {G : Hp} {μ : List Addr} {Γ : List Slot} {h : List Cell} {C : List V → Hp → Prop} (hs : se = true) (g : Go X.K ca W R Γ σ (ρL X.K) G μ H (el1 ea Γ h) C) : Go X.K ca W R Γ σ (ρE X.K se) G μ H (ea Γ h) (fun v H1 => C [v] H1) := by
  refine (Go.bind (ρ := ρE X.K se) g).mono fun v H1 ⟨x, h1, G1, μ1, S1, X1, r1, g1⟩ => ?_
  exact Go.val (b := [v]) g1 S1 (RDs.cons (RE.s r1 hs) RDs.nil)
/-- what is walked, by what its parts are -/
def SrcOk (X : Cx) (ca : Str → Addr) (W : WX) (k : ItK) (tg iter : Expr) (el : List Slot → List Cell → Out (List D)) : Prop :=
  ∃ wi : TI, PI X tg iter wi ∧ ∀ (σ : L2.St) (H : Hp) (R : Fr) (G : Hp) (μ : List Addr) (Γ : List Slot) (h : List Cell) (C : It → Hp → Prop), Sim X.K R G μ Γ h σ H →
    Go X.K ca W R Γ σ (ρL X.K) G μ H (el Γ h) (fun vs H1 => ∃ (ds : List D) (h1 : List Cell) (G1 : Hp) (μ1 : List Addr) (its : List D), Sim X.K R G1 μ1 Γ h1 σ H1 ∧ RDs X.K G1 μ1 ds vs ∧ itemsOf k h1 ds = some its ∧ ∀ J, WalkD X.K R.lk J its G1 μ1 → C J H1) → wi σ H C
theorem src_seq (pa : PE X e (tI X.K ca W (ρE X.K se) ea)) (hs : se = true) : SrcOk X ca W .seq tg e (el1 ea) := by
  refine ⟨_, pi_seq pa, fun σ H R G μ Γ h C S g => ⟨R, G, μ, Γ, h, S, (el1_go hs g).mono fun v H1 q => ?_⟩⟩
  obtain ⟨ds, h1, G1, μ1, its, S1, t, hi, k⟩ := q
  match ds, t, hi with
  | [.tup as], t, hi =>
    cases hi
    obtain ⟨v', r', e', r1, _⟩ := t
    cases e'
    obtain ⟨a, vs, rfl, hq, _, t1⟩ := r1
    exact ⟨a, rfl, .inr ⟨⟨vs, Same.t S1.gh hq⟩, k _ (walk_to t1 walk_tup fun G H gg gh => Same.t (gg.trans gh) hq)⟩⟩
  | [.lst as], t, hi =>
    cases hi
    obtain ⟨v', r', e', r1, _⟩ := t
    cases e'
    obtain ⟨a, vs, rfl, hq, _, t1⟩ := r1
    exact ⟨a, rfl, .inl ⟨⟨vs, .of (S1.gh _ _ hq)⟩, k _ (walk_to t1 walk_list fun G H gg gh => .of (gh _ _ (gg _ _ hq)))⟩⟩
  | [.scr as], t, hi =>
    cases hi
    obtain ⟨v', r', e', r1, _⟩ := t
    cases e'
    obtain ⟨a, vs, rfl, hq, _, t1⟩ := r1
    exact ⟨a, rfl, .inl ⟨⟨vs, S1.gh.seq hq⟩, k _ (walk_to t1 walk_list fun G H gg gh => (gg.trans gh).seq hq)⟩⟩
  | [], t, hi => cases hi
  | [.non], t, hi => cases hi
  | [.bl _], t, hi => cases hi
  | [.int _], t, hi => cases hi
  | [.str _], t, hi => cases hi
  | [.dct _ _], t, hi => cases hi
  | [.ref n], t, hi =>
    unfold itemsOf at hi
    simp only at hi
    cases z : h1[n]? with
    | none => rw [z] at hi; cases hi
    | some c =>
      rw [z] at hi
      cases c with
      | llst zs =>
        cases hi
        obtain ⟨v', r', e', r1, _⟩ := t
        cases e'
        obtain ⟨a, rfl, ha⟩ := r1
        obtain ⟨vs, q1, q2, _, t1⟩ := (show CellA X.K G1 μ1 R.lk H1 a (.llst its) from S1.cells n a _ ha z)
        exact ⟨a, rfl, .inl ⟨⟨vs, .of q1⟩, k _ (walk_lk t1 walk_list q2 fun H e => .of e)⟩⟩
      | lst _ => cases hi
      | dct _ _ => cases hi
      | ldct _ _ => cases hi
      | ins _ _ => cases hi
  | _ :: _ :: _, t, hi => simp [itemsOf] at hi
theorem key_src {R : Fr} {G1 : Hp} {μ1 : List Addr} {Γ : List Slot} {h1 : List Cell} {H1 : Hp} {ds : List D} {v : V} {σ : L2.St} (S1 : Sim X.K R G1 μ1 Γ h1 σ H1) (t : RDs X.K G1 μ1 ds [v]) {k : ItK} (hk : k = .keys ∨ k = .items) {its : List D} (hi : itemsOf k h1 ds = some its) : ∃ (a : Addr) (o : Obj) (kvs : List (Key × V)) (xs : List D), v = .ref a ∧ H1 a = some (.frz o (.dK kvs)) ∧ R.lk a = some (.frz o (.dK kvs)) ∧ (kvs.map (·.1)).all kOk = true ∧ RDs X.K G1 μ1 xs (kvs.map (·.2)) ∧
    (k = .keys → its = (kvs.map (·.1)).map kD) ∧ (k = .items → its = ((kvs.map (·.1)).zip xs).map fun p => .tup [kD p.1, p.2]) := by
  have hd : ∃ n, ds = [.ref n] := by
    obtain ⟨d, rfl⟩ : ∃ d, ds = [d] := by
      have := t.len
      match ds, this with
      | [d], _ => exact ⟨d, rfl⟩
    rcases hk with rfl | rfl <;> cases d <;> first | exact ⟨_, rfl⟩ | cases hi
  obtain ⟨n, rfl⟩ := hd
  obtain ⟨v', r', e', r1, _⟩ := t
  cases e'
  obtain ⟨a, rfl, ha⟩ := r1
  obtain ⟨c, hc, q⟩ := S1.cell_at ha
  have hl : ∃ ks ys, c = .ldct ks ys := by
    rcases hk with rfl | rfl
    all_goals
      unfold itemsOf at hi
      dsimp only at hi
      rw [hc] at hi
      cases c <;> first | exact ⟨_, _, rfl⟩ | cases hi
  obtain ⟨ks, ys, rfl⟩ := hl
  obtain ⟨o, kvs, q1, q2, q3, q4⟩ := q
  subst q3
  rcases hk with rfl | rfl
  · have hi : (match h1[n]? with
      | some (.ldct ks _) => if ks.all kOk then some (ks.map kD) else none
      | _ => none) = some its := hi
    rw [hc] at hi
    by_cases z : (kvs.map (·.1)).all kOk = true
    · have hi : (if (kvs.map (·.1)).all kOk = true then some ((kvs.map (·.1)).map kD) else none) = some its := hi
      rw [if_pos z] at hi
      cases hi
      exact ⟨a, o, kvs, ys, rfl, q1, q2, z, q4, (fun _ => rfl), fun e => by cases e⟩
    · have hi : (if (kvs.map (·.1)).all kOk = true then some ((kvs.map (·.1)).map kD) else none) = some its := hi
      rw [if_neg z] at hi
      cases hi
  · have hi : (match h1[n]? with
      | some (.ldct ks xs) => if ks.all kOk && decide (ks.length = xs.length) then some ((ks.zip xs).map fun p => .tup [kD p.1, p.2]) else none
      | _ => none) = some its := hi
    rw [hc] at hi
    have hi : (if ((kvs.map (·.1)).all kOk && decide ((kvs.map (·.1)).length = ys.length)) = true then some (((kvs.map (·.1)).zip ys).map fun p => D.tup [kD p.1, p.2]) else none) = some its := hi
    by_cases z : ((kvs.map (·.1)).all kOk && decide ((kvs.map (·.1)).length = ys.length)) = true
    · rw [if_pos z] at hi
      cases hi
      rw [Bool.and_eq_true] at z
      exact ⟨a, o, kvs, ys, rfl, q1, q2, z.1, q4, (fun e => by cases e), fun _ => rfl⟩
    · rw [if_neg z] at hi
      cases hi
theorem src_keys (pa : PE X e (tI X.K ca W (ρE X.K se) ea)) (hs : se = true) : SrcOk X ca W .keys tg e (el1 ea) := by
  refine ⟨_, pi_keys pa, fun σ H R G μ Γ h C S g => ⟨R, G, μ, Γ, h, S, (el1_go hs g).mono fun v H1 q => ?_⟩⟩
  obtain ⟨ds, h1, G1, μ1, its, S1, t, hi, k⟩ := q
  obtain ⟨a, o, kvs, xs, rfl, q1, q2, q3, q4, q5, _⟩ := key_src S1 t (.inl rfl) hi
  cases q5 rfl
  exact ⟨a, o, rfl, .inl ⟨kvs, q1, k _ (walk_keys q2 q3)⟩⟩
theorem src_items {elts : List Expr} {kk : Nat} {tpos ap cp : Pos} (pa : PE X e (tI X.K ca W (ρE X.K se) ea)) (hs : se = true) (hb : attributeBase e ("items" : Str) X.env (eval e X.env) = eval e X.env) (hl : (ap.endLine == cp.line) = true) : SrcOk X ca W .items (.Tuple elts kk tpos) (.Call (.Attribute e ("items" : Str) ap) [] [] cp) (el1 ea) := by
  refine ⟨_, pi_items pa hb hl, fun σ H R G μ Γ h C S g => ⟨R, G, μ, Γ, h, S, (el1_go hs g).mono fun v H1 q => ?_⟩⟩
  obtain ⟨ds, h1, G1, μ1, its, S1, t, hi, k⟩ := q
  obtain ⟨a, o, kvs, xs, rfl, q1, q2, q3, q4, _, q5⟩ := key_src S1 t (.inr rfl) hi
  cases q5 rfl
  exact ⟨a, o, kvs, rfl, q1, k _ (walk_items q2 q3 q4)⟩
theorem src_text (pa : PE X e (tI X.K ca W (ρE X.K se) ea)) (hs : se = true) : SrcOk X ca W .text tg e (el1 ea) := by
  refine ⟨_, pi_str pa, fun σ H R G μ Γ h C S g => ⟨R, G, μ, Γ, h, S, (el1_go hs g).mono fun v H1 q => ?_⟩⟩
  obtain ⟨ds, h1, G1, μ1, its, S1, t, hi, k⟩ := q
  match ds, t, hi with
  | [.str z], t, hi =>
    cases hi
    obtain ⟨v', r', e', r1, _⟩ := t
    cases e'
    exact ⟨z, r1.1, k _ walk_text⟩
  | [], t, hi => cases hi
  | [.non], t, hi => cases hi
  | [.bl _], t, hi => cases hi
  | [.int _], t, hi => cases hi
  | [.tup _], t, hi => cases hi
  | [.lst _], t, hi => cases hi
  | [.scr _], t, hi => cases hi
  | [.dct _ _], t, hi => cases hi
  | [.ref _], t, hi => cases hi
  | _ :: _ :: _, t, hi => simp [itemsOf] at hi
variable {el : List Slot → List Cell → Out (List D)}
theorem src_range1 (O : XOk T ca cx n N W sc X) (hg : glB sc ("range" : Str) = true) (pa : PA X [l] (tI X.K ca W (ρL X.K) el)) (hs : isStar l = false) : SrcOk X ca W .range1 tg (.Call (.Name ("range" : Str) pp) [l] [] p) el := by
  obtain ⟨h1, h2⟩ := gl_of O hg
  refine ⟨_, pi_range1 h1 (blt_of O (x := "range") (by decide)) pa (star_of hs [] X.env), fun σ H R G μ Γ h C S g => ⟨R, G, μ, Γ, h, S, g.mono fun vs H1 q => ?_⟩⟩
  obtain ⟨ds, h1, G1, μ1, its, S1, t, hi, k⟩ := q
  match ds, t, hi with
  | [.int i], t, hi =>
    obtain ⟨v', r', e', r1, r2⟩ := t
    subst e'
    cases (show r' = [] from r2)
    cases (show v' = .int i from r1)
    unfold itemsOf at hi
    simp only at hi
    split at hi
    · rename_i hz
      cases hi
      refine ⟨i, rfl, by omega, by omega, k _ ?_⟩
      have := walk_ints (K := X.K) (lk := R.lk) (lo := 0) (k := i.toNat) (G1 := G1) (μ1 := μ1)
      simpa using this
    · cases hi
  | [], t, hi => cases hi
  | [.non], t, hi => cases hi
  | [.bl _], t, hi => cases hi
  | [.str _], t, hi => cases hi
  | [.tup _], t, hi => cases hi
  | [.lst _], t, hi => cases hi
  | [.scr _], t, hi => cases hi
  | [.dct _ _], t, hi => cases hi
  | [.ref _], t, hi => cases hi
  | _ :: _ :: _, t, hi => simp [itemsOf] at hi
theorem src_range2 (O : XOk T ca cx n N W sc X) (hg : glB sc ("range" : Str) = true) (pa : PA X [l, r] (tI X.K ca W (ρL X.K) el)) (hs : isStar l = false) (hs2 : isStar r = false) : SrcOk X ca W .range2 tg (.Call (.Name ("range" : Str) pp) [l, r] [] p) el := by
  obtain ⟨h1, h2⟩ := gl_of O hg
  refine ⟨_, pi_range2 h1 (blt_of O (x := "range") (by decide)) pa (by rw [star_of hs, star_of hs2]; rfl) (star_of hs2 [] X.env), fun σ H R G μ Γ h C S g => ⟨R, G, μ, Γ, h, S, g.mono fun vs H1 q => ?_⟩⟩
  obtain ⟨ds, h1, G1, μ1, its, S1, t, hi, k⟩ := q
  have hd : ∃ i j, ds = [.int i, .int j] := by
    match ds, hi with
    | [], hi => cases hi
    | [x], hi => simp [itemsOf] at hi
    | x :: y :: z :: r, hi => simp [itemsOf] at hi
    | [x, y], hi => cases x <;> cases y <;> first | exact ⟨_, _, rfl⟩ | cases hi
  obtain ⟨i, j, rfl⟩ := hd
  obtain ⟨v', r', e', r1, v2, r2, e2, r3, r4⟩ := t
  subst e' e2
  cases (show r2 = [] from r4)
  cases (show v' = .int i from r1)
  cases (show v2 = .int j from r3)
  unfold itemsOf at hi
  simp only at hi
  split at hi
  · rename_i hz
    cases hi
    exact ⟨i, j, rfl, ⟨by omega, by omega, by omega, by omega⟩, k _ walk_ints⟩
  · cases hi
theorem src_enum (O : XOk T ca cx n N W sc X) {elts : List Expr} {kk : Nat} {tpos : Pos} (hg : glB sc ("enumerate" : Str) = true) (pa : PA X [l] (tI X.K ca W (ρL X.K) el)) (hs : isStar l = false) : SrcOk X ca W .enum (.Tuple elts kk tpos) (.Call (.Name ("enumerate" : Str) pp) [l] [] p) el := by
  obtain ⟨h1, h2⟩ := gl_of O hg
  refine ⟨_, pi_enumA h1 (blt_of O (x := "enumerate") (by decide)) pa (star_of hs [] X.env), fun σ H R G μ Γ h C S g => ⟨R, G, μ, Γ, h, S, g.mono fun vs H1 q => ?_⟩⟩
  obtain ⟨ds, h1, G1, μ1, its, S1, t, hi, k⟩ := q
  match ds, t, hi with
  | [.tup as], t, hi =>
    cases hi
    obtain ⟨v', r', e', r1, r2⟩ := t
    subst e'
    cases (show r' = [] from r2)
    obtain ⟨a, vs, rfl, hq, _, t1⟩ := r1
    exact ⟨a, vs, rfl, .inr ⟨Same.t S1.gh hq, k _ (walk_pairs t1 walk_enumT fun G H gg gh => Same.t (gg.trans gh) hq)⟩⟩
  | [.lst as], t, hi =>
    cases hi
    obtain ⟨v', r', e', r1, r2⟩ := t
    subst e'
    cases (show r' = [] from r2)
    obtain ⟨a, vs, rfl, hq, _, t1⟩ := r1
    exact ⟨a, vs, rfl, .inl ⟨.of (S1.gh _ _ hq), k _ (walk_pairs t1 walk_enum fun G H gg gh => .of (gh _ _ (gg _ _ hq)))⟩⟩
  | [], t, hi => cases hi
  | [.non], t, hi => cases hi
  | [.bl _], t, hi => cases hi
  | [.int _], t, hi => cases hi
  | [.str _], t, hi => cases hi
  | [.scr _], t, hi => cases hi
  | [.dct _ _], t, hi => cases hi
  | [.ref _], t, hi => cases hi
  | _ :: _ :: _, t, hi => simp [itemsOf] at hi

/-! ### targets -/
/-- names, one behind the other -/
def gNames : List Nat → TGs
  | [] => gNil
  | i :: is => gCons (gName i) (gNames is)
/-- a target's reading -/
def tgG (K : PySem.W.Frag) : Tg → TG
  | .one i => gName i
  | .tup is => gTup K is.length (gNames is)
theorem wipe_get {σ : L2.St} : ∀ {l : List Nat} {j : Nat}, (wipe σ l)[j]? = if j ∈ l ∧ j < σ.length then some none else σ[j]?
  | [], j => by simp [wipe]
  | i :: l, j => by
    unfold wipe
    by_cases hij : i = j
    · subst hij
      by_cases hlt : i < σ.length
      · rw [List.getElem?_set_self (by rw [wipe_length]; exact hlt), if_pos ⟨List.mem_cons_self, hlt⟩]
      · rw [if_neg (fun z => hlt z.2), List.getElem?_eq_none (by rw [List.length_set, wipe_length]; omega), List.getElem?_eq_none (by omega)]
    · rw [List.getElem?_set_ne hij, wipe_get]
      have : (j ∈ l ∧ j < σ.length) ↔ (j ∈ i :: l ∧ j < σ.length) := by
        constructor
        · intro z
          exact ⟨List.mem_cons_of_mem _ z.1, z.2⟩
        · intro z
          rcases List.mem_cons.mp z.1 with e | e
          · exact absurd e.symm hij
          · exact ⟨e, z.2⟩
      by_cases hc : j ∈ l ∧ j < σ.length
      · rw [if_pos hc, if_pos (this.mp hc)]
      · rw [if_neg hc, if_neg (fun z => hc (this.mpr z))]
theorem wipe_set {σ : L2.St} {own : List Nat} {i : Nat} {x : Option V} (hi : i ∈ own) : wipe (σ.set i x) own = wipe σ own := by
  apply List.ext_getElem?
  intro j
  rw [wipe_get, wipe_get, List.length_set]
  by_cases hc : j ∈ own ∧ j < σ.length
  · rw [if_pos hc, if_pos hc]
  · rw [if_neg hc, if_neg hc]
    by_cases hij : i = j
    · subst hij
      have : ¬ i < σ.length := fun z => hc ⟨hi, z⟩
      rw [List.getElem?_eq_none (by rw [List.length_set]; omega), List.getElem?_eq_none (by omega)]
    · rw [List.getElem?_set_ne hij]
theorem pgs_names (O : XOk T ca cx n N W sc X) : ∀ {is : List Nat} {es : List Expr}, chkNames N sc is es = true → PGs X es (gNames is)
  | [], [], _ => pgs_nil
  | [], _ :: _, h => by simp [chkNames] at h
  | i :: is, [], h => by simp [chkNames] at h
  | i :: is, e :: es, h => by
    cases e <;> first | (simp [chkNames] at h; done) | skip
    rename_i x p
    unfold chkNames at h
    simp only [Bool.and_eq_true] at h
    obtain ⟨h1, h2, h3⟩ := tgt_loc O h.1
    exact pgs_cons (pg_name (by rw [O.hN]; exact O.nd) h1 h2 h3) (pgs_names O h.2)
theorem names_len : ∀ {is : List Nat} {es : List Expr}, chkNames N sc is es = true → es.length = is.length
  | [], [], _ => rfl
  | [], _ :: _, h => by simp [chkNames] at h
  | i :: is, [], h => by simp [chkNames] at h
  | i :: is, e :: es, h => by
    cases e <;> first | (simp [chkNames] at h; done) | skip
    unfold chkNames at h
    simp only [Bool.and_eq_true] at h
    simp [names_len h.2]
theorem names_each : ∀ {is : List Nat} {es : List Expr}, chkNames N sc is es = true → ∀ env : Env, (assignEach es env).length = es.length ∧ (assignEach es env).findIdx? (·.1) = none
  | [], [], _, env => ⟨rfl, rfl⟩
  | [], _ :: _, h, env => by simp [chkNames] at h
  | i :: is, [], h, env => by simp [chkNames] at h
  | i :: is, e :: es, h, env => by
    cases e <;> first | (simp [chkNames] at h; done) | skip
    unfold chkNames at h
    simp only [Bool.and_eq_true] at h
    obtain ⟨h1, h2⟩ := names_each h.2 env
    refine ⟨?_, ?_⟩
    · simp [assignEach, h1]
    · simp [assignEach, List.findIdx?_cons, h2]
theorem names_set {K : PySem.W.Frag} {R : Fr} {G : Hp} {μ : List Addr} {h : List Cell} : ∀ {is : List Nat} {ds : List D} {vs : List V} {Γ Γ' : List Slot} {σ : L2.St} {C : L2.St → Hp → Prop}, Sim K R G μ Γ h σ H → RDs K G μ ds vs → setAll is ds Γ = some Γ' →
    (∀ σ', Sim K R G μ Γ' h σ' H → (∀ own : List Nat, (is.all fun i => decide (i ∈ own)) = true → (∀ j, j ∉ own → σ'[j]? = σ[j]? ∧ Γ'[j]? = Γ[j]?) ∧ wipe σ' own = wipe σ own) → C σ' H) → gNames is vs σ H C
  | [], [], vs, Γ, Γ', σ, C, S, t, e, k => by
    cases e
    exact ⟨t, k σ S fun own _ => ⟨fun j _ => ⟨rfl, rfl⟩, rfl⟩⟩
  | [], _ :: _, vs, Γ, Γ', σ, C, S, t, e, k => by cases e
  | i :: is, [], vs, Γ, Γ', σ, C, S, t, e, k => by cases e
  | i :: is, d :: ds, vs, Γ, Γ', σ, C, S, t, e, k => by
    obtain ⟨v, r, ev, h1, h2⟩ := t
    refine ⟨v, r, ev, names_set (S.set h1) h2 e fun σ' S' ho => k σ' S' fun own hall => ?_⟩
    rw [List.all_cons, Bool.and_eq_true] at hall
    have hi : i ∈ own := of_decide_eq_true hall.1
    obtain ⟨k1, k2⟩ := ho own hall.2
    refine ⟨fun j hj => ?_, k2.trans (wipe_set hi)⟩
    have : i ≠ j := fun z => hj (z ▸ hi)
    obtain ⟨a1, a2⟩ := k1 j hj
    exact ⟨a1.trans (List.getElem?_set_ne this), a2.trans (List.getElem?_set_ne this)⟩
theorem setAll_len : ∀ {is : List Nat} {ds : List D} {Γ Γ' : List Slot}, setAll is ds Γ = some Γ' → ds.length = is.length
  | [], [], Γ, Γ', _ => rfl
  | [], _ :: _, Γ, Γ', e => by cases e
  | i :: is, [], Γ, Γ', e => by cases e
  | i :: is, d :: ds, Γ, Γ', e => by
    have : setAll is ds (Γ.set i (.val d)) = some Γ' := e
    simp [setAll_len this]
theorem tg_pg (O : XOk T ca cx n N W sc X) {t : Tg} {tg : Expr} (h : chkTg N sc t tg = true) : PG X tg (tgG X.K t) := by
  cases t with
  | one i =>
    cases tg <;> first | exact absurd h Bool.false_ne_true | skip
    rename_i x p
    obtain ⟨h1, h2, h3⟩ := tgt_loc O (show tgtB N sc i x = true from h)
    exact pg_name (by rw [O.hN]; exact O.nd) h1 h2 h3
  | tup is =>
    cases tg <;> first | exact absurd h Bool.false_ne_true | skip
    rename_i es kk p
    have h : chkNames N sc is es = true := h
    obtain ⟨h1, h2⟩ := names_each h X.env
    exact pg_tup O.calm (pgs_names O h) (by rw [h1, names_len h]) h2
/-- what a target stores; the slots that it does not name stay -/
theorem tg_go {K : PySem.W.Frag} {R : Fr} {G : Hp} {μ : List Addr} {Γ Γ' : List Slot} {h : List Cell} {d : D} {v : V} {C : L2.St → Hp → Prop} {t : Tg} (S : Sim K R G μ Γ h σ H) (r : RD K G μ d v) (e : setTg t d Γ = some Γ')
    (k : ∀ σ', Sim K R G μ Γ' h σ' H → (∀ own : List Nat, tgIn t own = true → (∀ j, j ∉ own → σ'[j]? = σ[j]? ∧ Γ'[j]? = Γ[j]?) ∧ wipe σ' own = wipe σ own) → C σ' H) : tgG K t v σ H C := by
  cases t with
  | one i =>
    cases e
    refine k _ (S.set r) fun own ho => ?_
    have hi : i ∈ own := of_decide_eq_true ho
    refine ⟨fun j hj => ?_, wipe_set hi⟩
    have : i ≠ j := fun z => hj (z ▸ hi)
    exact ⟨List.getElem?_set_ne this, List.getElem?_set_ne this⟩
  | tup is =>
    cases d <;> first | (cases e; done) | skip
    rename_i ds
    obtain ⟨a, vs, rfl, hq, hz, t⟩ := r
    have e' : setAll is ds Γ = some Γ' := e
    exact ⟨a, vs, rfl, Same.t S.gh hq, by rw [← t.len, setAll_len e'], names_set S t e' k⟩
end
end DC

set_option linter.all false
set_option Elab.async false
set_option maxRecDepth 100000
set_option maxHeartbeats 4000000
/-! DLc: list comprehensions. -/
namespace DC
open PySem L2 PySem.Spec PyProof.Rows
section
variable {T : Tb} {ca : Str → Addr} {cx : Ck} {n : Nat} {N : List Str} {W : WX} {sc : Scope} {X : Cx} {σ : L2.St} {H : Hp}
theorem wipeS_ne {Γ : List Slot} : ∀ {l : List Nat} {j : Nat}, j ∉ l → (wipeS Γ l)[j]? = Γ[j]?
  | [], j, _ => rfl
  | i :: l, j, h => by
    have h1 : i ≠ j := fun z => h (z ▸ List.mem_cons_self)
    have h2 : j ∉ l := fun z => h (List.mem_cons_of_mem _ z)
    unfold wipeS
    rw [List.getElem?_set_ne h1, wipeS_ne h2]
theorem wipe_ne {σ : L2.St} : ∀ {l : List Nat} {j : Nat}, j ∉ l → (L2.wipe σ l)[j]? = σ[j]?
  | [], j, _ => rfl
  | i :: l, j, h => by
    have h1 : i ≠ j := fun z => h (z ▸ List.mem_cons_self)
    have h2 : j ∉ l := fun z => h (List.mem_cons_of_mem _ z)
    unfold L2.wipe
    rw [List.getElem?_set_ne h1, wipe_ne h2]
theorem wipe_wipe {σ : L2.St} {l : List Nat} : L2.wipe (L2.wipe σ l) l = L2.wipe σ l := by
  apply List.ext_getElem?
  intro j
  rw [wipe_get, wipe_length]
  by_cases hc : j ∈ l ∧ j < σ.length
  · rw [if_pos hc, wipe_get, if_pos hc]
  · rw [if_neg hc]
theorem wipeOk_not {Γ : List Slot} {own : List Nat} (h : wipeOk Γ own = true) {i : Nat} {c : Cell} (e : Γ[i]? = some (.own c)) : i ∉ own := by
  intro z
  unfold wipeOk at h
  rw [List.all_eq_true] at h
  have := h i z
  rw [e] at this
  cases this
/-- the outer state again, behind a block that left its owned slots -/
theorem Sim.outer {K : PySem.W.Frag} {R R' : Fr} {G G' : Hp} {μ μ' : List Addr} {Γ Γ' : List Slot} {h h' : List Cell} {σ σ' : L2.St} {H H' : Hp} (S : Sim K R G μ Γ h σ H) (S' : Sim K R' G' μ' Γ' h' σ' H') (hF : Same R.F R'.F) (h0 : R'.G0 = R.G0) (hm0 : R'.μ0 = R.μ0) (hlk : R'.lk = R.lk)
    (gg : Same G G') (mm : μ <+: μ') (hown : ∀ (i : Nat) (c : Cell), Γ[i]? = some (.own c) → Γ'[i]? = Γ[i]? ∧ σ'[i]? = σ[i]?) : Sim K R G' μ' Γ h' σ H' := by
  have S2 := S'.subF hF
  rw [h0, hm0, hlk] at S2
  refine ⟨S2.gh, S2.fh, S2.g0, S2.m0, S2.gf, S2.mf, S2.mg, S2.nd, S2.len, S2.cells, S2.ul, S2.lm, S.slen, fun i s e => ?_, S.dist⟩
  cases s with
  | no => trivial
  | val d =>
    obtain ⟨v, e1, r⟩ := S.slots i _ e
    exact ⟨v, e1, r.mono gg mm⟩
  | own c =>
    obtain ⟨e1, e2⟩ := hown i c e
    have q := S2.slots i _ (e1.trans e)
    rw [e2] at q
    exact q
variable {k : ItK} {tg : Expr} {iter : Expr} {ifs : List Expr} {elt : Expr} {scope : Scope} {own : List Nat} {t : Tg} {p : Pos} {el : List Slot → List Cell → Out (List D)} {ec ee : List Slot → List Cell → Out D} {st : Bool}
abbrev WF : WX := fun _ _ _ _ => False
/-- the tests' reading -/
def condT (K : PySem.W.Frag) (ca : Str → Addr) (ifs : List Expr) (ec : List Slot → List Cell → Out D) : TT := match ifs with
  | [] => tYes
  | _ => tI K ca WF ρB (fun Γ h => toB (ec Γ h))
theorem cond_go {K : PySem.W.Frag} (h0 : ifs = [] → ∀ Γ h, ec Γ h = some (.ok (.bl true) h)) (σ : L2.St) (H : Hp) (R : Fr) (G : Hp) (μ : List Addr) (Γ : List Slot) (h : List Cell) (Q : Bool → Hp → Prop) (S : Sim K R G μ Γ h σ H) (g : Go K ca WF R Γ σ ρB G μ H (toB (ec Γ h)) Q) : condT K ca ifs ec σ H Q := by
  cases ifs with
  | nil =>
    rw [h0 rfl] at g
    exact Go.val (b := true) g S rfl
  | cons _ _ => exact ⟨R, G, μ, Γ, h, S, g⟩
abbrev lcF (t : Tg) (own : List Nat) (Γ : List Slot) (ec ee : List Slot → List Cell → Out D) : D → List Cell → Out (Option D) := fun d h => match setTg t d (wipeS Γ own) with
  | some Γ' => bnd (ec Γ' h) fun b h => match b with
    | .bl true => bnd (ee Γ' h) fun y h => some (.ok (some y) h)
    | .bl false => some (.ok none h)
    | _ => none
  | none => none
def optC (y : Option D) (ys : List D) : List D := match y with
  | some y => y :: ys
  | none => ys
theorem lc_turn {f : D → List Cell → Out (Option D)} {d : D} {ds : List D} {h : List Cell} {rest : List D} {hf : List Cell} (e : lcL f (d :: ds) h = some (.ok rest hf)) : ∃ y h1 rest', f d h = some (.ok y h1) ∧ lcL f ds h1 = some (.ok rest' hf) ∧ rest = optC y rest' := by
  unfold lcL at e
  cases z : f d h with
  | none => rw [z] at e; cases e
  | some r =>
    rw [z] at e
    cases r with
    | exc _ _ => cases e
    | ok y h1 =>
      have e : bnd (lcL f ds h1) (fun ys h2 => some (.ok (optC y ys) h2)) = some (.ok rest hf) := e
      cases z2 : lcL f ds h1 with
      | none => rw [z2] at e; cases e
      | some r =>
        rw [z2] at e
        cases r with
        | exc _ _ => cases e
        | ok rest' h2 =>
          have e : some (Res.ok (optC y rest') h2) = some (.ok rest hf) := e
          injection e with e
          injection e with e1 e2
          subst e2
          exact ⟨y, h1, rest', rfl, z2, e1.symm⟩
theorem lc_f {Γ : List Slot} {d : D} {h h1 : List Cell} {y : Option D} (e : lcF t own Γ ec ee d h = some (.ok y h1)) : ∃ Γ' b h2, setTg t d (wipeS Γ own) = some Γ' ∧ ec Γ' h = some (.ok (.bl b) h2) ∧ (if b = true then ∃ v, ee Γ' h2 = some (.ok v h1) ∧ y = some v else y = none ∧ h1 = h2) := by
  unfold lcF at e
  cases z : setTg t d (wipeS Γ own) with
  | none => rw [z] at e; cases e
  | some Γ' =>
    rw [z] at e
    simp only at e
    cases z2 : ec Γ' h with
    | none => rw [z2] at e; cases e
    | some r =>
      rw [z2] at e
      cases r with
      | exc _ _ => cases e
      | ok b h2 =>
        unfold bnd at e
        simp only at e
        cases b with
        | bl b =>
          cases b with
          | false =>
            simp only at e
            injection e with e
            injection e with e1 e2
            exact ⟨Γ', false, h2, rfl, z2, e1.symm, e2.symm⟩
          | true =>
            simp only at e
            cases z3 : ee Γ' h2 with
            | none => rw [z3] at e; cases e
            | some r =>
              rw [z3] at e
              cases r with
              | exc _ _ => cases e
              | ok v h3 =>
                simp only at e
                injection e with e
                injection e with e1 e2
                subst e2
                exact ⟨Γ', true, h2, rfl, z2, v, z3, e1.symm⟩
        | _ => cases e
/-- the state at a turn's begin -/
def LcP (K : PySem.W.Frag) (R : Fr) (Γ : List Slot) (σ : L2.St) (Da : Addr) (G1 : Hp) (μ1 : List Addr) (H0 : Hp) (f : D → List Cell → Out (Option D)) (its full : List D) (hf : List Cell) (i : Nat) (H : Hp) : Prop :=
  ∃ (G : Hp) (μ : List Addr) (h : List Cell) (acc : List V) (ys rest : List D), Sim K R G μ Γ h σ H ∧ Ext Γ σ G1 μ1 H0 G μ H ∧ H Da = some (.lst acc) ∧ RDs K G μ ys acc ∧ G Da = none ∧ Da ∉ μ ∧ lcL f (its.drop i) h = some (.ok rest hf) ∧ full = ys ++ rest
theorem lc_step {tt : TT} {R : Fr} {Γ : List Slot} {Da : Addr} {G1 : Hp} {μ1 : List Addr} {H0 : Hp} {its full : List D} {hf : List Cell} {J : It} {K : PySem.W.Frag}
    (htk : ∀ (σ : L2.St) (H : Hp) (R : Fr) (G : Hp) (μ : List Addr) (Γ : List Slot) (h : List Cell) (Q : Bool → Hp → Prop), Sim K R G μ Γ h σ H → Go K ca WF R Γ σ ρB G μ H (toB (ec Γ h)) Q → tt σ H Q)
    (hin : tgIn t own = true) (hs : st = true) (hw : wipeOk Γ own = true) (hR : R.F Da = none) (hfo : ∀ (i : Nat) (c : Cell), Γ[i]? = some (.own c) → σ[i]? ≠ some (some (.ref Da)))
    (hJ : WalkD K R.lk J its G1 μ1) (hfull : full.length ≤ maxLen) {i : Nat} {H : Hp} (hi : i < its.length) (hp : LcP K R Γ σ Da G1 μ1 H0 (lcF t own Γ ec ee) its full hf i H) :
    J.go i H ∧ ∀ x H', J.yld i H x H' → tgG K t x (wipe σ own) H' fun σ2 H2 => wipe σ2 own = wipe σ own ∧ tt σ2 H2 fun b H3 =>
      if b = true then tI K ca WF (ρE K st) ee σ2 H3 fun y H4 => ∃ acc, H4 Da = some (.lst acc) ∧ acc.length < sizeLine ∧ LcP K R Γ σ Da G1 μ1 H0 (lcF t own Γ ec ee) its full hf (i + 1) (upd H4 Da (.lst (acc ++ [y]))) else LcP K R Γ σ Da G1 μ1 H0 (lcF t own Γ ec ee) its full hf (i + 1) H3 := by
  obtain ⟨G, μ, h, acc, ys, rest, S, X0, hD, ry, gD, mD, el, ef⟩ := hp
  have Sa := S.addF hD gD mD hfo
  have S1 := Sa.wipe own
  obtain ⟨j1, _⟩ := hJ i ⟨upd R.F Da (.lst acc), R.G0, R.μ0, R.lk⟩ _ _ _ _ _ _ rfl S1 X0.gg X0.mm
  have hd : its[i]? = some its[i] := List.getElem?_eq_getElem hi
  obtain ⟨go, yl⟩ := j1 _ hd
  refine ⟨go, fun x H' y => ?_⟩
  obtain ⟨G', S2, X2, rx, sm⟩ := yl x H' y
  rw [List.drop_eq_getElem_cons hi] at el
  obtain ⟨yo, h1, rest', e1, e2, e3⟩ := lc_turn el
  obtain ⟨Γ', b, h2, f1, f2, f3⟩ := lc_f e1
  refine tg_go S2 rx f1 fun σ2 S3 ho => ?_
  obtain ⟨o1, o2⟩ := ho own hin
  refine ⟨o2.trans wipe_wipe, htk _ _ _ _ _ _ _ _ S3 ?_⟩
  unfold toB
  rw [f2]
  -- owned slots are the block's too
  have own1 : ∀ (i : Nat) (c : Cell), Γ[i]? = some (.own c) → (wipeS Γ own)[i]? = Γ[i]? ∧ (wipe σ own)[i]? = σ[i]? := fun i c e => ⟨wipeS_ne (wipeOk_not hw e), wipe_ne (wipeOk_not hw e)⟩
  have own2 : ∀ (i : Nat) (c : Cell), Γ[i]? = some (.own c) → Γ'[i]? = Γ[i]? ∧ σ2[i]? = σ[i]? := fun i c e => by
    obtain ⟨a1, a2⟩ := o1 i (wipeOk_not hw e)
    obtain ⟨b1, b2⟩ := own1 i c e
    exact ⟨a2.trans b1, a1.trans b2⟩
  have back : ∀ {G4 : Hp} {μ4 : List Addr} {h4 : List Cell} {H4 : Hp}, Sim K ⟨upd R.F Da (.lst acc), R.G0, R.μ0, R.lk⟩ G4 μ4 Γ' h4 σ2 H4 → Ext Γ' σ2 G' μ H' G4 μ4 H4 → Sim K R G4 μ4 Γ h4 σ H4 ∧ Ext Γ σ G μ H G4 μ4 H4 ∧ H4 Da = some (.lst acc) ∧ G4 Da = none ∧ Da ∉ μ4 := fun {G4 μ4 h4 H4} S4 X4 => by
    have gg := X2.gg.trans X4.gg
    have mm := X4.mm
    refine ⟨Sim.outer S S4 (Same.new hR) rfl rfl rfl gg mm own2, ⟨gg, mm, fun i c a q1 q2 => ?_⟩, S4.fh Da _ upd_same, ?_, fun z => ?_⟩
    · obtain ⟨a1, a2⟩ := own1 i c q1
      obtain ⟨b1, b2⟩ := own2 i c q1
      exact (X4.own i c a (b1.trans q1) (b2.trans q2)).trans (X2.own i c a (a1.trans q1) (a2.trans q2))
    · cases zz : G4 Da with
      | none => rfl
      | some u =>
        rcases S4.gf Da (by rw [zz]; simp) with y | y
        · exact absurd (S.g0.free gD) y
        · have y' : upd R.F Da (.lst acc) Da = none := y
          rw [upd_same] at y'
          cases y'
    · have y' : upd R.F Da (.lst acc) Da = none := S4.mf Da z
      rw [upd_same] at y'
      cases y'
  intro b' G3 μ3 H3 S4 X4 eb
  cases (show b = b' from eb)
  have lenD : its.drop (i + 1) = its.drop (i + 1) := rfl
  cases b with
  | false =>
    simp only [Bool.false_eq_true, if_false] at f3 ⊢
    obtain ⟨y1, y2⟩ := f3
    subst y1 y2
    have e3 : rest = rest' := e3
    obtain ⟨B1, B2, B3, B4, B5⟩ := back S4 X4
    exact ⟨G3, μ3, _, acc, ys, rest', B1, X0.trans B2, B3, ry.mono B2.gg B2.mm, B4, B5, e2, by rw [ef, e3]⟩
  | true =>
    simp only [if_true] at f3 ⊢
    obtain ⟨v, y1, y2⟩ := f3
    subst y2
    have e3 : rest = v :: rest' := e3
    refine ⟨_, G3, μ3, Γ', h2, S4, ?_⟩
    rw [y1]
    intro w G5 μ5 H5 S5 X5 rw5
    obtain ⟨B1, B2, B3, B4, B5⟩ := back S5 (X4.trans X5)
    have hl : acc.length < maxLen := by
      have := ry.len
      have := congrArg List.length ef
      rw [e3] at this
      simp at this
      omega
    obtain ⟨S6, X6⟩ := B1.over (o := .lst (acc ++ [w])) B4 hR B5 hfo
    refine ⟨acc, B3, by rw [sl_eq]; exact hl, G5, μ5, h1, acc ++ [w], ys ++ [v], rest', S6, (X0.trans B2).trans X6, upd_same, (ry.mono B2.gg B2.mm).snoc (RE.s rw5 hs), B4, B5, e2, ?_⟩
    rw [ef, e3]
    simp
theorem own_snd : ∀ {own : List Nat}, (ownOf N own).map (·.2) = own
  | [] => rfl
  | i :: own => by
    have := own_snd (own := own)
    unfold ownOf at this ⊢
    rw [List.map_cons, List.map_cons, this]
theorem blk_outer (O : XOk T ca cx n N W sc X) {l : List (Str × Nat)} (hb : blkC N sc scope l = true) : BlkOk N X.env.scope scope l :=
  let z := blkOk_by hb
  ⟨z.kind, z.uniq, z.ix, fun y hy e => O.hsc.cf y.1 (z.free y hy e), z.own⟩
theorem blk_ok (O : XOk T ca cx n N W sc X) (hb : blkC N sc scope (ownOf N own) = true) (s : Shared) (H : Hp) (C : Addr) (cl : List (Str × Addr)) (fp : List Addr) : XOk T ca cx n N WF scope (X.blk s H scope (compEnvC scope cl C X.env) fp) :=
  ⟨O.wd, O.hN, O.nd, .blk, (blkOk_by hb).kind, O.room, fun u s' ⟨_, _, _, _, _, _, _, _, _, _, _, _, _, _, _, _, w⟩ => w.elim, .never, O.calm, fun x hx => by
    unfold locB at hx
    split at hx
    · exact .inr ((ScOk.blk (cl := cl) (C := C) (env := X.env)).lcl x (by assumption))
    · rename_i e
      exact .inl (by show (scope.names.lookup x == some .cell) = true; rw [e]; rfl)
    · cases hx⟩
/-- what the comprehension's reading asks -/
theorem lc_go {wi : TI} (hsrc : ∀ (σ : L2.St) (H : Hp) (R : Fr) (G : Hp) (μ : List Addr) (Γ : List Slot) (h : List Cell) (C : It → Hp → Prop), Sim X.K R G μ Γ h σ H →
    Go X.K ca W R Γ σ (ρL X.K) G μ H (el Γ h) (fun vs H1 => ∃ (ds : List D) (h1 : List Cell) (G1 : Hp) (μ1 : List Addr) (its : List D), Sim X.K R G1 μ1 Γ h1 σ H1 ∧ RDs X.K G1 μ1 ds vs ∧ itemsOf k h1 ds = some its ∧ ∀ J, WalkD X.K R.lk J its G1 μ1 → C J H1) → wi σ H C)
    (h0 : ifs = [] → ∀ Γ h, ec Γ h = some (.ok (.bl true) h)) (hin : tgIn t own = true) (hs : st = true) {Q : VK}
    (q : tI X.K ca W (ρF X.K) (fun Γ h => bnd (el Γ h) fun ds h => match itemsOf k h ds, wipeOk Γ own with
      | some its, true => bnd (calmO (lcL (lcF t own Γ ec ee) its h)) fun ys h => if ys.length ≤ maxLen then some (.ok (.lst ys) h) else none
      | _, _ => none) σ H Q) : tLc wi (tgG X.K t) (condT X.K ca ifs ec) (tI X.K ca WF (ρE X.K st) ee) own σ H Q := by
  obtain ⟨R, G, μ, Γ, h, S, g⟩ := q
  refine hsrc σ H R G μ Γ h _ S ((Go.bind (ρ := ρL X.K) g).mono fun vs H1 ⟨ds, h1, G1, μ1, S1, X1, r1, g1⟩ => ?_)
  cases zi : itemsOf k h1 ds with
  | none => rw [zi] at g1; exact g1.elim
  | some its =>
    cases zw : wipeOk Γ own with
    | false => rw [zi, zw] at g1; exact g1.elim
    | true =>
      rw [zi, zw] at g1
      simp only at g1
      cases zl : lcL (lcF t own Γ ec ee) its h1 with
      | none => rw [zl] at g1; exact g1.elim
      | some r =>
        rw [zl] at g1
        cases r with
        | exc _ _ => exact g1.elim
        | ok full hf =>
          have g1 : Go X.K ca W R Γ σ (ρF X.K) G1 μ1 H1 (if full.length ≤ maxLen then some (.ok (.lst full) hf) else none) Q := g1
          by_cases hz : full.length ≤ maxLen
          · rw [if_pos hz] at g1
            refine ⟨ds, h1, G1, μ1, its, S1, r1, zi, fun J hJ Da hDa => ?_⟩
            obtain ⟨S2, X2⟩ := S1.lay (o := .lst []) hDa
            obtain ⟨f1, f2, f3, f4⟩ := fresh_own S1 hDa
            refine ⟨fun i m H => m = its.length - i ∧ i ≤ its.length ∧ LcP X.K R Γ σ Da G1 μ1 H1 (lcF t own Γ ec ee) its full hf i H, ⟨its.length, by simp, Nat.zero_le _, G1, μ1, h1, [], [], full, S2, X2, upd_same, RDs.nil, f1, f3, zl, rfl⟩, ?_⟩
            rintro i m H' ⟨rfl, hi, hp⟩
            by_cases hlt : i < its.length
            · obtain ⟨go, st⟩ := lc_step (tt := condT X.K ca ifs ec) (cond_go h0) hin hs zw f2 f4 hJ hz hlt hp
              exact .inr ⟨go, _, fun H2 p2 => ⟨its.length - (i + 1), by omega, rfl, hlt, p2⟩, st⟩
            · have ei : i = its.length := by omega
              obtain ⟨G5, μ5, h5, acc, ys, rest, S5, X5, hD, ry, gD, mD, el, ef⟩ := hp
              rw [ei, List.drop_length] at el
              have el : some (Res.ok ([] : List D) h5) = some (.ok rest hf) := el
              injection el with el
              injection el with e1 e2
              subst e1 e2
              rw [List.append_nil] at ef
              subst ef
              refine .inl ⟨(hJ i R _ _ _ _ _ _ rfl S5 X5.gg X5.mm).2 ei, g1 _ G5 μ5 H' S5 X5 ⟨Da, .lst full, rfl, rfl, ⟨acc, hD, hz, ry⟩, gD, f2, mD, f4⟩⟩
          · rw [if_neg hz] at g1
            exact g1.elim
theorem s_lcF (O : XOk T ca cx n N W sc X) (hsrc : SrcOk X ca W k tg iter el) (hb : blkC N sc scope (ownOf N own) = true) (hg : chkTg N scope t tg = true)
    (ht : ∀ (s : Shared) (H : Hp) (C : Addr) (cl : List (Str × Addr)) (fp : List Addr), PTs (X.blk s H scope (compEnvC scope cl C X.env) fp) ifs (condT X.K ca ifs ec))
    (he : ∀ (s : Shared) (H : Hp) (C : Addr) (cl : List (Str × Addr)) (fp : List Addr), PE (X.blk s H scope (compEnvC scope cl C X.env) fp) elt (tI X.K ca WF (ρE X.K st) ee)) (hfs : ∀ x, foldedSetIterable iter X.env x = pure x)
    (h0 : ifs = [] → ∀ Γ h, ec Γ h = some (.ok (.bl true) h)) (hin : tgIn t own = true) (hs : st = true) :
    PE X (.ListComp elt [⟨tg, iter, ifs, 0⟩] scope p) (tI X.K ca W (ρF X.K) (fun Γ h => bnd (el Γ h) fun ds h => match itemsOf k h ds, wipeOk Γ own with
      | some its, true => bnd (calmO (lcL (lcF t own Γ ec ee) its h)) fun ys h => if ys.length ≤ maxLen then some (.ok (.lst ys) h) else none
      | _, _ => none)) := by
  obtain ⟨wi, pi, sem⟩ := hsrc
  have hblk : BlkOk X.N X.env.scope scope (ownOf N own) := by
    rw [O.hN]
    exact blk_outer O hb
  refine (pe_lc (g := tgG X.K t) O.calm (by rw [O.hN]; exact O.nd) pi hblk (fun s H C cl fp => tg_pg (blk_ok O hb s H C cl fp) hg) ht he hfs).imp fun σ H Q q => ?_
  rw [own_snd]
  exact lc_go sem h0 hin hs q
/-- y = [..] on one line, y no cell -/
theorem s_lcSet (O : XOk T ca cx n N W sc X) (hsrc : SrcOk X ca W k tg iter el) (hb : blkC N sc scope (ownOf N own) = true) (hg : chkTg N scope t tg = true)
    (ht : ∀ (s : Shared) (H : Hp) (C : Addr) (cl : List (Str × Addr)) (fp : List Addr), PTs (X.blk s H scope (compEnvC scope cl C X.env) fp) ifs (condT X.K ca ifs ec))
    (he : ∀ (s : Shared) (H : Hp) (C : Addr) (cl : List (Str × Addr)) (fp : List Addr), PE (X.blk s H scope (compEnvC scope cl C X.env) fp) elt (tI X.K ca WF (ρE X.K st) ee)) (hfs : ∀ x, foldedSetIterable iter X.env x = pure x)
    (h0 : ifs = [] → ∀ Γ h, ec Γ h = some (.ok (.bl true) h)) (hin : tgIn t own = true) (hs : st = true) {i : Nat} {y : Str} {py spos : Pos} (hy : X.N[i]? = some y) (hyl : X.env.scope.names.lookup y = some .local)
    (hsw : swapsWith (.ListComp elt [⟨tg, iter, ifs, 0⟩] scope p) (some (.Name y py)) spos.line X.env = pure true) :
    PS X (.Assign [.Name y py] (.ListComp elt [⟨tg, iter, ifs, 0⟩] scope p) spos) (tAsg (tI X.K ca W (ρF X.K) (fun Γ h => bnd (el Γ h) fun ds h => match itemsOf k h ds, wipeOk Γ own with
      | some its, true => bnd (calmO (lcL (lcF t own Γ ec ee) its h)) fun ys h => if ys.length ≤ maxLen then some (.ok (.lst ys) h) else none
      | _, _ => none)) (gName i)) := by
  obtain ⟨wi, pi, sem⟩ := hsrc
  have hblk : BlkOk X.N X.env.scope scope (ownOf N own) := by
    rw [O.hN]
    exact blk_outer O hb
  refine ⟨fun pins s σ H D I q => (ps_setLc (g := tgG X.K t) O.calm (by rw [O.hN]; exact O.nd) hy hyl hsw pi hblk (fun s H C cl fp => tg_pg (blk_ok O hb s H C cl fp) hg) ht he hfs).run pins s σ H D I ?_⟩
  rw [own_snd]
  exact lc_go sem h0 hin hs q
end
end DC

set_option linter.all false
set_option Elab.async false
set_option maxRecDepth 100000
set_option maxHeartbeats 4000000
/-! DExp5: fields, methods, new instances, get and pop, x or y, what is locked. -/
namespace DC
open PySem L2 PySem.Spec PyProof.Rows
theorem base_of {o : Expr} (h : objE o = true) (f : Str) (env : Env) (w : Sem Value) : attributeBase o f env w = w := by
  unfold attributeBase
  split
  · rename_i id _ _
    have h : (!(id == ("super" : Str))) = true := h
    have : (id != ("super" : Str)) = true := by
      rw [bne]
      exact h
    rw [this]
    simp
  · rfl
theorem look_rel {K : PySem.W.Frag} {G : Hp} {μ : List Addr} {f : Str} : ∀ {fs : List (Str × D)} {fv : List (Str × V)}, fv.map (·.1) = fs.map (·.1) → RDs K G μ (fs.map (·.2)) (fv.map (·.2)) →
    (∀ d, fs.lookup f = some d → ∃ v, fv.lookup f = some v ∧ RD K G μ d v) ∧ (fs.lookup f = none → fv.lookup f = none)
  | [], fv, h, t => by
    cases fv with
    | nil => exact ⟨(fun d e => by cases e), fun _ => rfl⟩
    | cons _ _ => simp at h
  | p :: fs, fv, h, t => by
    cases fv with
    | nil => simp at h
    | cons q fv =>
      obtain ⟨g, x⟩ := p
      obtain ⟨g', y⟩ := q
      rw [List.map_cons, List.map_cons] at h
      injection h with h1 h2
      have h1 : g' = g := h1
      subst h1
      obtain ⟨v, r, e, r1, r2⟩ := t
      rw [List.map_cons] at e
      injection e with e1 e2
      subst e2
      have e1 : y = v := e1
      subst e1
      have ih := look_rel (f := f) h2 r2
      rw [List.lookup_cons, List.lookup_cons]
      cases f == g' with
      | true => exact ⟨(fun d e => by cases e; exact ⟨y, rfl, r1⟩), fun e => by cases e⟩
      | false => exact ih
/-- an instance that is asked -/
theorem ins_at {K : PySem.W.Frag} {R : Fr} {G : Hp} {μ : List Addr} {Γ : List Slot} {h : List Cell} {σ : L2.St} {H : Hp} (S : Sim K R G μ Γ h σ H) {n : Nat} {c : Str} {fs : List (Str × D)} (e : h[n]? = some (.ins c fs)) {v : V} (r : RW K Γ σ G μ H (.ref n) v) :
    ∃ a dx fv, v = .ref a ∧ μ[n]? = some a ∧ H a = some (.ins (clsA K c) dx fv) ∧ fv.map (·.1) = fs.map (·.1) ∧ RDs K G μ (fs.map (·.2)) (fv.map (·.2)) := by
  obtain ⟨a, rfl, ha⟩ := ref_at r
  obtain ⟨dx, fv, q⟩ := (show CellA K G μ R.lk H a (.ins c fs) from S.cells n a _ ha e)
  exact ⟨a, dx, fv, rfl, ha, q⟩
section
variable {T : Tb} {ca : Str → Addr} {cx : Ck} {n : Nat} {N : List Str} {W : WX} {sc : Scope} {X : Cx} {σ : L2.St} {H : Hp}
variable {l r m e : Expr} {p pp ap cp : Pos} {ea eb ec : List Slot → List Cell → Out D} {sa sb sd se : Bool}
theorem s_attr (O : XOk T ca cx n N W sc X) {f : Str} (pa : PE X l (tI X.K ca W (ρE X.K sa) ea)) (hb : objE l = true) : PE X (.Attribute l f p) (tI X.K ca W (ρE X.K se) (fun Γ h => bnd (ea Γ h) fun x h => liftO (attrD T.fld h x f) h)) := by
  refine (pe_fld pa (base_of hb f _ _)).imp fun σ H Q t => ?_
  obtain ⟨R, G, μ, Γ, h, S, g⟩ := t
  refine ⟨R, G, μ, Γ, h, S, (Go.bind (ρ := ρE X.K sa) g).mono fun v H1 ⟨x, h1, G1, μ1, S1, X1, r1, g1⟩ => ?_⟩
  obtain ⟨d, ed, q⟩ := liftO_go g1
  unfold attrD at ed
  split at ed
  · rename_i k
    split at ed
    · rename_i c fs hc
      split at ed
      · rename_i hf
        obtain ⟨a, dx, fv, rfl, _, q1, q2, q3⟩ := ins_at S1 hc (r1 : RE X.K sa Γ σ G1 μ1 H1 (.ref k) v).w
        obtain ⟨w, w1, w2⟩ := (look_rel q2 q3).1 d ed
        obtain ⟨c1, c2⟩ := O.wd.flds c f hf
        exact ⟨a, _, dx, fv, w, rfl, q1, c1, c2, w1, q w G1 H1 S1 .refl w2⟩
      · cases ed
    · cases ed
  · cases ed
variable {es : List Expr} {el : List Slot → List Cell → Out (List D)}
theorem stars_fst : ∀ (es : List Expr) (env : Env), (starEach es env).any (·.1) = false → (starEach es env).all (fun x => !x.1) = true := by
  intro es env h
  rw [List.all_eq_true]
  intro x hx
  rw [List.any_eq_false] at h
  simpa using h x hx
theorem back_fst {pos : Pos} {l : List (Bool × Sem Value)} (h : l.all (fun x => !x.1) = true) : (backTo pos l).all (fun x => !x.1) = true := by
  cases l with
  | nil => rfl
  | cons a r => simpa [backTo] using h
theorem meth_eq {o : Expr} {m : Str} {env : Env} (hb : objE o = true) (hs : (starEach es env).any (·.1) = false) (hn : es.length < 21) (hl : (ap.endLine == cp.line) = true) :
    eval (.Call (.Attribute o m ap) es [] cp) env = (do
      let ov ← eval o env
      standAt ap.atName
      let (f, first) ← holding [ov] (getMethod ov m (do return (← importBound o env).getD true))
      callWith cp f first (backTo cp (starEach es env)) (backToKw cp (keywordEach [] env))) := by
  have few : methodCallForm (es.length + ([] : List Keyword).length) (backTo cp (starEach es env)) (backToKw cp (keywordEach [] env)) = true := by
    unfold methodCallForm
    rw [back_fst (stars_fst es env hs)]
    have : decide (es.length + ([] : List Keyword).length + (if (backToKw cp (keywordEach [] env)).isEmpty then 0 else 1) < 30) = true := by
      refine decide_eq_true ?_
      show es.length + 0 + 0 < 30
      omega
    first
      | (simp only [Bool.true_and]; exact this)
      | simpa using this
  rw [arm_eval_Call, base_of hb]
  show (do let ov ← eval o env; standAt ap.atName; methodCall o m ap cp env ov _ _ _) = _
  unfold methodCall
  rw [few]
  unfold calleeOf methodCallPos
  simp only [Bool.not_true, hl, Bool.or_true, if_true, Bool.false_or]
  rfl
/-- o.m(..) -/
theorem s_meth (O : XOk T ca cx n N W sc X) {m : Str} (pa : PE X l (tI X.K ca W (ρE X.K sa) ea)) (hb : objE l = true) (pA : PA X es (tI X.K ca W (ρL X.K) el)) (hs : (starEach es X.env).any (·.1) = false) (hcons : ∀ e r, es = e :: r → isStar e = false) (h0 : es = [] → ∀ Γ h, el Γ h = some (.ok [] h)) (hn : es.length < 21) (hl : (ap.endLine == cp.line) = true) :
    PE X (.Call (.Attribute l m ap) es [] cp) (tI X.K ca W (ρE X.K se) (fun Γ h => bnd (ea Γ h) fun x h => match methD T.meth h x m with
      | some f => bnd (el Γ h) fun xs h => callN T n f (x :: xs) h
      | none => none)) := by
  refine ⟨fun pins s σ H Q I t => ?_⟩
  obtain ⟨R, G, μ, Γ, h, S, g⟩ := t
  refine PySem.W.methodCall_KW (thn (pa.run pins s σ H _ I ⟨R, G, μ, Γ, h, S, Go.bind (ρ := ρE X.K sa) g⟩) fun u s1 ⟨x, H1, I1, rx, d, h1, G1, μ1, S1, X1, r1, g1⟩ => ?_) (meth_eq hb hs hn hl)
  cases z : methD T.meth h1 d m with
  | none => rw [z] at g1; exact g1.elim
  | some f =>
    rw [z] at g1
    dsimp only at g1
    unfold methD at z
    split at z
    · rename_i k
      split at z
      · rename_i c fs hc
        split at z
        · rename_i hnm
          have hnm : fs.lookup m = none := by simpa using hnm
          obtain ⟨a, dx, fv, rfl, ha, q1, q2, q3⟩ := ins_at S1 hc (r1 : RE X.K sa Γ σ G1 μ1 H1 (.ref k) x).w
          obtain ⟨fa, fd, ps, c1, c2, c3, c4⟩ := O.wd.mths c m f z
          obtain rfl : u = Value.ref a := rx
          refine getmeth_ok I1 q1 c1 c2 ((look_rel q2 q3).2 hnm) ?_
          have fin : ∀ (us : List Value) (s2 : Shared) (vs : List V) (H2 : Hp), Inv X pins σ H2 s2 → Vals vs us → (∃ (xs : List D) (h2 : List Cell) (G2 : Hp) (μ2 : List Addr), Sim X.K R G2 μ2 Γ h2 σ H2 ∧ Ext Γ σ G1 μ1 H1 G2 μ2 H2 ∧ RDs X.K G2 μ2 xs vs ∧ Go X.K ca W R Γ σ (ρE X.K se) G2 μ2 H2 (callN T n f (.ref k :: xs) h2) Q) →
              wpAny (model X.prog X.w) X.A (call (.ref fa) (.ref a :: us)) (EP X pins σ Q) X.xe s2 := fun us s2 vs H2 I2 rv ⟨xs, h2, G2, μ2, S2, X2, r2, g2⟩ => by
            have ha2 : μ2[k]? = some a := by
              obtain ⟨t, rfl⟩ := X2.mm
              rw [List.getElem?_append_left (List.getElem?_eq_some_iff.mp ha).1]
              exact ha
            exact run_fnS (us := .ref a :: us) (vs := .ref a :: vs) (E := WE W) c4 (O.room.mono (by omega)) c3 (passAt O.takes σ) I2 (.cons rfl rv) (go_call O S2 (RDs.cons (d := .ref k) ⟨a, rfl, ha2⟩ r2) g2)
          cases es with
          | nil =>
            rw [h0 rfl] at g1
            exact PySem.W.callWith_K0 (first := [.ref a]) I1.kIn c2.kp (fin [] s1 [] H1 I1 .nil ⟨[], h1, G1, μ1, S1, .refl, RDs.nil, g1⟩)
          | cons e0 es0 =>
            have gA := Go.bind (ρ := ρL X.K) g1
            refine PySem.W.callWith_K (first := [.ref a]) (h₀ := X.base) I1.ok.mod.kin c2.kp (thn (pA.run cp pins s1 σ H1 _ I1 ⟨R, G1, μ1, Γ, h1, S1, gA⟩) fun us s2 ⟨vs, H2, I2, rv, q2⟩ => ⟨I2.kIn, fin us s2 vs H2 I2 rv q2⟩) (star_of (hcons _ _ rfl) es0 X.env) (pair_swap _ _ ?_)
            rw [star_of (hcons _ _ rfl)] at hs
            simpa using hs
        · cases z
      · cases z
    · cases z
/-- a new instance -/
theorem run_mkS {CX : CXT} {k : Nat} {f C : Addr} {fd : FuncData} {ps : List Str} {sp : L2.Sp} {E : XK} {pins : List (Addr × Obj)} {s : Shared} {Q : VK} {us : List Value} {vs : List V} (M : Mk X.K C f) (F : FnOk X.prog X.w X.K X.mg X.base CX k f fd ps sp) (hr : Room (k + 1) X.A) (hb : Binds X.K fd ps []) (hx : PassesAt CX X σ E)
    (I : Inv X pins σ H s) (r : Vals vs us) (hh : ∀ x dx, H x = none → H dx = none → dx ≠ x → sp (.ref x :: vs) (upd (upd H dx (.own x)) x (.ins C dx [])) (fun v H2 => v = .non ∧ Q (.ref x) H2) E) : wpAny (model X.prog X.w) X.A (call (.ref C) us) (EP X pins σ Q) X.xe s := by
  have q0 := hh (s.heap.objs.size + 1) s.heap.objs.size (I.hok.fresh (Nat.le_succ _)) (I.hok.fresh (Nat.le_refl _)) (Nat.ne_of_lt (Nat.lt_succ_self _))
  have J := Inv.made (C := C) I
  have rr : Vals (V.ref (s.heap.objs.size + 1) :: vs) (Value.ref (s.heap.objs.size + 1) :: us) := .cons rfl r
  have len : (Value.ref (s.heap.objs.size + 1) :: us).length = ps.length := by
    rw [← rr.length]
    exact F.len _ _ _ _ q0
  have b := hb _ (Value.ref (s.heap.objs.size + 1) :: us) J.kIn (by rw [List.append_nil]; exact len)
  rw [List.append_nil] at b
  have run := F.run _ X.stack _ _ ⟨Value.ref (s.heap.objs.size + 1) :: us, []⟩ (Value.ref (s.heap.objs.size + 1) :: us) _ _ E (hr.make C us []) (J.env0.make C us []) b rr q0
  refine wpAny_call (make_map (f := f) I.kIn M.makes M.init (beq_iff_eq.mp M.fn) (codeAny_mono run fun res s' hq => ?_))
  match res, hq with
  | .error e, hq => exact hx pins _ _ e s' J hq
  | .ok (.ret u), hq =>
    obtain ⟨v, H', I3, rv, ev, q3⟩ := J.after hq
    subst ev
    exact ⟨rv, V.ref (s.heap.objs.size + 1), H', I3, rfl, q3⟩
theorem make_go (O : XOk T ca cx n N W sc X) {c : Str} {f : Nat} {R : Fr} {G : Hp} {μ : List Addr} {Γ : List Slot} {h : List Cell} {xs : List D} {vs : List V} {Q : VK} (S : Sim X.K R G μ Γ h σ H) (t : RDs X.K G μ xs vs)
    (g : Go X.K ca W R Γ σ (ρE X.K se) G μ H (bnd (callN T n f (.ref h.length :: xs) (h ++ [.ins c []])) fun v h' => match v with
      | .non => some (.ok (.ref h.length) h')
      | _ => none) Q) : ∀ x dx, H x = none → H dx = none → dx ≠ x → spFn X.K ca T n f (.ref x :: vs) (upd (upd H dx (.own x)) x (.ins (clsA X.K c) dx [])) (fun v H2 => v = .non ∧ Q (.ref x) H2) (WE W σ) := by
  intro x dx hx hdx hne
  obtain ⟨S1, X1⟩ := S.lay (o := .own x) hdx
  have hx1 : upd H dx (.own x) x = none := by
    rw [upd_ne (fun z => hne z.symm)]
    exact hx
  obtain ⟨f1, f2, f3, f4⟩ := fresh_own S1 hx1
  obtain ⟨S2, X2⟩ := S1.lay (o := .ins (clsA X.K c) dx []) hx1
  obtain ⟨S3, X3⟩ := S2.cell (c := .ins c []) (p := x) ⟨dx, [], upd_same, rfl, RDs.nil⟩ f1 f2 f3 f4
  have XX := (X1.trans X2).trans X3
  have ex : (μ ++ [x])[h.length]? = some x := by
    rw [← S.len]
    simp
  refine go_call (st := true) O S3 (RDs.cons (d := .ref h.length) ⟨x, rfl, ex⟩ (t.mono XX.gg XX.mm)) ?_
  refine (Go.bind (ρ := ρE X.K true) (g.shift XX)).mono fun b H1 ⟨d, h1, G1, μ1, S4, X4, r4, g4⟩ => ?_
  cases d with
  | non =>
    have e := non_at (r4 : RE X.K true Γ σ G1 μ1 H1 .non b).w
    refine ⟨e, Go.val g4 S4 (.of ⟨x, rfl, ?_⟩)⟩
    obtain ⟨t, rfl⟩ := X4.mm
    rw [List.getElem?_append_left (List.getElem?_eq_some_iff.mp ex).1]
    exact ex
  | _ => exact g4.elim
theorem s_make (O : XOk T ca cx n N W sc X) {c : Str} (hg : glB sc c = true) (pA : PA X es (tI X.K ca W (ρL X.K) el)) (hs : (starEach es X.env).any (·.1) = false) (hcons : ∀ e r, es = e :: r → isStar e = false) (h0 : es = [] → ∀ Γ h, el Γ h = some (.ok [] h)) :
    PE X (.Call (.Name c pp) es [] p) (tI X.K ca W (ρE X.K se) (fun Γ h => match T.init c with
      | some f => bnd (el Γ h) fun xs h => bnd (callN T n f (.ref h.length :: xs) (h ++ [.ins c []])) fun v h' => match v with
        | .non => some (.ok (.ref h.length) h')
        | _ => none
      | none => none)) := by
  cases z : T.init c with
  | none => exact ⟨fun pins s σ H Q I ⟨R, G, μ, Γ, h, S, g⟩ => g.elim⟩
  | some f =>
    obtain ⟨h1, h2⟩ := gl_of O hg
    obtain ⟨d1, d2, d3⟩ := nm_dbg h2
    obtain ⟨fa, fd, ps, m1, m2, m3, m4⟩ := O.wd.inits c f z
    refine ⟨fun pins s σ H Q I t => ?_⟩
    obtain ⟨R, G, μ, Γ, h, S, g⟩ := t
    refine wpAny_Call_Name_kw (ld_glob I h1 m1 ?_ d1)
    cases es with
    | nil =>
      dsimp only at g
      rw [h0 rfl] at g
      exact PySem.W.callWith_K0 I.kIn m2.kp (run_mkS (us := []) (vs := []) m2 m4 O.room m3 (passAt O.takes σ) I .nil (make_go O S RDs.nil g))
    | cons e0 es0 =>
      refine PySem.W.callWith_K (h₀ := X.base) I.ok.mod.kin m2.kp (thn (pA.run p pins s σ H _ I ⟨R, G, μ, Γ, h, S, Go.bind (ρ := ρL X.K) g⟩) fun us s1 ⟨vs, H1, I1, rv, xs, h1, G1, μ1, S1, X1, r1, g1⟩ => ⟨I1.kIn, run_mkS m2 m4 O.room m3 (passAt O.takes σ) I1 rv (make_go O S1 r1 g1)⟩) (star_of (hcons _ _ rfl) es0 X.env) (pair_swap _ _ ?_)
      rw [star_of (hcons _ _ rfl)] at hs
      simpa using hs
/-! ### dicts and lists asked by their methods -/
theorem isD_of {K : PySem.W.Frag} {R : Fr} {G : Hp} {μ : List Addr} {Γ : List Slot} {h : List Cell} (S : Sim K R G μ Γ h σ H) {d : D} {v : V} (r : RW K Γ σ G μ H d v) (e : (dctOf h d).isSome = true) : ∃ a, v = .ref a ∧ IsD H a := by
  cases z : dctOf h d with
  | none => rw [z] at e; cases e
  | some p =>
    obtain ⟨ks, xs⟩ := p
    obtain ⟨a, kvs, rfl, q, _⟩ := dctOf_at S r z
    exact ⟨a, rfl, .inl ⟨kvs, q⟩⟩
theorem s_getd (O : XOk T ca cx n N W sc X) (pa : PE X l (tI X.K ca W (ρE X.K sa) ea)) (hb : objE l = true) (pb : PE X r (tI X.K ca W (ρE X.K sb) eb)) (pc : PE X e (tI X.K ca W (ρE X.K sd) ec)) (hd : sd = true) (h1 : isStar r = false) (h2 : isStar e = false) (hl : (ap.endLine == cp.line) = true) :
    PE X (.Call (.Attribute l ("get" : Str) ap) [r, e] [] cp) (tI X.K ca W (ρE X.K se) (fun Γ h => bnd (ea Γ h) fun x h => if (dctOf h x).isSome then bnd (eb Γ h) fun y h => bnd (ec Γ h) fun z h => liftO (getdD h x y z) h else none)) := by
  have hu := hu_room O
  have hs2 : starEach [r, e] X.env = [(false, eval r X.env), (false, eval e X.env)] := by
    rw [star_of h1, star_of h2]
    rfl
  refine (pe_dget2 (by omega) pa pb pc ⟨base_of hb _ _ _, by rw [hs2]; rfl, hl, by rw [hs2]; rfl⟩).imp fun σ H Q t => ?_
  obtain ⟨R, G, μ, Γ, h, S, g⟩ := t
  refine ⟨R, G, μ, Γ, h, S, (Go.bind (ρ := ρE X.K sa) g).mono fun v H1 ⟨x, h1, G1, μ1, S1, X1, r1, g1⟩ => ?_⟩
  split at g1
  · rename_i hx
    have w1 := (r1 : RE X.K sa Γ σ G1 μ1 H1 x v).w
    obtain ⟨a, rfl, hd1⟩ := isD_of S1 w1 hx
    refine ⟨a, rfl, hd1, R, G1, μ1, Γ, h1, S1, (Go.bind (ρ := ρE X.K sb) g1).mono fun u H2 ⟨y, h2, G2, μ2, S2, X2, r2, g2⟩ => ?_⟩
    refine ⟨R, G2, μ2, Γ, h2, S2, (Go.bind (ρ := ρE X.K sd) g2).mono fun w H3 ⟨z, h3, G3, μ3, S3, X3, r3, g3⟩ => ?_⟩
    obtain ⟨d, ed, q⟩ := liftO_go g3
    unfold getdD at ed
    cases zx : dctOf h3 x with
    | none => rw [zx] at ed; cases ed
    | some p =>
      obtain ⟨ks, xs⟩ := p
      rw [zx] at ed
      simp only at ed
      cases zk : keyOf y with
      | none => rw [zk] at ed; cases ed
      | some k =>
        rw [zk] at ed
        cases ed
        obtain ⟨a', kvs, e', qd, rfl, t⟩ := dctOf_at S3 ((w1.mono X2).mono X3) zx
        cases e'
        have ek := key_val (((r2 : RE X.K sb Γ σ G2 μ2 H2 y u).w).mono X3) zk
        subst ek
        have dg := dget_at (k := k) t
        dsimp only at q
        refine ⟨valV kvs k, .inl ⟨kvs, k, qd, rfl, rfl⟩, ?_⟩
        cases zg : dgetL (kvs.map (·.1)) xs k with
        | none =>
          rw [dg.2 zg]
          rw [zg] at q
          exact q w G3 H3 S3 .refl (RE.s r3 hd)
        | some d' =>
          obtain ⟨v', e1, e2⟩ := dg.1 d' zg
          rw [e1]
          rw [zg] at q
          exact q v' G3 H3 S3 .refl e2
  · exact g1.elim
theorem drop_rel {K : PySem.W.Frag} {G : Hp} {μ : List Addr} {k : Key} : ∀ {kvs : List (Key × V)} {xs : List D}, RDs K G μ xs (kvs.map (·.2)) → (dropK kvs k).map (·.1) = (kvs.map (·.1)).filter (fun k' => decide (k' ≠ k)) ∧ RDs K G μ (dropL (kvs.map (·.1)) xs k) ((dropK kvs k).map (·.2))
  | [], xs, t => by
    have := t.len
    cases xs with
    | nil => exact ⟨rfl, RDs.nil⟩
    | cons _ _ => simp at this
  | p :: kvs, xs, t => by
    cases xs with
    | nil => have := t.len; simp at this
    | cons x xs =>
      obtain ⟨v, r, e, r1, r2⟩ := t
      rw [List.map_cons] at e
      injection e with e1 e2
      subst e2
      obtain ⟨i1, i2⟩ := drop_rel (k := k) r2
      unfold dropK at i1 i2 ⊢
      rw [List.map_cons, List.filter_cons, List.filter_cons]
      by_cases hk : p.1 = k
      · have e1 : decide (p.1 ≠ k) = false := by simp [hk]
        rw [e1]
        simp only [Bool.false_eq_true, if_false, dropL, if_pos hk]
        exact ⟨i1, i2⟩
      · have e3 : decide (p.1 ≠ k) = true := by simp [hk]
        rw [e3]
        simp only [if_true, dropL, if_neg hk, List.map_cons]
        exact ⟨by rw [i1], RDs.cons (e1 ▸ r1) i2⟩
theorem s_popK (O : XOk T ca cx n N W sc X) (pa : PE X l (tI X.K ca W (ρE X.K sa) ea)) (hb : objE l = true) (pb : PE X r (tI X.K ca W (ρE X.K sb) eb)) (h1 : isStar r = false) (hl : (ap.endLine == cp.line) = true) :
    PE X (.Call (.Attribute l ("pop" : Str) ap) [r] [] cp) (tI X.K ca W (ρE X.K se) (fun Γ h => bnd (ea Γ h) fun x h => if (dctOf h x).isSome then bnd (eb Γ h) fun y h => match popKD h x y with
      | some p => some (.ok p.1 p.2)
      | none => none else none)) := by
  have hs2 : starEach [r] X.env = [(false, eval r X.env)] := by
    rw [star_of h1]
    rfl
  refine (pe_dpop1 pa pb ⟨base_of hb _ _ _, by rw [hs2]; rfl, hl, by rw [hs2]; rfl⟩).imp fun σ H Q t => ?_
  obtain ⟨R, G, μ, Γ, h, S, g⟩ := t
  refine ⟨R, G, μ, Γ, h, S, (Go.bind (ρ := ρE X.K sa) g).mono fun v H1 ⟨x, h1, G1, μ1, S1, X1, r1, g1⟩ => ?_⟩
  split at g1
  · rename_i hx
    have w1 := (r1 : RE X.K sa Γ σ G1 μ1 H1 x v).w
    obtain ⟨a, rfl, hd1⟩ := isD_of S1 w1 hx
    refine ⟨a, rfl, hd1, R, G1, μ1, Γ, h1, S1, (Go.bind (ρ := ρE X.K sb) g1).mono fun u H2 ⟨y, h2, G2, μ2, S2, X2, r2, g2⟩ => ?_⟩
    cases zp : popKD h2 x y with
    | none => rw [zp] at g2; exact g2.elim
    | some pr =>
      rw [zp] at g2
      unfold popKD at zp
      split at zp
      · rename_i k _
        split at zp
        · rename_i ks xs hc
          split at zp
          · rename_i kk hk
            cases zg : dgetL ks xs kk with
            | none => rw [zg] at zp; cases zp
            | some d =>
              rw [zg] at zp
              cases zp
              obtain ⟨a', e', ha⟩ := ref_at (w1.mono X2)
              cases e'
              obtain ⟨kvs, q1, q2, q3⟩ := (show CellA X.K G2 μ2 R.lk H2 a (.dct ks xs) from S2.cells k a _ ha hc)
              subst q2
              have ek := key_val (r2 : RE X.K sb Γ σ G2 μ2 H2 y u).w hk
              subst ek
              obtain ⟨v', e1, e2⟩ := (dget_at (k := kk) q3).1 d zg
              refine ⟨kvs, kk, v', q1, rfl, e1, ?_⟩
              obtain ⟨d1, d2⟩ := drop_rel (k := kk) q3
              obtain ⟨S3, X3⟩ := S2.write (o := .dK (dropK kvs kk)) (c := .dct ((kvs.map (·.1)).filter fun k' => decide (k' ≠ kk)) (dropL (kvs.map (·.1)) xs kk)) ha ⟨_, upd_same, d1, d2⟩ (fun _ => S2.ul k a _ ha hc rfl)
              exact g2 v' G2 μ2 _ S3 X3 (.of e2)
          · cases zp
        · cases zp
      · cases zp
  · exact g1.elim
theorem truD_at {K : PySem.W.Frag} {R : Fr} {G : Hp} {μ : List Addr} {Γ : List Slot} {h : List Cell} (S : Sim K R G μ Γ h σ H) {d : D} {v : V} (r : RW K Γ σ G μ H d v) {k : Bool} (e : truD h d = some k) : TruV K v H k := by
  cases d with
  | non => cases non_at r; cases e; exact rfl
  | bl b => cases bl_at r; cases e; exact rfl
  | int i =>
    cases int_at r
    cases e
    show (!decide (i = 0)) = (i != 0)
    rw [bne, Bool.eq_iff_iff]
    simp
  | str x =>
    obtain ⟨rfl, hx⟩ := str_at r
    cases e
    refine ⟨le_sl hx, ?_⟩
    rw [bne, Bool.eq_iff_iff]
    simp
  | tup ds =>
    obtain ⟨a, vs, rfl, q, _, t, _⟩ := tup_at S r
    cases e
    refine .inr (.inl ⟨vs, q, ?_⟩)
    have := t.len
    cases ds <;> cases vs <;> first | rfl | simp at this
  | lst ds =>
    obtain ⟨a, vs, rfl, q, _, t⟩ := lst_at S r rfl
    cases e
    refine .inl ⟨vs, .of q, ?_⟩
    have := t.len
    cases ds <;> cases vs <;> first | rfl | simp at this
  | _ => cases e
theorem s_orv {x y : Expr} {rest : List Expr} (pa : PE X x (tI X.K ca W (ρE X.K sa) ea)) (pb : PE X (.BoolOp .Or (y :: rest) p) (tI X.K ca W (ρE X.K sb) eb)) (ha : se = true → sa = true) (hb : se = true → sb = true) :
    PE X (.BoolOp .Or (x :: y :: rest) p) (tI X.K ca W (ρE X.K se) (fun Γ h => bnd (ea Γ h) fun x h => match truD h x with
      | some true => some (.ok x h)
      | some false => eb Γ h
      | none => none)) := by
  refine (pe_orT pa pb).imp fun σ H Q t => ?_
  obtain ⟨R, G, μ, Γ, h, S, g⟩ := t
  refine ⟨R, G, μ, Γ, h, S, (Go.bind (ρ := ρE X.K sa) g).mono fun v H1 ⟨d, h1, G1, μ1, S1, X1, r1, g1⟩ => ?_⟩
  have w1 := (r1 : RE X.K sa Γ σ G1 μ1 H1 d v).w
  cases z : truD h1 d with
  | none => rw [z] at g1; exact g1.elim
  | some k =>
    rw [z] at g1
    refine ⟨k, truD_at S1 w1 z, ?_⟩
    cases k with
    | true =>
      rw [if_pos rfl]
      refine Go.val g1 S1 ?_
      show RE X.K se Γ σ G1 μ1 H1 d v
      cases se with
      | true => exact .of (RE.s r1 (ha rfl))
      | false => exact w1
    | false =>
      rw [if_neg (by decide)]
      refine ⟨R, G1, μ1, Γ, h1, S1, ?_⟩
      have g1 : Go X.K ca W R Γ σ (ρE X.K se) G1 μ1 H1 (eb Γ h1) Q := g1
      revert g1
      cases eb Γ h1 with
      | none => exact fun g => g
      | some rr =>
        cases rr with
        | exc e h2 => exact fun g => g
        | ok d2 h2 =>
          intro g w G3 μ3 H3 S3 X3 r3
          refine g w G3 μ3 H3 S3 X3 ?_
          have r3 : RE X.K sb Γ σ G3 μ3 H3 d2 w := r3
          show RE X.K se Γ σ G3 μ3 H3 d2 w
          cases se with
          | true => exact .of (r3.s (hb rfl))
          | false => exact r3.w
theorem s_popL (pa : PE X l (tI X.K ca W (ρE X.K sa) ea)) (hb : objE l = true) (hl : (ap.endLine == cp.line) = true) : PE X (.Call (.Attribute l ("pop" : Str) ap) [] [] cp) (tI X.K ca W (ρE X.K se) (fun Γ h => bnd (ea Γ h) fun x h => match popLD h x with
    | some p => some (.ok p.1 p.2)
    | none => none)) := by
  refine (pe_bm0 PySem.F.plainAttrs_list PySem.F.slot_list_pop PySem.F.type_list_pop mt_pop pa (base_of hb _ _ _) hl).imp fun σ H Q t => ?_
  obtain ⟨R, G, μ, Γ, h, S, g⟩ := t
  refine ⟨R, G, μ, Γ, h, S, (Go.bind (ρ := ρE X.K sa) g).mono fun v H1 ⟨x, h1, G1, μ1, S1, X1, r1, g1⟩ => ?_⟩
  have w1 := (r1 : RE X.K sa Γ σ G1 μ1 H1 x v).w
  cases zp : popLD h1 x with
  | none => rw [zp] at g1; exact g1.elim
  | some pr =>
    rw [zp] at g1
    unfold popLD at zp
    split at zp
    · rename_i k
      split at zp
      · rename_i ds hc
        cases zl : ds.getLast? with
        | none => rw [zl] at zp; cases zp
        | some d =>
          rw [zl] at zp
          cases zp
          obtain ⟨a, rfl, ha⟩ := ref_at w1
          obtain ⟨vs, q1, q2, q3⟩ := (show CellA X.K G1 μ1 R.lk H1 a (.lst ds) from S1.cells k a _ ha hc)
          rw [List.getLast?_eq_getElem?] at zl
          obtain ⟨y, y1, y2⟩ := q3.at zl
          refine ⟨.inl ⟨rfl, vs, .of q1⟩, a, vs, y, rfl, rfl, q1, by rw [← q3.len]; exact y1, ?_⟩
          have tk : RDs X.K G1 μ1 ds.dropLast vs.dropLast := by
            rw [List.dropLast_eq_take, List.dropLast_eq_take, q3.len]
            exact q3.take _
          obtain ⟨S2, X2⟩ := S1.write (o := .lst vs.dropLast) (c := .lst ds.dropLast) ha ⟨_, upd_same, by rw [List.length_dropLast]; omega, tk⟩ (fun _ => S1.ul k a _ ha hc rfl)
          exact g1 y G1 μ1 _ S2 X2 (.of y2)
      · cases zp
    · cases zp
/-! ### what is locked while a part runs -/
theorem upd_self {H : Hp} {a : Addr} {o : HO} (e : H a = some o) : upd H a o = H := by
  funext b
  by_cases hb : b = a
  · subst hb
    rw [upd_same, e]
  · rw [upd_ne hb]
theorem CellA.lkmono {K : PySem.W.Frag} {G : Hp} {μ : List Addr} {lk lk' H H' : Hp} {b : Addr} {c : Cell} (q : CellA K G μ lk H b c) (e : H' b = H b) (l : lk' b = lk b) : CellA K G μ lk' H' b c := by
  cases c with
  | lst ds => exact CellA.mono (c := .lst ds) (lk := lk') (show CellA K G μ lk' H b (.lst ds) from q) (Same.refl _) (List.prefix_refl _) e
  | dct ks xs => exact CellA.mono (c := .dct ks xs) (lk := lk') (show CellA K G μ lk' H b (.dct ks xs) from q) (Same.refl _) (List.prefix_refl _) e
  | ins c fs => exact CellA.mono (c := .ins c fs) (lk := lk') (show CellA K G μ lk' H b (.ins c fs) from q) (Same.refl _) (List.prefix_refl _) e
  | llst ds =>
    obtain ⟨vs, q1, q2, q3⟩ := q
    exact ⟨vs, e.trans q1, l.trans q2, q3⟩
  | ldct ks xs =>
    obtain ⟨o, kvs, q1, q2, q3⟩ := q
    exact ⟨o, kvs, e.trans q1, l.trans q2, q3⟩
theorem Sim.relk {K : PySem.W.Frag} {R : Fr} {G : Hp} {μ : List Addr} {Γ : List Slot} {h : List Cell} {σ : L2.St} {H : Hp} (S : Sim K R G μ Γ h σ H) {n : Nat} {a : Addr} {o : HO} {c : Cell} {lk : Hp} (hn : μ[n]? = some a) (hC : CellA K G μ lk (upd H a o) a c) (hlk : ∀ b, b ≠ a → lk b = R.lk b) (hu : c.locked = false → lk a = none) :
    Sim K ⟨R.F, R.G0, R.μ0, lk⟩ G μ Γ (h.set n c) σ (upd H a o) := by
  have ha : a ∈ μ := List.mem_of_getElem? hn
  have hlt : n < h.length := by
    rw [← S.len]
    exact (List.getElem?_eq_some_iff.mp hn).1
  have gne : ∀ {b : Addr} {u : HO}, G b = some u → b ≠ a := fun e z => by
    rw [z, S.mg a ha] at e
    cases e
  have fne : ∀ {b : Addr} {u : HO}, R.F b = some u → b ≠ a := fun e z => by
    rw [z, S.mf a ha] at e
    cases e
  have own : ∀ (i : Nat) (c : Cell) (b : Addr), Γ[i]? = some (.own c) → σ[i]? = some (some (.ref b)) → b ≠ a := fun i c b e1 e2 z => by
    obtain ⟨b', q1, _, _, _, m1⟩ := S.slots i _ e1
    rw [e2] at q1
    cases q1
    exact m1 (z ▸ ha)
  have uniq : ∀ {m : Nat}, μ[m]? = some a → m = n := fun {m} e => by
    obtain ⟨h1, q1⟩ := List.getElem?_eq_some_iff.mp e
    obtain ⟨h2, q2⟩ := List.getElem?_eq_some_iff.mp hn
    exact (List.getElem_inj S.nd).mp (q1.trans q2.symm)
  refine ⟨fun b u e => by rw [upd_ne (gne e)]; exact S.gh b u e, fun b u e => by rw [upd_ne (fne e)]; exact S.fh b u e, S.g0, S.m0, S.gf, S.mf, S.mg, S.nd, by simpa using S.len, fun m b c' e1 e2 => ?_, fun m b c' e1 e2 e3 => ?_, fun b e => ?_, S.slen, fun i s e => ?_, S.dist⟩
  · by_cases hb : b = a
    · subst hb
      cases uniq e1
      rw [List.getElem?_set_self hlt] at e2
      cases e2
      exact hC
    · have hmn : n ≠ m := fun z => by
        subst z
        rw [hn] at e1
        cases e1
        exact hb rfl
      rw [List.getElem?_set_ne hmn] at e2
      exact (S.cells m b c' e1 e2).lkmono (upd_ne hb) (hlk b hb)
  · by_cases hb : b = a
    · subst hb
      cases uniq e1
      rw [List.getElem?_set_self hlt] at e2
      cases e2
      exact hu e3
    · have hmn : n ≠ m := fun z => by
        subst z
        rw [hn] at e1
        cases e1
        exact hb rfl
      rw [List.getElem?_set_ne hmn] at e2
      show lk b = none
      rw [hlk b hb]
      exact S.ul m b c' e1 e2 e3
  · by_cases hb : b = a
    · rw [hb]
      exact ha
    · have e : lk b ≠ none := e
      rw [hlk b hb] at e
      exact S.lm b e
  · have q := S.slots i s e
    cases s with
    | no => trivial
    | val d => exact q
    | own c =>
      obtain ⟨b, e1, c1, g1, f1, m1⟩ := q
      exact ⟨b, e1, c1.mono (Same.refl _) (List.prefix_refl _) (upd_ne (own i c b e e1)), g1, f1, m1⟩
/-- an unlocked thing is locked; what to know of it behind -/
theorem lock_at {R : Fr} {G : Hp} {μ : List Addr} {Γ : List Slot} {h h1 : List Cell} (S : Sim X.K R G μ Γ h σ H) {n : Nat} (e : lockH h n = some h1) : ∃ (a : Addr) (u : HO) (fz : Obj → HO), μ[n]? = some a ∧ H a = some u ∧ R.lk a = none ∧ ((∀ od, fz od = u) ∨ (Mut (some u) ∧ ∀ od, fz od = .frz od u)) ∧
    (∀ od, Sim X.K ⟨R.F, R.G0, R.μ0, upd R.lk a (fz od)⟩ G μ Γ h1 σ (upd H a (fz od))) ∧
    ∀ (od : Obj) (G' : Hp) (μ' : List Addr) (Γ' : List Slot) (h2 h3 : List Cell) (σ' : L2.St) (H' : Hp), Sim X.K ⟨R.F, R.G0, R.μ0, upd R.lk a (fz od)⟩ G' μ' Γ' h2 σ' H' → μ <+: μ' → unlockH h2 n = some h3 → H' a = some (fz od) ∧ Sim X.K R G' μ' Γ' h3 σ' (upd H' a u) := by
  unfold lockH at e
  cases hc : h[n]? with
  | none => rw [hc] at e; cases e
  | some c =>
    rw [hc, Option.bind_some] at e
    have hlt : n < μ.length := by
      rw [S.len]
      exact (List.getElem?_eq_some_iff.mp hc).1
    have hn : μ[n]? = some μ[n] := List.getElem?_eq_getElem hlt
    generalize μ[n] = a at hn
    have q := S.cells n a c hn hc
    have reR : (⟨R.F, R.G0, R.μ0, R.lk⟩ : Fr) = R := rfl
    have back : ∀ {G' : Hp} {μ' : List Addr} {Γ' : List Slot} {h2 : List Cell} {σ' : L2.St} {H' : Hp} {z : HO}, Sim X.K ⟨R.F, R.G0, R.μ0, upd R.lk a z⟩ G' μ' Γ' h2 σ' H' → μ <+: μ' → μ'[n]? = some a ∧ H' a = some z := fun {G' μ' Γ' h2 σ' H' z} S' mm => by
      obtain ⟨t, rfl⟩ := mm
      refine ⟨by rw [List.getElem?_append_left hlt]; exact hn, S'.lkd (show upd R.lk a z a = some z from upd_same)⟩
    cases c with
    | lst ds =>
      have e : some (h.set n (.llst ds)) = some h1 := e
      cases e
      obtain ⟨vs, q1, q2, q3⟩ := q
      have hl := S.ul n a _ hn hc rfl
      refine ⟨a, .lst vs, fun _ => .lst vs, hn, q1, hl, .inl fun _ => rfl, fun od => ?_, fun od G' μ' Γ' h2 h3 σ' H' S' mm eu => ?_⟩
      · exact S.relk hn ⟨vs, upd_same, upd_same, q2, q3⟩ (fun b hb => upd_ne hb) (fun z => by cases z)
      · obtain ⟨hn', ha'⟩ := back S' mm
        refine ⟨ha', ?_⟩
        unfold unlockH at eu
        cases hc2 : h2[n]? with
        | none => rw [hc2] at eu; cases eu
        | some c2 =>
          rw [hc2, Option.bind_some] at eu
          have k2 := S'.cells n a c2 hn' hc2
          cases c2 with
          | llst d2 =>
            have eu : some (h2.set n (.lst d2)) = some h3 := eu
            cases eu
            obtain ⟨v2, y1, y2, y3, y4⟩ := k2
            rw [ha'] at y1
            cases y1
            exact S'.relk (R := ⟨R.F, R.G0, R.μ0, upd R.lk a (.lst vs)⟩) (lk := R.lk) hn' ⟨vs, upd_same, y3, y4⟩ (fun b hb => (upd_ne hb).symm) (fun _ => hl)
          | ldct k2' x2 =>
            obtain ⟨o2, kv2, y1, _⟩ := k2
            rw [ha'] at y1
            cases y1
          | _ => cases eu
    | dct ks xs =>
      have e : some (h.set n (.ldct ks xs)) = some h1 := e
      cases e
      obtain ⟨kvs, q1, q2, q3⟩ := q
      have hl := S.ul n a _ hn hc rfl
      refine ⟨a, .dK kvs, fun od => .frz od (.dK kvs), hn, q1, hl, .inr ⟨trivial, fun _ => rfl⟩, fun od => ?_, fun od G' μ' Γ' h2 h3 σ' H' S' mm eu => ?_⟩
      · exact S.relk hn ⟨od, kvs, upd_same, upd_same, q2, q3⟩ (fun b hb => upd_ne hb) (fun z => by cases z)
      · obtain ⟨hn', ha'⟩ := back S' mm
        refine ⟨ha', ?_⟩
        unfold unlockH at eu
        cases hc2 : h2[n]? with
        | none => rw [hc2] at eu; cases eu
        | some c2 =>
          rw [hc2, Option.bind_some] at eu
          have k2 := S'.cells n a c2 hn' hc2
          cases c2 with
          | ldct k2' x2 =>
            have eu : some (h2.set n (.dct k2' x2)) = some h3 := eu
            cases eu
            obtain ⟨o2, kv2, y1, y2, y3, y4⟩ := k2
            rw [ha'] at y1
            cases y1
            exact S'.relk (R := ⟨R.F, R.G0, R.μ0, upd R.lk a (.frz od (.dK kvs))⟩) (lk := R.lk) hn' ⟨kvs, upd_same, y3, y4⟩ (fun b hb => (upd_ne hb).symm) (fun _ => hl)
          | llst d2 =>
            obtain ⟨v2, y1, _⟩ := k2
            rw [ha'] at y1
            cases y1
          | _ => cases eu
    | _ => cases e
theorem own_mu {R : Fr} {G : Hp} {μ : List Addr} {Γ : List Slot} {h : List Cell} (S : Sim X.K R G μ Γ h σ H) {n : Nat} {a : Addr} (hn : μ[n]? = some a) {i : Nat} {c : Cell} {b : Addr} (e1 : Γ[i]? = some (.own c)) (e2 : σ[i]? = some (some (.ref b))) : b ≠ a := fun z => by
  obtain ⟨b', q1, _, _, _, m1⟩ := S.slots i _ e1
  rw [e2] at q1
  cases q1
  exact m1 (z ▸ List.mem_of_getElem? hn)
theorem s_lkd {i : Nat} {ps : List Stp} (pe : PE X e (tI X.K ca W (ρE X.K true) ea)) : PE X e (tI X.K ca W (ρE X.K se) (fun Γ h => match lookD Γ h i ps with
    | some n => match lockH h n with
      | some h1 => match ea Γ h1 with
        | some (.ok v h2) => match unlockH h2 n with
          | some h3 => some (.ok v h3)
          | none => none
        | _ => none
      | none => none
    | none => none)) := by
  have both : PE X e (fun σ H Q => tI X.K ca W (ρE X.K true) ea σ H Q ∨ tLockE (tI X.K ca W (ρE X.K true) ea) σ H Q) := ⟨fun pins s σ H Q I t => t.elim (pe.run pins s σ H Q I) ((pe_lock pe).run pins s σ H Q I)⟩
  refine both.imp fun σ H Q t => ?_
  obtain ⟨R, G, μ, Γ, h, S, g⟩ := t
  dsimp only at g
  cases zl : lookD Γ h i ps with
  | none => rw [zl] at g; exact g.elim
  | some n =>
    rw [zl] at g
    dsimp only at g
    cases zk : lockH h n with
    | none => rw [zk] at g; exact g.elim
    | some h1 =>
      rw [zk] at g
      dsimp only at g
      obtain ⟨a, u, fz, hn, hu, hl, hf, S1, bk⟩ := lock_at S zk
      have go : ∀ (od : Obj) (Q' : VK), (∀ v H', H' a = some (fz od) → Q v (upd H' a u) → Q' v H') → Go X.K ca W ⟨R.F, R.G0, R.μ0, upd R.lk a (fz od)⟩ Γ σ (ρE X.K true) G μ (upd H a (fz od)) (ea Γ h1) Q' := fun od Q' hQ => by
        cases ze : ea Γ h1 with
        | none => rw [ze] at g; exact g.elim
        | some rr =>
          rw [ze] at g
          cases rr with
          | exc _ _ => exact g.elim
          | ok d h2 =>
            dsimp only at g
            cases zu : unlockH h2 n with
            | none => rw [zu] at g; exact g.elim
            | some h3 =>
              rw [zu] at g
              intro v G' μ' H' S' X' r'
              obtain ⟨b1, b2⟩ := bk od G' μ' Γ h2 h3 σ H' S' X'.mm zu
              refine hQ v H' b1 (g v G' μ' _ b2 ⟨X'.gg, X'.mm, fun j c b e1 e2 => ?_⟩ (.of (RE.s r' rfl)))
              have hb := own_mu S hn e1 e2
              rw [upd_ne hb, X'.own j c b e1 e2, upd_ne hb]
      rcases hf with hf | ⟨mu, hf⟩
      · refine .inl ?_
        have od : Obj := { cls := .none }
        have e1 : upd H a (fz od) = H := by
          rw [hf od]
          exact upd_self hu
        have S2 := S1 od
        have g2 := go od Q fun v H' e2 q => by
          rw [hf od] at e2
          rw [upd_self e2] at q
          exact q
        rw [e1] at S2 g2
        exact ⟨_, G, μ, Γ, h1, S2, g2⟩
      · refine .inr ⟨a, u, hu, mu, fun od => ?_⟩
        rw [← hf od]
        exact ⟨_, G, μ, Γ, h1, S1 od, go od _ fun v H' e2 q => ⟨e2, q⟩⟩
end
end DC

set_option linter.all false
set_option Elab.async false
set_option maxRecDepth 100000
set_option maxHeartbeats 4000000
/-! DSnd: the checker is sound for expressions. -/
namespace DC
open PySem L2 PySem.Spec PyProof.Rows
def isBoolE : Expr → Bool
  | .BoolOp _ _ _ => true
  | _ => false
/-- what is shown of an expression -/
structure SE (ca : Str → Addr) (W : WX) (X : Cx) (a : CE) (e : Expr) (ev : List Slot → List Cell → Out D) : Prop where
  pe : PE X e (tI X.K ca W (ρE X.K (strong a)) ev)
  pt : tstOk a = true → PT X e (tI X.K ca W ρB (fun Γ h => toB (ev Γ h)))
  pw : tstOk a = true → isBoolE e = true → PW X e (tI X.K ca W ρB (fun Γ h => toB (ev Γ h)))
  pf : fresh a = true → PE X e (tI X.K ca W (ρF X.K) ev)
section
variable {T : Tb} {ca : Str → Addr} {cx : Ck} {n : Nat} {N : List Str} {W : WX} {sc : Scope} {X : Cx} {σ : L2.St} {H : Hp} {e : Expr}
variable {ev : List Slot → List Cell → Out D} {a : CE}
/-- no bool operation, no fresh thing -/
theorem SE.of (pe : PE X e (tI X.K ca W (ρE X.K (strong a)) ev)) (he : ∀ whole, isTrue e X.env whole = (do let v ← whole; standAt e.pos; holding [v] (truthy v))) (hb : isBoolE e = false) (hf : fresh a = false) : SE ca W X a e ev :=
  ⟨pe, fun _ => pt_of pe he, fun _ h => (by rw [hb] at h; cases h), fun h => (by rw [hf] at h; cases h)⟩
theorem SE.of2 (pe : PE X e (tI X.K ca W (ρE X.K (strong a)) ev)) (pt : PT X e (tI X.K ca W ρB (fun Γ h => toB (ev Γ h)))) (hb : isBoolE e = false) (hf : fresh a = false) : SE ca W X a e ev :=
  ⟨pe, fun _ => pt, fun _ h => (by rw [hb] at h; cases h), fun h => (by rw [hf] at h; cases h)⟩
theorem SE.ofF (pf : PE X e (tI X.K ca W (ρF X.K) ev)) (he : ∀ whole, isTrue e X.env whole = (do let v ← whole; standAt e.pos; holding [v] (truthy v))) (hb : isBoolE e = false) : SE ca W X a e ev :=
  have pe : PE X e (tI X.K ca W (ρE X.K (strong a)) ev) := pf.imp fun _ _ _ t => frz_of t
  ⟨pe, fun _ => pt_of pe he, fun _ h => (by rw [hb] at h; cases h), fun _ => pf⟩
theorem pe_absurd {ρ : Rel D V} (h : ∀ σ H Q, ¬ tI X.K ca W ρ ev σ H Q) : PE X e (tI X.K ca W ρ ev) := ⟨fun pins s σ H Q I t => (h σ H Q t).elim⟩
theorem s_v {i : Nat} {x : Str} {p : Pos} (O : XOk T ca cx n N W sc X) (h : slotB N sc i x = true) : PE X (.Name x p) (tI X.K ca W (ρE X.K true) (fun Γ h => match Γ[i]? with
    | some (.val d) => some (.ok d h)
    | _ => none)) := by
  obtain ⟨h1, h2, h3⟩ := slot_vis O h
  obtain ⟨d1, d2, d3⟩ := nm_dbg h3
  refine (pe_var h1 h2 d1 d2).imp fun σ H Q t => ?_
  obtain ⟨R, G, μ, Γ, hh, S, g⟩ := t
  dsimp only at g
  cases z : Γ[i]? with
  | none => rw [z] at g; exact g.elim
  | some s =>
    rw [z] at g
    cases s with
    | val d =>
      obtain ⟨v, e1, r⟩ := S.slots i _ z
      exact ⟨v, e1, Go.val g S (.of r)⟩
    | _ => exact g.elim
theorem s_pk {i : Nat} {x : Str} {p : Pos} (O : XOk T ca cx n N W sc X) (h : slotB N sc i x = true) : PE X (.Name x p) (tI X.K ca W (ρE X.K false) (fun Γ h => match Γ[i]? with
    | some (.own c) => some (.ok c.toD h)
    | _ => none)) := by
  obtain ⟨h1, h2, h3⟩ := slot_vis O h
  obtain ⟨d1, d2, d3⟩ := nm_dbg h3
  refine (pe_var h1 h2 d1 d2).imp fun σ H Q t => ?_
  obtain ⟨R, G, μ, Γ, hh, S, g⟩ := t
  dsimp only at g
  cases z : Γ[i]? with
  | none => rw [z] at g; exact g.elim
  | some s =>
    rw [z] at g
    cases s with
    | own c =>
      obtain ⟨a, e1, c1, _⟩ := S.slots i _ z
      exact ⟨.ref a, e1, Go.val g S (show RE X.K false Γ σ G μ H c.toD (.ref a) from .inr ⟨i, c, a, z, e1, rfl, rfl, c1⟩)⟩
    | _ => exact g.elim
theorem s_g {i : Nat} {x : Str} {p : Pos} (O : XOk T ca cx n N W sc X) (h : glB sc x = true) (hi : cx.gnm i = some x) : PE X (.Name x p) (tI X.K ca W (ρE X.K true) (fun _ h => liftO (T.glob i) h)) := by
  obtain ⟨h1, h2⟩ := gl_of O h
  obtain ⟨d1, d2, d3⟩ := nm_dbg h2
  obtain ⟨u, m1, m2⟩ := O.wd.globs i x hi
  cases z : T.glob i with
  | none => exact pe_absurd fun σ H Q ⟨R, G, μ, Γ, hh, S, g⟩ => g.elim
  | some d =>
    obtain ⟨v, r, rd⟩ := m2 d z
    exact (pe_glob h1 m1 r d1).imp fun σ H Q ⟨R, G, μ, Γ, hh, S, g⟩ => Go.val g S (.of (rd G μ))
theorem s_c {d : D} {k : Const} {kk : Nat} {p : Pos} (h : cD d k = true) : PE X (.Constant k kk p) (tI X.K ca W (ρE X.K true) (fun _ h => some (.ok d h))) := by
  cases d <;> cases k <;> first | (exact absurd h Bool.false_ne_true) | skip
  · exact pe_non.imp fun σ H Q t => val_go (K := X.K) (d := .non) (v := .non) (fun R G μ Γ h S => rfl) t
  · rename_i b b'
    have e : b = b' := by simpa [cD] using h
    subst e
    exact pe_bl.imp fun σ H Q t => val_go (K := X.K) (d := .bl b) (v := .bl b) (fun R G μ Γ h S => rfl) t
  · rename_i i j
    have e : i = j := of_decide_eq_true h
    subst e
    exact pe_int.imp fun σ H Q t => val_go (K := X.K) (d := .int i) (v := .int i) (fun R G μ Γ h S => rfl) t
  · rename_i x y
    have h : (decide (x = y) && decide (x.length ≤ maxLen)) = true := h
    simp only [Bool.and_eq_true, decide_eq_true_eq] at h
    obtain ⟨e, h2⟩ := h
    subst e
    exact pe_str.imp fun σ H Q t => val_go (K := X.K) (d := .str x) (v := .str x) (fun R G μ Γ h S => ⟨rfl, h2⟩) t
/-- the list's expressions, each shown -/
inductive AllSE (T : Tb) (n : Nat) (ca : Str → Addr) (W : WX) (X : Cx) : List CE → List Expr → Prop where
  | nil : AllSE T n ca W X [] []
  | cons {a : CE} {as : List CE} {e : Expr} {es : List Expr} (hs : strong a = true) (se : SE ca W X a e (evalE T (callN T n) a)) (st : isStar e = false) (t : AllSE T n ca W X as es) : AllSE T n ca W X (a :: as) (e :: es)
theorem AllSE.pa : ∀ {as : List CE} {es : List Expr}, AllSE T n ca W X as es → PA X es (tI X.K ca W (ρL X.K) (evalEs T (callN T n) as))
  | [], _, .nil => pa_nil.imp fun _ _ _ t => nil_read t
  | a :: as, _, .cons hs se st t => (pa_cons se.pe t.pa (star_of st _ X.env)).imp fun _ _ _ q => args_read (a := a) (as := as) (f := fun _ => evalE T (callN T n) a) hs q
theorem AllSE.stars : ∀ {as : List CE} {es : List Expr}, AllSE T n ca W X as es → (starEach es X.env).any (·.1) = false
  | [], _, .nil => rfl
  | a :: as, _, .cons (es := es) hs se st t => by
    rw [star_of st, List.any_cons, t.stars]
    rfl
theorem AllSE.dp {pos : Pos} : ∀ {as : List CE} {es : List Expr} {ks : List Key} {keys : List (Option Expr)}, AllSE T n ca W X as es → keysC ks keys = true → as.length = ks.length → DP X ca W pos ks keys es (evalEs T (callN T n) as)
  | [], _, [], [], .nil, _, _ => dp_nil
  | [], _, [], _ :: _, .nil, h, _ => by simp [keysC] at h
  | [], _, _ :: _, _, .nil, _, h => by simp at h
  | a :: as, _, [], _, .cons _ _ _ _, _, h => by simp at h
  | a :: as, _, k :: ks, [], .cons _ _ _ _, h, _ => by simp [keysC] at h
  | a :: as, _, k :: ks, ke :: keys, .cons hs se st t, h, hl => by
    unfold keysC at h
    simp only [Bool.and_eq_true] at h
    exact dp_cons h.1 se.pe hs (t.dp h.2 (by simpa using hl))
theorem evals_len : ∀ {as : List CE} {Γ : List Slot} {h : List Cell} {ds : List D} {h' : List Cell}, evalEs T (callN T n) as Γ h = some (.ok ds h') → ds.length = as.length
  | [], Γ, h, ds, h', e => by
    have e : some (Res.ok ([] : List D) h) = some (.ok ds h') := e
    injection e with e
    injection e with e1 e2
    subst e1
    rfl
  | a :: as, Γ, h, ds, h', e => by
    rw [evalEs] at e
    cases z : evalE T (callN T n) a Γ h with
    | none => rw [z] at e; cases e
    | some r =>
      rw [z] at e
      cases r with
      | exc _ _ => cases e
      | ok d h1 =>
        unfold bnd at e
        simp only at e
        cases z2 : evalEs T (callN T n) as Γ h1 with
        | none => rw [z2] at e; cases e
        | some r =>
          rw [z2] at e
          cases r with
          | exc _ _ => cases e
          | ok ds' h2 =>
            simp only at e
            injection e with e
            injection e with e1 e2
            subst e1
            simp [evals_len z2]
theorem keys_len : ∀ {ks : List Key} {keys : List (Option Expr)}, keysC ks keys = true → keys.length = ks.length ∧ keys.all (·.isSome) = true
  | [], [], _ => ⟨rfl, rfl⟩
  | [], _ :: _, h => by simp [keysC] at h
  | _ :: _, [], h => by simp [keysC] at h
  | k :: ks, ke :: keys, h => by
    unfold keysC at h
    simp only [Bool.and_eq_true] at h
    obtain ⟨h1, h2⟩ := keys_len h.2
    have : ke.isSome = true := by
      cases ke with
      | none => exact absurd h.1 Bool.false_ne_true
      | some _ => rfl
    exact ⟨by simp [h1], by simp [this, h2]⟩
theorem AllSE.len : ∀ {as : List CE} {es : List Expr}, AllSE T n ca W X as es → es.length = as.length
  | [], _, .nil => rfl
  | a :: as, _, .cons _ _ _ t => by simp [t.len]
theorem snd_dct {ks : List Key} {as : List CE} {keys : List (Option Expr)} {vals : List Expr} {p : Pos} (A : AllSE T n ca W X as vals) (hk : keysC ks keys = true) (hnd : ks.Nodup) (h15 : ks.length ≤ 15) (hl : as.length = ks.length) :
    PE X (.Dict keys vals p) (tI X.K ca W (ρF X.K) (evalE T (callN T n) (.dct ks as))) := by
  cases keys with
  | nil =>
    cases ks with
    | cons _ _ => simp [keysC] at hk
    | nil =>
      cases A with
      | nil => exact s_dct0
      | cons _ _ _ _ => simp at hl
  | cons ke keys =>
    obtain ⟨l1, l2⟩ := keys_len hk
    exact s_dctF (A.dp hk hl) hnd h15 l1 (A.len.trans hl) l2 (fun Γ h ds h' e => (evals_len e).trans hl) (by simp)
theorem fold_of {iter : Expr} (h : isSetD iter = false) (x : Value) : foldedSetIterable iter X.env x = pure x := by
  cases iter <;> first | rfl | (exact absurd h (by decide)) | (cases h)
theorem snd_src (O : XOk T ca cx n N W sc X) {k : ItK} {srcs : List CE} {iter tg : Expr} (hA : ∀ es, chkEs cx N srcs sc es = true → AllSE T n ca W X srcs es) (h : chkIt (fun es => chkEs cx N srcs sc es) k sc iter tg = true) : SrcOk X ca W k tg iter (evalEs T (callN T n) srcs) := by
  cases k with
  | seq =>
    simp only [chkIt, Bool.and_eq_true] at h
    have A := hA _ h.1
    cases A with
    | cons hs se st t =>
      cases t
      exact src_seq se.pe hs
  | text =>
    simp only [chkIt, Bool.and_eq_true] at h
    have A := hA _ h.1
    cases A with
    | cons hs se st t =>
      cases t
      exact src_text se.pe hs
  | range1 =>
    cases iter <;> first | (simp only [chkIt] at h; exact absurd h Bool.false_ne_true) | skip
    rename_i f as kws p
    cases f <;> first | (simp only [chkIt] at h; exact absurd h Bool.false_ne_true) | skip
    rename_i x pp
    match as, kws, h with
    | [l], [], h =>
      simp only [chkIt, Bool.and_eq_true, decide_eq_true_eq] at h
      obtain ⟨⟨rfl, hg⟩, hl⟩ := h
      have A := hA _ hl
      have hst : isStar l = false := by
        cases A with
        | cons hs se st t => exact st
      exact src_range1 O hg A.pa hst
    | [], _, h => simp only [chkIt] at h; exact absurd h Bool.false_ne_true
    | _ :: _ :: _, _, h => simp only [chkIt] at h; exact absurd h Bool.false_ne_true
    | [_], _ :: _, h => simp only [chkIt] at h; exact absurd h Bool.false_ne_true
  | range2 =>
    cases iter <;> first | (simp only [chkIt] at h; exact absurd h Bool.false_ne_true) | skip
    rename_i f as kws p
    cases f <;> first | (simp only [chkIt] at h; exact absurd h Bool.false_ne_true) | skip
    rename_i x pp
    match as, kws, h with
    | [l, r], [], h =>
      simp only [chkIt, Bool.and_eq_true, decide_eq_true_eq] at h
      obtain ⟨⟨rfl, hg⟩, hl⟩ := h
      have A := hA _ hl
      have hst : isStar l = false ∧ isStar r = false := by
        cases A with
        | cons hs se st t =>
          cases t with
          | cons _ _ st2 _ => exact ⟨st, st2⟩
      exact src_range2 O hg A.pa hst.1 hst.2
    | [], _, h => simp only [chkIt] at h; exact absurd h Bool.false_ne_true
    | [_], _, h => simp only [chkIt] at h; exact absurd h Bool.false_ne_true
    | _ :: _ :: _ :: _, _, h => simp only [chkIt] at h; exact absurd h Bool.false_ne_true
    | [_, _], _ :: _, h => simp only [chkIt] at h; exact absurd h Bool.false_ne_true
  | keys =>
    simp only [chkIt, Bool.and_eq_true] at h
    have A := hA _ h.1
    cases A with
    | cons hs se st t =>
      cases t
      exact src_keys se.pe hs
  | items =>
    cases iter <;> first | (simp only [chkIt] at h; exact absurd h Bool.false_ne_true) | skip
    rename_i f as kws p
    cases f <;> first | (simp only [chkIt] at h; exact absurd h Bool.false_ne_true) | skip
    rename_i o m ap
    match as, kws, h with
    | [], [], h =>
      simp only [chkIt, Bool.and_eq_true, decide_eq_true_eq] at h
      obtain ⟨⟨⟨⟨ht, rfl⟩, hl⟩, ho⟩, hq⟩ := h
      have A := hA _ hl
      cases tg <;> first | (exact absurd ht Bool.false_ne_true) | skip
      cases A with
      | cons hs se st t =>
        cases t
        exact src_items se.pe hs (base_of ho _ _ _) hq
    | _ :: _, _, h => simp only [chkIt] at h; exact absurd h Bool.false_ne_true
    | [], _ :: _, h => simp only [chkIt] at h; exact absurd h Bool.false_ne_true
  | enum =>
    cases iter <;> first | (simp only [chkIt] at h; exact absurd h Bool.false_ne_true) | skip
    rename_i f as kws p
    cases f <;> first | (simp only [chkIt] at h; exact absurd h Bool.false_ne_true) | skip
    rename_i x pp
    match as, kws, h with
    | [l], [], h =>
      simp only [chkIt, Bool.and_eq_true, decide_eq_true_eq] at h
      obtain ⟨⟨⟨ht, rfl⟩, hg⟩, hl⟩ := h
      have A := hA _ hl
      have hst : isStar l = false := by
        cases A with
        | cons hs se st t => exact st
      cases tg <;> first | (exact absurd ht Bool.false_ne_true) | skip
      exact src_enum O hg A.pa hst
    | [], _, h => simp only [chkIt] at h; exact absurd h Bool.false_ne_true
    | _ :: _ :: _, _, h => simp only [chkIt] at h; exact absurd h Bool.false_ne_true
    | [_], _ :: _, h => simp only [chkIt] at h; exact absurd h Bool.false_ne_true
theorem joinC_of {o : CE} {k : Const} (h : joinC o k = true) : ∃ x, o = .c (.str x) ∧ k = .str x ∧ x.length ≤ maxLen := by
  cases o <;> first | (exact absurd h Bool.false_ne_true) | skip
  rename_i d
  cases d <;> first | (exact absurd h Bool.false_ne_true) | skip
  rename_i x
  cases k <;> first | (exact absurd h Bool.false_ne_true) | skip
  rename_i y
  have h : (decide (x = y) && decide (x.length ≤ maxLen)) = true := h
  simp only [Bool.and_eq_true, decide_eq_true_eq] at h
  exact ⟨x, rfl, by rw [h.1], h.2⟩
theorem noC_of {lo : CE} (h : noC lo = true) : lo = .no := by
  cases lo <;> first | rfl | (exact absurd h Bool.false_ne_true)
theorem trueC_of {c : CE} (h : trueC c = true) : c = .c (.bl true) := by
  cases c <;> first | (exact absurd h Bool.false_ne_true) | skip
  rename_i d
  cases d <;> first | (exact absurd h Bool.false_ne_true) | skip
  rename_i b
  cases b
  · exact absurd h Bool.false_ne_true
  · rfl
/-- a bool operation's rest -/
theorem rest_pe {op : BoolOp} {y : Expr} {rest : List Expr} {p : Pos} {t : TE} (h : PE X (restOf op y rest p) t) : PE X (.BoolOp op (y :: rest) p) t := by
  cases rest with
  | nil => exact pe_one h
  | cons _ _ => exact h
end
end DC

set_option linter.all false
set_option Elab.async false
set_option maxRecDepth 100000
set_option maxHeartbeats 4000000
/-! DSnd2: the checker is sound for expressions: the recursion. -/
namespace DC
open PySem L2 PySem.Spec PyProof.Rows
def Snd (T : Tb) (ca : Str → Addr) (cx : Ck) (n : Nat) (N : List Str) (a : CE) : Prop := ∀ (sc : Scope) (e : Expr) (W : WX) (X : Cx), XOk T ca cx n N W sc X → chkE cx N a sc e = true → SE ca W X a e (evalE T (callN T n) a)
def Snds (T : Tb) (ca : Str → Addr) (cx : Ck) (n : Nat) (N : List Str) (as : List CE) : Prop := ∀ (sc : Scope) (es : List Expr) (W : WX) (X : Cx), XOk T ca cx n N W sc X → chkEs cx N as sc es = true → AllSE T n ca W X as es
section
variable {T : Tb} {ca : Str → Addr} {cx : Ck} {n : Nat} {N : List Str} {a b c : CE} {as : List CE}
theorem snd_c (d : D) : Snd T ca cx n N (.c d) := by
  intro sc e W X O h
  unfold chkE at h
  split at h <;> first | (exact absurd h Bool.false_ne_true) | skip
  exact SE.of (s_c h) (fun _ => rfl) rfl rfl
theorem snd_v (i : Nat) : Snd T ca cx n N (.v i) := by
  intro sc e W X O h
  unfold chkE at h
  split at h <;> first | (exact absurd h Bool.false_ne_true) | skip
  exact SE.of (s_v O h) (fun _ => rfl) rfl rfl
theorem snd_pk (i : Nat) : Snd T ca cx n N (.pk i) := by
  intro sc e W X O h
  unfold chkE at h
  split at h <;> first | (exact absurd h Bool.false_ne_true) | skip
  exact SE.of (s_pk O h) (fun _ => rfl) rfl rfl
theorem snd_g (i : Nat) : Snd T ca cx n N (.g i) := by
  intro sc e W X O h
  unfold chkE at h
  split at h <;> first | (exact absurd h Bool.false_ne_true) | skip
  simp only [Bool.and_eq_true, decide_eq_true_eq] at h
  exact SE.of (s_g O h.1 h.2) (fun _ => rfl) rfl rfl
theorem snd_no : Snd T ca cx n N .no := by
  intro sc e W X O h
  unfold chkE at h
  exact absurd h Bool.false_ne_true
theorem snd_bin (o : Op) (ha : Snd T ca cx n N a) (hb : Snd T ca cx n N b) : Snd T ca cx n N (.bin o a b) := by
  intro sc e W X O h
  unfold chkE at h
  split at h <;> first | (exact absurd h Bool.false_ne_true) | skip
  simp only [Bool.and_eq_true, decide_eq_true_eq] at h
  obtain ⟨⟨rfl, h1⟩, h2⟩ := h
  exact SE.of (s_bin o (ha _ _ _ _ O h1).pe (hb _ _ _ _ O h2).pe) (fun _ => rfl) rfl rfl
theorem snd_neg (ha : Snd T ca cx n N a) : Snd T ca cx n N (.neg a) := by
  intro sc e W X O h
  unfold chkE at h
  split at h <;> first | (exact absurd h Bool.false_ne_true) | skip
  simp only [Bool.and_eq_true, decide_eq_true_eq] at h
  obtain ⟨rfl, h1⟩ := h
  exact SE.of (s_neg (ha _ _ _ _ O h1).pe) (fun _ => rfl) rfl rfl
theorem snd_cmp (o : Cm) (ha : Snd T ca cx n N a) (hb : Snd T ca cx n N b) : Snd T ca cx n N (.cmp o a b) := by
  intro sc e W X O h
  unfold chkE at h
  split at h <;> first | (exact absurd h Bool.false_ne_true) | skip
  simp only [Bool.and_eq_true, decide_eq_true_eq] at h
  obtain ⟨⟨⟨rfl, h1⟩, h2⟩, h3⟩ := h
  have z := fun se p => s_cmp (se := se) (p := p) O o (ha _ _ _ _ O h1).pe (hb _ _ _ _ O h2).pe (not_t h3)
  exact SE.of2 (z _ _).1 (z true _).2 rfl rfl
theorem snd_chain (o o' : Cm) (ha : Snd T ca cx n N a) (hb : Snd T ca cx n N b) (hc : Snd T ca cx n N c) : Snd T ca cx n N (.chain o o' a b c) := by
  intro sc e W X O h
  unfold chkE at h
  split at h <;> first | (exact absurd h Bool.false_ne_true) | skip
  simp only [Bool.and_eq_true, decide_eq_true_eq] at h
  obtain ⟨⟨⟨⟨⟨rfl, rfl⟩, h1⟩, h2⟩, h3⟩, h4⟩ := h
  have z := fun st p => s_chain (st := st) (p := p) O o o' (ha _ _ _ _ O h1).pe (hb _ _ _ _ O h2).pe (hc _ _ _ _ O h3).pe (not_t h4)
  exact SE.of2 (z _ _).1 (z true _).2 rfl rfl
theorem snd_and (ha : Snd T ca cx n N a) (hb : Snd T ca cx n N b) : Snd T ca cx n N (.and a b) := by
  intro sc e W X O h
  unfold chkE at h
  split at h <;> first | (exact absurd h Bool.false_ne_true) | skip
  rename_i op x y rest p
  simp only [Bool.and_eq_true, decide_eq_true_eq] at h
  obtain ⟨⟨rfl, h1⟩, h2⟩ := h
  have A := ha _ _ _ _ O h1
  have B := hb _ _ _ _ O h2
  have pw : tstOk (.and a b) = true → PW X (.BoolOp .And (x :: y :: rest) p) (tI X.K ca W ρB (fun Γ h => toB (evalE T (callN T n) (.and a b) Γ h))) := fun ht => by
    have ht : (tstOk a && tstOk b) = true := ht
    simp only [Bool.and_eq_true] at ht
    have wb : PW X (.BoolOp .And (y :: rest) p) (tI X.K ca W ρB (fun Γ h => toB (evalE T (callN T n) b Γ h))) := by
      cases rest with
      | nil => exact pw_and1 (B.pt ht.2)
      | cons z r => exact B.pw ht.2 rfl
    exact (pw_and (A.pt ht.1) wb).imp fun _ _ _ t => and_readT t
  refine ⟨(pe_and A.pe (rest_pe B.pe)).imp fun _ _ _ t => and_read t, fun ht => (pw ht).pt, fun ht _ => pw ht, fun h => absurd h Bool.false_ne_true⟩
theorem snd_or (ha : Snd T ca cx n N a) (hb : Snd T ca cx n N b) : Snd T ca cx n N (.or a b) := by
  intro sc e W X O h
  unfold chkE at h
  split at h <;> first | (exact absurd h Bool.false_ne_true) | skip
  rename_i op x y rest p
  simp only [Bool.and_eq_true, decide_eq_true_eq] at h
  obtain ⟨⟨rfl, h1⟩, h2⟩ := h
  have A := ha _ _ _ _ O h1
  have B := hb _ _ _ _ O h2
  have pw : tstOk (.or a b) = true → PW X (.BoolOp .Or (x :: y :: rest) p) (tI X.K ca W ρB (fun Γ h => toB (evalE T (callN T n) (.or a b) Γ h))) := fun ht => by
    have ht : (tstOk a && tstOk b) = true := ht
    simp only [Bool.and_eq_true] at ht
    have wb : PW X (.BoolOp .Or (y :: rest) p) (tI X.K ca W ρB (fun Γ h => toB (evalE T (callN T n) b Γ h))) := by
      cases rest with
      | nil => exact pw_or1 (B.pt ht.2)
      | cons z r => exact B.pw ht.2 rfl
    exact (pw_or (A.pt ht.1) wb).imp fun _ _ _ t => or_readT t
  refine ⟨(pe_or A.pe (rest_pe B.pe)).imp fun _ _ _ t => or_read t, fun ht => (pw ht).pt, fun ht _ => pw ht, fun h => absurd h Bool.false_ne_true⟩
theorem snd_not (ha : Snd T ca cx n N a) : Snd T ca cx n N (.not a) := by
  intro sc e W X O h
  unfold chkE at h
  split at h <;> first | (exact absurd h Bool.false_ne_true) | skip
  simp only [Bool.and_eq_true, decide_eq_true_eq] at h
  obtain ⟨rfl, h1⟩ := h
  have A := ha _ _ _ _ O h1
  exact ⟨(pe_not A.pe).imp fun _ _ _ t => not_read t, fun ht => (pt_not (A.pt ht)).imp fun _ _ _ t => not_readT t, fun _ h => absurd h Bool.false_ne_true, fun h => absurd h Bool.false_ne_true⟩
/-- weaker -/
theorem pe_weak {X : Cx} {W : WX} {e : Expr} {ev : List Slot → List Cell → Out D} {s t : Bool} (h : PE X e (tI X.K ca W (ρE X.K s) ev)) (hst : t = true → s = true) : PE X e (tI X.K ca W (ρE X.K t) ev) := by
  refine h.imp fun σ H Q ⟨R, G, μ, Γ, hh, S, g⟩ => ⟨R, G, μ, Γ, hh, S, ?_⟩
  match ev Γ hh, g with
  | none, g => exact g
  | some (.exc e h'), g => exact g
  | some (.ok d h'), g =>
    intro v G1 μ1 H1 S1 X1 r
    refine g v G1 μ1 H1 S1 X1 ?_
    have r : RE X.K s Γ σ G1 μ1 H1 d v := r
    show RE X.K t Γ σ G1 μ1 H1 d v
    cases t with
    | true => exact .of (r.s (hst rfl))
    | false => exact r.w
theorem snd_ite (hc : Snd T ca cx n N c) (ha : Snd T ca cx n N a) (hb : Snd T ca cx n N b) : Snd T ca cx n N (.ite c a b) := by
  intro sc e W X O h
  unfold chkE at h
  split at h <;> first | (exact absurd h Bool.false_ne_true) | skip
  simp only [Bool.and_eq_true, decide_eq_true_eq] at h
  obtain ⟨⟨⟨h0, h1⟩, h2⟩, h3⟩ := h
  have A := ha _ _ _ _ O h2
  have B := hb _ _ _ _ O h3
  have C := hc _ _ _ _ O h1
  have w1 : strong (.ite c a b) = true → strong a = true := fun z => by
    have z : (strong a && strong b) = true := z
    simp only [Bool.and_eq_true] at z
    exact z.1
  have w2 : strong (.ite c a b) = true → strong b = true := fun z => by
    have z : (strong a && strong b) = true := z
    simp only [Bool.and_eq_true] at z
    exact z.2
  exact ⟨(pe_ifExp (C.pt h0) (pe_weak A.pe w1) (pe_weak B.pe w2)).imp fun _ _ _ t => ite_read t, fun h => absurd h Bool.false_ne_true, fun h => absurd h Bool.false_ne_true, fun h => absurd h Bool.false_ne_true⟩
theorem snd_isi (ty : Ty) (ha : Snd T ca cx n N a) : Snd T ca cx n N (.isi ty a) := by
  intro sc e W X O h
  unfold chkE at h
  split at h <;> first | (exact absurd h Bool.false_ne_true) | skip
  simp only [Bool.and_eq_true, decide_eq_true_eq] at h
  obtain ⟨⟨⟨⟨⟨rfl, h1⟩, h2⟩, rfl⟩, h3⟩, h4⟩ := h
  exact SE.of (s_isi O ty h1 h2 (ha _ _ _ _ O h3).pe (not_t h4)) (fun _ => rfl) rfl rfl
theorem snd_b1 (f : B1) (ha : Snd T ca cx n N a) : Snd T ca cx n N (.b1 f a) := by
  intro sc e W X O h
  unfold chkE at h
  split at h <;> first | (exact absurd h Bool.false_ne_true) | skip
  simp only [Bool.and_eq_true, decide_eq_true_eq] at h
  obtain ⟨⟨⟨rfl, h1⟩, h3⟩, h4⟩ := h
  by_cases hf : f = .dict ∨ f = .list
  · exact SE.ofF (s_b1F O f hf h1 (ha _ _ _ _ O h3).pe (not_t h4)) (fun _ => rfl) rfl
  · refine SE.of (s_b1 O f h1 (ha _ _ _ _ O h3).pe (not_t h4)) (fun _ => rfl) rfl ?_
    cases f <;> first | rfl | exact absurd (.inl rfl) hf | exact absurd (.inr rfl) hf
theorem snd_b2 (f : B2) (ha : Snd T ca cx n N a) (hb : Snd T ca cx n N b) : Snd T ca cx n N (.b2 f a b) := by
  intro sc e W X O h
  unfold chkE at h
  split at h <;> first | (exact absurd h Bool.false_ne_true) | skip
  simp only [Bool.and_eq_true, decide_eq_true_eq] at h
  obtain ⟨⟨⟨⟨⟨rfl, h1⟩, h2⟩, h3⟩, h4⟩, h5⟩ := h
  exact SE.of (s_b2 O f h1 (ha _ _ _ _ O h2).pe (hb _ _ _ _ O h3).pe (not_t h4) (not_t h5)) (fun _ => rfl) rfl rfl
theorem snd_bm (f : Bm) (hb : Snd T ca cx n N b) : Snd T ca cx n N (.bm f a b) := by
  intro sc e W X O h
  unfold chkE at h
  split at h <;> first | (exact absurd h Bool.false_ne_true) | skip
  simp only [Bool.and_eq_true, decide_eq_true_eq] at h
  cases f
  obtain ⟨⟨⟨⟨⟨_, rfl⟩, h1⟩, h2⟩, h3⟩, h4⟩ := h
  obtain ⟨x, rfl, rfl, hx⟩ := joinC_of h1
  exact SE.of (s_join hx (hb _ _ _ _ O h2).pe (not_t h3) h4) (fun _ => rfl) rfl rfl
theorem snd_call (f : Nat) (ha : Snds T ca cx n N as) : Snd T ca cx n N (.call f as) := by
  intro sc e W X O h
  unfold chkE at h
  split at h <;> first | (exact absurd h Bool.false_ne_true) | skip
  · rename_i x _ l ls _
    simp only [Bool.and_eq_true, decide_eq_true_eq] at h
    obtain ⟨⟨h1, h2⟩, h3⟩ := h
    have A := ha _ _ _ _ O h3
    have hst : isStar l = false ∧ (starEach ls X.env).any (·.1) = false := by
      cases A with
      | cons hs se st t => exact ⟨st, t.stars⟩
    exact SE.of (s_call O h1 h2 A.pa hst.1 hst.2) (fun _ => rfl) rfl rfl
  · simp only [Bool.and_eq_true, decide_eq_true_eq] at h
    obtain ⟨⟨h1, h2⟩, h3⟩ := h
    have A := ha _ _ _ _ O h3
    cases A
    exact SE.of (s_call0 O h1 h2) (fun _ => rfl) rfl rfl
theorem snd_ix (ha : Snd T ca cx n N a) (hb : Snd T ca cx n N b) : Snd T ca cx n N (.ix a b) := by
  intro sc e W X O h
  unfold chkE at h
  split at h <;> first | (exact absurd h Bool.false_ne_true) | skip
  simp only [Bool.and_eq_true] at h
  obtain ⟨⟨h1, h2⟩, h3⟩ := h
  exact SE.of (s_ix O (ha _ _ _ _ O h1).pe (hb _ _ _ _ O h2).pe (not_t h3)) (fun _ => rfl) rfl rfl
theorem bd_of {W : WX} {sc : Scope} {X : Cx} (O : XOk T ca cx n N W sc X) (ha : Snd T ca cx n N a) {x : Option Expr} (h : (match x with
    | none => noC a
    | some x => chkE cx N a sc x) = true) : BdOk X ca W (isNo a) x (evalE T (callN T n) a) := by
  cases x with
  | none =>
    have := noC_of h
    subst this
    exact ⟨rfl, fun _ _ => rfl⟩
  | some x =>
    have h : chkE cx N a sc x = true := h
    refine ⟨?_, _, (ha _ _ _ _ O h).pe⟩
    cases a <;> first | rfl | (unfold chkE at h; exact absurd h Bool.false_ne_true)
theorem snd_sl {lo hi : CE} (ha : Snd T ca cx n N a) (hb : Snd T ca cx n N lo) (hc : Snd T ca cx n N hi) : Snd T ca cx n N (.sl a lo hi) := by
  intro sc e W X O h
  unfold chkE at h
  split at h <;> first | (exact absurd h Bool.false_ne_true) | skip
  simp only [Bool.and_eq_true] at h
  obtain ⟨⟨h1, h2⟩, h3⟩ := h
  exact SE.of (s_sl (ha _ _ _ _ O h1).pe (bd_of O hb h2) (bd_of O hc h3)) (fun _ => rfl) rfl rfl
theorem snd_tup (ha : Snds T ca cx n N as) : Snd T ca cx n N (.tup as) := by
  intro sc e W X O h
  unfold chkE at h
  split at h <;> first | (exact absurd h Bool.false_ne_true) | skip
  exact SE.of (s_tup (ha _ _ _ _ O h).pa) (fun _ => rfl) rfl rfl
theorem snd_lst (ha : Snds T ca cx n N as) : Snd T ca cx n N (.lst as) := by
  intro sc e W X O h
  unfold chkE at h
  split at h <;> first | (exact absurd h Bool.false_ne_true) | skip
  exact SE.ofF (s_lstF (ha _ _ _ _ O h).pa) (fun _ => rfl) rfl
theorem snd_dictC (ks : List Key) (ha : Snds T ca cx n N as) : Snd T ca cx n N (.dct ks as) := by
  intro sc e W X O h
  unfold chkE at h
  split at h <;> first | (exact absurd h Bool.false_ne_true) | skip
  simp only [Bool.and_eq_true, decide_eq_true_eq] at h
  obtain ⟨⟨⟨⟨h1, h2⟩, h3⟩, h4⟩, h5⟩ := h
  exact SE.ofF (snd_dct (ha _ _ _ _ O h4) h1 h2 h3 h5) (fun _ => rfl) rfl
theorem snd_new (ha : Snd T ca cx n N a) : Snd T ca cx n N (.new a) := by
  intro sc e W X O h
  unfold chkE at h
  simp only [Bool.and_eq_true] at h
  obtain ⟨h1, h2⟩ := h
  have A := ha _ _ _ _ O h2
  have pe : PE X e (tI X.K ca W (ρE X.K (strong (.new a))) (evalE T (callN T n) (.new a))) := (A.pf h1).imp fun _ _ _ t => new_of t
  cases a <;> first | (exact absurd h1 Bool.false_ne_true) | skip
  all_goals
    unfold chkE at h2
    split at h2 <;> first | (exact absurd h2 Bool.false_ne_true) | skip
    exact SE.of pe (fun _ => rfl) rfl rfl
/-- what a comprehension's text is asked -/
theorem lc_parts {W : WX} {sc : Scope} {X : Cx} (O : XOk T ca cx n N W sc X) {k : ItK} {srcs : List CE} {t : Tg} {own : List Nat} {cond elt : CE} (hs : Snds T ca cx n N srcs) (hc : Snd T ca cx n N cond) (he : Snd T ca cx n N elt) {el tg iter : Expr} {ifs : List Expr} {z : Int} {scope : Scope} {p : Pos}
    (h : chkE cx N (.lc k srcs t own cond elt) sc (.ListComp el [⟨tg, iter, ifs, z⟩] scope p) = true) : z = 0 ∧ SrcOk X ca W k tg iter (evalEs T (callN T n) srcs) ∧ blkC N sc scope (ownOf N own) = true ∧ chkTg N scope t tg = true ∧
      (∀ (s : Shared) (H : Hp) (C : Addr) (cl : List (Str × Addr)) (fp : List Addr), PTs (X.blk s H scope (compEnvC scope cl C X.env) fp) ifs (condT X.K ca ifs (evalE T (callN T n) cond))) ∧
      (∀ (s : Shared) (H : Hp) (C : Addr) (cl : List (Str × Addr)) (fp : List Addr), PE (X.blk s H scope (compEnvC scope cl C X.env) fp) el (tI X.K ca WF (ρE X.K (strong elt)) (evalE T (callN T n) elt))) ∧ (∀ x, foldedSetIterable iter X.env x = pure x) ∧
      (ifs = [] → ∀ Γ h, evalE T (callN T n) cond Γ h = some (.ok (.bl true) h)) ∧ tgIn t own = true ∧ strong elt = true := by
  unfold chkE at h
  simp only [Bool.and_eq_true, decide_eq_true_eq] at h
  obtain ⟨⟨⟨⟨⟨⟨⟨⟨⟨h1, h2⟩, h3⟩, h4⟩, h5⟩, h6⟩, h7⟩, h8⟩, h9⟩, h10⟩ := h
  refine ⟨h1, snd_src O (fun es q => hs _ _ _ _ O q) h4, h2, h5, fun s H C cl fp => ?_, fun s H C cl fp => (he _ _ _ _ (blk_ok O h2 s H C cl fp) h8).pe, fold_of (not_t h10), fun e => ?_, h3, h9⟩
  · cases ifs with
    | nil => exact pts_nil
    | cons c r =>
      cases r with
      | cons _ _ => exact absurd h7 Bool.false_ne_true
      | nil => exact pts_one ((hc _ _ _ _ (blk_ok O h2 s H C cl fp) h7).pt h6)
  · subst e
    have := trueC_of h7
    subst this
    exact fun _ _ => rfl
theorem snd_lc (k : ItK) {srcs : List CE} (t : Tg) (own : List Nat) {cond elt : CE} (hs : Snds T ca cx n N srcs) (hc : Snd T ca cx n N cond) (he : Snd T ca cx n N elt) : Snd T ca cx n N (.lc k srcs t own cond elt) := by
  intro sc e W X O h
  have h' := h
  unfold chkE at h
  split at h <;> first | (exact absurd h Bool.false_ne_true) | skip
  clear h
  obtain ⟨rfl, h1, h2, h3, h4, h5, h6, h7, h8, h9⟩ := lc_parts O hs hc he h'
  exact SE.ofF (s_lcF O h1 h2 h3 h4 h5 h6 h7 h8 h9) (fun _ => rfl) rfl
theorem snd_attr (f : Str) (ha : Snd T ca cx n N a) : Snd T ca cx n N (.attr a f) := by
  intro sc e W X O h
  unfold chkE at h
  split at h <;> first | (exact absurd h Bool.false_ne_true) | skip
  simp only [Bool.and_eq_true, decide_eq_true_eq] at h
  obtain ⟨⟨rfl, h1⟩, h2⟩ := h
  exact SE.of (s_attr O (ha _ _ _ _ O h1).pe h2) (fun _ => rfl) rfl rfl
theorem nil_evs {es : List Expr} {W : WX} {X : Cx} (A : AllSE T n ca W X as es) : es = [] → ∀ Γ h, evalEs T (callN T n) as Γ h = some (.ok [] h) := by
  intro e
  subst e
  cases A
  exact fun _ _ => rfl
theorem cons_evs {es : List Expr} {W : WX} {X : Cx} (A : AllSE T n ca W X as es) : ∀ e r, es = e :: r → isStar e = false := by
  intro e r q
  subst q
  cases A with
  | cons _ _ st _ => exact st
theorem snd_meth (m : Str) (ha : Snd T ca cx n N a) (has : Snds T ca cx n N as) : Snd T ca cx n N (.meth a m as) := by
  intro sc e W X O h
  unfold chkE at h
  split at h <;> first | (exact absurd h Bool.false_ne_true) | skip
  · simp only [Bool.and_eq_true, decide_eq_true_eq] at h
    obtain ⟨⟨⟨⟨⟨rfl, h1⟩, h2⟩, h3⟩, h4⟩, h5⟩ := h
    have A := has _ _ _ _ O h3
    exact SE.of (s_meth O (ha _ _ _ _ O h1).pe h2 A.pa A.stars (cons_evs A) (nil_evs A) (by simp only [List.length_cons]; omega) h4) (fun _ => rfl) rfl rfl
  · simp only [Bool.and_eq_true, decide_eq_true_eq] at h
    obtain ⟨⟨⟨⟨rfl, h1⟩, h2⟩, h3⟩, h4⟩ := h
    have A := has _ _ _ _ O h3
    exact SE.of (s_meth O (ha _ _ _ _ O h1).pe h2 A.pa A.stars (cons_evs A) (nil_evs A) (by decide) h4) (fun _ => rfl) rfl rfl
theorem snd_make (c : Str) (has : Snds T ca cx n N as) : Snd T ca cx n N (.make c as) := by
  intro sc e W X O h
  unfold chkE at h
  split at h <;> first | (exact absurd h Bool.false_ne_true) | skip
  · simp only [Bool.and_eq_true, decide_eq_true_eq] at h
    obtain ⟨⟨h1, rfl⟩, h3⟩ := h
    have A := has _ _ _ _ O h3
    exact SE.of (s_make O h1 A.pa A.stars (cons_evs A) (nil_evs A)) (fun _ => rfl) rfl rfl
  · simp only [Bool.and_eq_true, decide_eq_true_eq] at h
    obtain ⟨⟨h1, rfl⟩, h3⟩ := h
    have A := has _ _ _ _ O h3
    exact SE.of (s_make O h1 A.pa A.stars (cons_evs A) (nil_evs A)) (fun _ => rfl) rfl rfl
theorem snd_getd (ha : Snd T ca cx n N a) (hb : Snd T ca cx n N b) (hc : Snd T ca cx n N c) : Snd T ca cx n N (.getd a b c) := by
  intro sc e W X O h
  unfold chkE at h
  split at h <;> first | (exact absurd h Bool.false_ne_true) | skip
  simp only [Bool.and_eq_true, decide_eq_true_eq] at h
  obtain ⟨⟨⟨⟨⟨⟨⟨⟨rfl, h1⟩, h2⟩, h3⟩, h4⟩, h5⟩, h6⟩, h7⟩, h8⟩ := h
  exact SE.of (s_getd O (ha _ _ _ _ O h1).pe h2 (hb _ _ _ _ O h3).pe (hc _ _ _ _ O h4).pe h5 (not_t h6) (not_t h7) h8) (fun _ => rfl) rfl rfl
theorem snd_orv (ha : Snd T ca cx n N a) (hb : Snd T ca cx n N b) : Snd T ca cx n N (.orv a b) := by
  intro sc e W X O h
  unfold chkE at h
  split at h <;> first | (exact absurd h Bool.false_ne_true) | skip
  rename_i op x y rest p
  simp only [Bool.and_eq_true, decide_eq_true_eq] at h
  obtain ⟨⟨rfl, h1⟩, h2⟩ := h
  have A := ha _ _ _ _ O h1
  have B := hb _ _ _ _ O h2
  have w1 : strong (.orv a b) = true → strong a = true := fun z => by
    have z : (strong a && strong b) = true := z
    simp only [Bool.and_eq_true] at z
    exact z.1
  have w2 : strong (.orv a b) = true → strong b = true := fun z => by
    have z : (strong a && strong b) = true := z
    simp only [Bool.and_eq_true] at z
    exact z.2
  exact ⟨s_orv A.pe (rest_pe B.pe) w1 w2, fun h => absurd h Bool.false_ne_true, fun h => absurd h Bool.false_ne_true, fun h => absurd h Bool.false_ne_true⟩
theorem snd_popK (ha : Snd T ca cx n N a) (hb : Snd T ca cx n N b) : Snd T ca cx n N (.popK a b) := by
  intro sc e W X O h
  unfold chkE at h
  split at h <;> first | (exact absurd h Bool.false_ne_true) | skip
  simp only [Bool.and_eq_true, decide_eq_true_eq] at h
  obtain ⟨⟨⟨⟨⟨rfl, h1⟩, h2⟩, h3⟩, h4⟩, h5⟩ := h
  exact SE.of (s_popK O (ha _ _ _ _ O h1).pe h2 (hb _ _ _ _ O h3).pe (not_t h4) h5) (fun _ => rfl) rfl rfl
theorem snd_popL (ha : Snd T ca cx n N a) : Snd T ca cx n N (.popL a) := by
  intro sc e W X O h
  unfold chkE at h
  split at h <;> first | (exact absurd h Bool.false_ne_true) | skip
  simp only [Bool.and_eq_true, decide_eq_true_eq] at h
  obtain ⟨⟨⟨rfl, h1⟩, h2⟩, h3⟩ := h
  exact SE.of (s_popL (ha _ _ _ _ O h1).pe h2 h3) (fun _ => rfl) rfl rfl
theorem snd_lkd (i : Nat) (p : List Stp) (ha : Snd T ca cx n N a) : Snd T ca cx n N (.lkd i p a) := by
  intro sc e W X O h
  unfold chkE at h
  simp only [Bool.and_eq_true] at h
  obtain ⟨⟨h1, h2⟩, _⟩ := h
  have A := (ha _ _ _ _ O h2).pe
  rw [h1] at A
  refine ⟨s_lkd A, fun h => absurd h Bool.false_ne_true, fun h => absurd h Bool.false_ne_true, fun h => absurd h Bool.false_ne_true⟩
theorem snds_nil : Snds T ca cx n N [] := by
  intro sc es W X O h
  unfold chkEs at h
  cases es with
  | nil => exact .nil
  | cons _ _ => exact absurd h Bool.false_ne_true
theorem snds_cons (ha : Snd T ca cx n N a) (has : Snds T ca cx n N as) : Snds T ca cx n N (a :: as) := by
  intro sc es W X O h
  unfold chkEs at h
  cases es with
  | nil => exact absurd h Bool.false_ne_true
  | cons e es =>
    simp only [Bool.and_eq_true] at h
    obtain ⟨⟨⟨h1, h2⟩, h3⟩, h4⟩ := h
    exact .cons h1 (ha _ _ _ _ O h2) (not_t h3) (has _ _ _ _ O h4)
mutual
theorem snd : ∀ a : CE, Snd T ca cx n N a
  | .c d => snd_c d
  | .v i => snd_v i
  | .pk i => snd_pk i
  | .g i => snd_g i
  | .no => snd_no
  | .bin o a b => snd_bin o (snd a) (snd b)
  | .neg a => snd_neg (snd a)
  | .cmp o a b => snd_cmp o (snd a) (snd b)
  | .chain o o' a b c => snd_chain o o' (snd a) (snd b) (snd c)
  | .and a b => snd_and (snd a) (snd b)
  | .or a b => snd_or (snd a) (snd b)
  | .not a => snd_not (snd a)
  | .ite c a b => snd_ite (snd c) (snd a) (snd b)
  | .isi t a => snd_isi t (snd a)
  | .b1 f a => snd_b1 f (snd a)
  | .b2 f a b => snd_b2 f (snd a) (snd b)
  | .bm f a b => snd_bm f (snd b)
  | .call f as => snd_call f (snds as)
  | .ix a b => snd_ix (snd a) (snd b)
  | .sl a b c => snd_sl (snd a) (snd b) (snd c)
  | .tup as => snd_tup (snds as)
  | .lst as => snd_lst (snds as)
  | .dct ks as => snd_dictC ks (snds as)
  | .lc k srcs t own cond elt => snd_lc k t own (snds srcs) (snd cond) (snd elt)
  | .new a => snd_new (snd a)
  | .attr a f => snd_attr f (snd a)
  | .meth a m as => snd_meth m (snd a) (snds as)
  | .make c as => snd_make c (snds as)
  | .getd a b c => snd_getd (snd a) (snd b) (snd c)
  | .orv a b => snd_orv (snd a) (snd b)
  | .popK a b => snd_popK (snd a) (snd b)
  | .popL a => snd_popL (snd a)
  | .lkd i p a => snd_lkd i p (snd a)
theorem snds : ∀ as : List CE, Snds T ca cx n N as
  | [] => snds_nil
  | a :: as => snds_cons (snd a) (snds as)
end
end
end DC

set_option linter.all false
set_option Elab.async false
set_option maxRecDepth 100000
set_option maxHeartbeats 4000000
/-! DStm: statements: the checker, what a core statement wants (GoS, tS). -/
namespace DC
open PySem L2 PySem.Spec PyProof.Rows
def swB (sc : Scope) (x : Str) (p : Pos) (e : Expr) : Bool := match e with
  | .ListComp _ _ scope q => decide (sc.names.lookup x = some .local) && (p.line == q.line) && !(scope.names.any fun (n, k) => n == x && (k == .local || k == .cell))
  | e => noComp e
mutual
def chkS (cx : Ck) (N : List Str) (sc : Scope) : CS → Stmt → Bool
  | .asg i a, st => match st with
    | .Assign [.Name x p'] e _ => tgtB N sc i x && strong a && chkE cx N a sc e && swB sc x p' e
    | _ => false
  | .own i a, st => match st with
    | .Assign [.Name x p'] e _ => tgtB N sc i x && fresh a && chkE cx N a sc e && swB sc x p' e
    | _ => false
  | .frz _, _ => false
  | .utup _ _, _ => false
  | .stIx o i a, st => match st with
    | .Assign [.Subscript oe ie _] e _ => strong a && chkE cx N a sc e && noComp e && chkE cx N o sc oe && chkE cx N i sc ie && !isSlice ie
    | _ => false
  | .aug i a, st => match st with
    | .AugAssign (.Name x _) op e _ => tgtB N sc i x && decide (op = .Add) && chkE cx N a sc e
    | _ => false
  | .app i a, st => match st with
    | .Expr (.Call (.Attribute (.Name x _) m ap) [l] [] cp) _ => slotB N sc i x && decide (m = ("append" : Str)) && strong a && chkE cx N a sc l && !isStar l && (ap.endLine == cp.line)
    | _ => false
  | .ex a, st => match st with
    | .Expr e _ => chkE cx N a sc e && noComp e
    | _ => false
  | .ret a, st => match st with
    | .Return (some e) _ => strong a && chkE cx N a sc e
    | _ => false
  | .retN, st => match st with
    | .Return none _ => true
    | _ => false
  | .pass, st => match st with
    | .Pass _ => true
    | _ => false
  | .ite t a b, st => match st with
    | .If c x y _ => tstOk t && chkE cx N t sc c && chkSs cx N sc a x && chkSs cx N sc b y
    | _ => false
  | .for_ k srcs tg body, st => match st with
    | .For tg' iter b [] _ => chkIt (fun es => chkEs cx N srcs sc es) k sc iter tg' && chkTg N sc tg tg' && chkSs cx N sc body b && !isSetD iter
    | _ => false
  | .appR o a, st => match st with
    | .Expr (.Call (.Attribute oe m ap) [l] [] cp) _ => decide (m = ("append" : Str)) && chkE cx N o sc oe && objE oe && strong a && chkE cx N a sc l && !isStar l && (ap.endLine == cp.line)
    | _ => false
  | .stAt o f a, st => match st with
    | .Assign [.Attribute oe f' _] e _ => decide (f' = f) && strong a && chkE cx N a sc e && chkE cx N o sc oe
    | _ => false
  | .augAt o f a, st => match st with
    | .AugAssign (.Attribute oe f' _) op e _ => decide (f' = f) && decide (op = .Add) && chkE cx N o sc oe && chkE cx N a sc e
    | _ => false
  | .whl t b, st => match st with
    | .While c y [] _ => tstOk t && chkE cx N t sc c && chkSs cx N sc b y
    | _ => false
  | .brk, st => match st with
    | .Break _ => true
    | _ => false
  | .cont, st => match st with
    | .Continue _ => true
    | _ => false
  | .lkd _ _ s, st => chkS cx N sc s st
termination_by structural s => s
def chkSs (cx : Ck) (N : List Str) (sc : Scope) : List CS → List Stmt → Bool
  | [], sts => match sts with
    | [] => true
    | _ => false
  | s :: ss, sts => match s with
    | .frz _ => chkSs cx N sc ss sts
    | s' => match sts with
      | st :: sts => chkS cx N sc s st && chkSs cx N sc ss sts
      | [] => false
termination_by structural ss => ss
end
def GoS (K : PySem.W.Frag) (ca : Str → Addr) (W : WX) (R : Fr) (G : Hp) (μ : List Addr) (r : OutS) (D : Ends) : Prop :=
  match r with
  | none => False
  | some (.nx Γ h) => ∀ σ G' μ' H, Sim K R G' μ' Γ h σ H → Same G G' → μ <+: μ' → D.nx σ H
  | some (.brk Γ h) => ∀ σ G' μ' H, Sim K R G' μ' Γ h σ H → Same G G' → μ <+: μ' → D.bk σ H
  | some (.cont Γ h) => ∀ σ G' μ' H, Sim K R G' μ' Γ h σ H → Same G G' → μ <+: μ' → D.ct σ H
  | some (.ret d h) => ∀ v G' μ' H, Sim K R G' μ' [] h [] H → Same G G' → μ <+: μ' → RD K G' μ' d v → D.rt v H
  | some (.exc e Γ h) => ∀ cls dx σ G' μ' H, Sim K R G' μ' Γ h σ H → ExcAt ca e cls dx → W cls dx σ H
def tS (K : PySem.W.Frag) (ca : Str → Addr) (W : WX) (ex : List Slot → List Cell → OutS) : TS := fun D σ H =>
  ∃ (R : Fr) (G : Hp) (μ : List Addr) (Γ : List Slot) (h : List Cell), Sim K R G μ Γ h σ H ∧ GoS K ca W R G μ (ex Γ h) D
section
variable {K : PySem.W.Frag} {ca : Str → Addr} {W : WX} {R : Fr} {G G1 : Hp} {μ μ1 : List Addr} {Γ : List Slot} {h : List Cell} {σ : L2.St} {H : Hp} {D : Ends}
theorem GoS.shift {r : OutS} (g : GoS K ca W R G μ r D) (e : Same G G1) (m : μ <+: μ1) : GoS K ca W R G1 μ1 r D := by
  match r, g with
  | none, g => exact g
  | some (.nx Γ h), g => exact fun σ G' μ' H S e' m' => g σ G' μ' H S (e.trans e') (m.trans m')
  | some (.brk Γ h), g => exact fun σ G' μ' H S e' m' => g σ G' μ' H S (e.trans e') (m.trans m')
  | some (.cont Γ h), g => exact fun σ G' μ' H S e' m' => g σ G' μ' H S (e.trans e') (m.trans m')
  | some (.ret d h), g => exact fun v G' μ' H S e' m' => g v G' μ' H S (e.trans e') (m.trans m')
  | some (.exc e Γ h), g => exact g
theorem GoS.bnd {α β : Type} {ρ : Rel α β} {m : Out α} {f : α → List Cell → OutS} (g : GoS K ca W R G μ (bndS Γ m f) D) :
    Go K ca W R Γ σ ρ G μ H m (fun b H1 => ∃ (a : α) (h1 : List Cell) (G1 : Hp) (μ1 : List Addr), Sim K R G1 μ1 Γ h1 σ H1 ∧ Ext Γ σ G μ H G1 μ1 H1 ∧ ρ R Γ σ G1 μ1 H1 a b ∧ GoS K ca W R G1 μ1 (f a h1) D) := by
  match m, g with
  | none, g => exact g
  | some (.ok a h'), g => exact fun b G' μ' H' S X e => ⟨a, h', G', μ', S, X, e, GoS.shift g X.gg X.mm⟩
  | some (.exc e h'), g => exact fun cls dx G' μ' H' S x => g cls dx σ G' μ' H' S x
theorem GoS.then {m : OutS} {f : List Slot → List Cell → OutS} (g : GoS K ca W R G μ (thenS m f) D) : GoS K ca W R G μ m { D with nx := tS K ca W f D } := by
  match m, g with
  | none, g => exact g
  | some (.nx Γ h), g => exact fun σ G' μ' H S e m => ⟨R, G', μ', Γ, h, S, GoS.shift g e m⟩
  | some (.brk Γ h), g => exact g
  | some (.cont Γ h), g => exact g
  | some (.ret d h), g => exact g
  | some (.exc e Γ h), g => exact g
theorem Sim.drop (S : Sim K R G μ Γ h σ H) : Sim K R G μ [] h [] H :=
  ⟨S.gh, S.fh, S.g0, S.m0, S.gf, S.mf, S.mg, S.nd, S.len, S.cells, S.ul, S.lm, rfl, fun i s e => by simp at e, fun i j a c c' e _ _ _ => by simp at e⟩
/-- an owned thing that is no longer changed -/
theorem Sim.frzOwn (S : Sim K R G μ Γ h σ H) {i : Nat} {c : Cell} (e : Γ[i]? = some (.own c)) : ∃ G', Sim K R G' μ (Γ.set i (.val c.toD)) h σ H ∧ Same G G' := by
  obtain ⟨a, q1, c1, g1, f1, m1⟩ := S.slots i _ e
  obtain ⟨o, ho⟩ := c1.there
  have S1 := S.setNo (i := i) (x := some (.ref a))
  have es : σ.set i (some (.ref a)) = σ := by
    apply List.ext_getElem?
    intro j
    by_cases hj : i = j
    · subst hj
      have hl := (List.getElem?_eq_some_iff.mp q1).1
      rw [List.getElem?_set_self hl, q1]
    · rw [List.getElem?_set_ne hj]
  rw [es] at S1
  have hi : i < Γ.length := (List.getElem?_eq_some_iff.mp e).1
  have hno : ∀ (j : Nat) (c' : Cell), (Γ.set i .no)[j]? = some (.own c') → σ[j]? ≠ some (some (.ref a)) := fun j c' e1 e2 => by
    by_cases hj : i = j
    · subst hj
      rw [List.getElem?_set_self hi] at e1
      cases e1
    · rw [List.getElem?_set_ne hj] at e1
      exact hj (S.dist i j a c c' e e1 q1 e2)
  obtain ⟨S2, X2⟩ := S1.frz ho g1 f1 m1 hno
  have S3 := S2.set (i := i) (c1.frz X2.gg (by rw [upd_same]; exact ho.symm))
  rw [es, List.set_set] at S3
  exact ⟨_, S3, X2.gg⟩
variable {X : Cx} {st : Stmt}
theorem _root_.L2.PS.imp {t t' : TS} (p : PS X st t) (h : ∀ D σ H, t' D σ H → t D σ H) : PS X st t' := ⟨fun pins s σ H D I q => p.run pins s σ H D I (h D σ H q)⟩
theorem _root_.L2.PSs.imp {sts : List Stmt} {t t' : TS} (p : PSs X sts t) (h : ∀ D σ H, t' D σ H → t D σ H) : PSs X sts t' := ⟨fun pins s σ H D I q => p.run pins s σ H D I (h D σ H q)⟩
theorem sw_no {e : Expr} {tg : Option Expr} {l : Nat} {env : Env} (h : noComp e = true) : swapsWith e tg l env = pure false := by
  cases e <;> first | rfl | (exact absurd h Bool.false_ne_true)
end
section
variable {T : Tb} {ca : Str → Addr} {cx : Ck} {n : Nat} {N : List Str} {W : WX} {sc : Scope} {X : Cx} {σ : L2.St} {H : Hp} {a b c : CE} {e : Expr}
/-- x = e -/
theorem set_ps (O : XOk T ca cx n N W sc X) {i : Nat} {x : Str} {p' p : Pos} (ht : tgtB N sc i x = true) (hc : chkE cx N a sc e = true) (hw : swB sc x p' e = true) :
    PS X (.Assign [.Name x p'] e p) (tAsg (tI X.K ca W (ρE X.K (strong a)) (evalE T (callN T n) a)) (gName i)) ∧ (fresh a = true → PS X (.Assign [.Name x p'] e p) (tAsg (tI X.K ca W (ρF X.K) (evalE T (callN T n) a)) (gName i))) := by
  obtain ⟨h1, h2, h3⟩ := tgt_loc O ht
  have hnd : X.N.Nodup := by rw [O.hN]; exact O.nd
  by_cases hn : noComp e = true
  · have A := snd a _ _ _ _ O hc
    exact ⟨ps_set hnd h1 h2 A.pe (sw_no hn) h3, fun hf => ps_set hnd h1 h2 (A.pf hf) (sw_no hn) h3⟩
  · cases e <;> first | (exact absurd rfl hn) | (exact absurd hw Bool.false_ne_true) | skip
    rename_i el gens scope q
    have hw : (decide (sc.names.lookup x = some .local) && (p'.line == q.line) && !(scope.names.any fun (n, k) => n == x && (k == .local || k == .cell))) = true := hw
    simp only [Bool.and_eq_true, decide_eq_true_eq] at hw
    obtain ⟨⟨w1, w2⟩, w3⟩ := hw
    have hl := O.hsc.lcl x w1
    have key : ∀ a', fresh a' = true → chkE cx N a' sc (.ListComp el gens scope q) = true → PS X (.Assign [.Name x p'] (.ListComp el gens scope q) p) (tAsg (tI X.K ca W (ρF X.K) (evalE T (callN T n) a')) (gName i)) := by
      intro a' hf hc'
      cases a' <;> first | (exact absurd hf Bool.false_ne_true) | (unfold chkE at hc'; exact absurd hc' Bool.false_ne_true) | skip
      rename_i k srcs t own cond elt
      have h' := hc'
      unfold chkE at hc'
      split at hc' <;> first | (exact absurd hc' Bool.false_ne_true) | skip
      rename_i e1
      clear hc'
      cases e1
      obtain ⟨rfl, q1, q2, q3, q4, q5, q6, q7, q8, q9⟩ := lc_parts O (snds srcs) (snd cond) (snd elt) h'
      exact s_lcSet O q1 q2 q3 q4 q5 q6 q7 q8 q9 h1 hl (sw_true O.kind hl w2 (not_t w3))
    refine ⟨?_, fun hf => key a hf hc⟩
    cases a <;> first | (unfold chkE at hc; exact absurd hc Bool.false_ne_true) | (unfold chkE at hc; rw [Bool.and_eq_true] at hc; exact absurd hc.2 Bool.false_ne_true) | skip
    · exact (key _ rfl hc).imp fun D σ H t => frz_of t
    · rename_i a'
      unfold chkE at hc
      simp only [Bool.and_eq_true] at hc
      exact (key a' hc.1 hc.2).imp fun D σ H t => new_of t
/-- what is shown of a statement -/
def SndS (T : Tb) (ca : Str → Addr) (cx : Ck) (n : Nat) (N : List Str) (s : CS) : Prop := ∀ (sc : Scope) (st : Stmt) (W : WX) (X : Cx), XOk T ca cx n N W sc X → chkS cx N sc s st = true → PS X st (tS X.K ca W (execS T (callN T n) s))
def SndSs (T : Tb) (ca : Str → Addr) (cx : Ck) (n : Nat) (N : List Str) (ss : List CS) : Prop := ∀ (sc : Scope) (sts : List Stmt) (W : WX) (X : Cx), XOk T ca cx n N W sc X → chkSs cx N sc ss sts = true → PSs X sts (tS X.K ca W (execSs T (callN T n) ss))
theorem st_asg (i : Nat) : SndS T ca cx n N (.asg i a) := by
  intro sc st W X O h
  unfold chkS at h
  split at h <;> first | (exact absurd h Bool.false_ne_true) | skip
  simp only [Bool.and_eq_true] at h
  obtain ⟨⟨⟨h1, h2⟩, h3⟩, h4⟩ := h
  refine (set_ps O h1 h3 h4).1.imp fun D σ H t => ?_
  obtain ⟨R, G, μ, Γ, hh, S, g⟩ := t
  refine ⟨R, G, μ, Γ, hh, S, (GoS.bnd (ρ := ρE X.K (strong a)) g).mono fun v H1 ⟨d, h1, G1, μ1, S1, X1, r1, g1⟩ => ?_⟩
  exact g1 _ G1 μ1 H1 (S1.set (RE.s r1 h2)) (Same.refl _) (List.prefix_refl _)
theorem st_own (i : Nat) : SndS T ca cx n N (.own i a) := by
  intro sc st W X O h
  unfold chkS at h
  split at h <;> first | (exact absurd h Bool.false_ne_true) | skip
  simp only [Bool.and_eq_true] at h
  obtain ⟨⟨⟨h1, h2⟩, h3⟩, h4⟩ := h
  refine ((set_ps O h1 h3 h4).2 h2).imp fun D σ H t => ?_
  obtain ⟨R, G, μ, Γ, hh, S, g⟩ := t
  refine ⟨R, G, μ, Γ, hh, S, (GoS.bnd (ρ := ρF X.K) g).mono fun v H1 ⟨d, h1, G1, μ1, S1, X1, r1, g1⟩ => ?_⟩
  obtain ⟨q, c, rfl, rfl, hc, f1, f2, f3, f4⟩ := r1
  have key : GoS X.K ca W R G1 μ1 (some (.nx (Γ.set i (.own c)) h1)) D := by
    cases c with
    | lst ds => exact g1
    | dct ks vs => exact g1
    | ins _ _ => exact hc.elim
    | llst _ => exact hc.elim
    | ldct _ _ => exact hc.elim
  refine key _ G1 μ1 H1 ?_ (Same.refl _) (List.prefix_refl _)
  by_cases hi : i < Γ.length
  · exact S1.setOwn hi hc f1 f2 f3 fun j c' e1 _ => f4 j c' e1
  · rw [List.set_eq_of_length_le (by omega), List.set_eq_of_length_le (by rw [← S1.slen]; omega)]
    exact S1
theorem st_ex : SndS T ca cx n N (.ex a) := by
  intro sc st W X O h
  unfold chkS at h
  split at h <;> first | (exact absurd h Bool.false_ne_true) | skip
  simp only [Bool.and_eq_true] at h
  refine (ps_expr (snd a _ _ _ _ O h.1).pe (sw_no h.2)).imp fun D σ H t => ?_
  obtain ⟨R, G, μ, Γ, hh, S, g⟩ := t
  refine ⟨R, G, μ, Γ, hh, S, (GoS.bnd (ρ := ρE X.K (strong a)) g).mono fun v H1 ⟨d, h1, G1, μ1, S1, X1, r1, g1⟩ => ?_⟩
  exact g1 _ G1 μ1 H1 S1 (Same.refl _) (List.prefix_refl _)
theorem st_ret : SndS T ca cx n N (.ret a) := by
  intro sc st W X O h
  unfold chkS at h
  split at h <;> first | (exact absurd h Bool.false_ne_true) | skip
  simp only [Bool.and_eq_true] at h
  refine (ps_ret (snd a _ _ _ _ O h.2).pe).imp fun D σ H t => ?_
  obtain ⟨R, G, μ, Γ, hh, S, g⟩ := t
  refine ⟨R, G, μ, Γ, hh, S, (GoS.bnd (ρ := ρE X.K (strong a)) g).mono fun v H1 ⟨d, h1, G1, μ1, S1, X1, r1, g1⟩ => ?_⟩
  exact g1 v G1 μ1 H1 S1.drop (Same.refl _) (List.prefix_refl _) (RE.s r1 h.1)
theorem st_retN : SndS T ca cx n N .retN := by
  intro sc st W X O h
  unfold chkS at h
  split at h <;> first | (exact absurd h Bool.false_ne_true) | skip
  refine ps_retN.imp fun D σ H t => ?_
  obtain ⟨R, G, μ, Γ, hh, S, g⟩ := t
  exact g .non G μ H S.drop (Same.refl _) (List.prefix_refl _) rfl
theorem st_pass : SndS T ca cx n N .pass := by
  intro sc st W X O h
  unfold chkS at h
  split at h <;> first | (exact absurd h Bool.false_ne_true) | skip
  refine ps_pass.imp fun D σ H t => ?_
  obtain ⟨R, G, μ, Γ, hh, S, g⟩ := t
  exact g σ G μ H S (Same.refl _) (List.prefix_refl _)
theorem st_ite {x y : List CS} (hx : SndSs T ca cx n N x) (hy : SndSs T ca cx n N y) : SndS T ca cx n N (.ite c x y) := by
  intro sc st W X O h
  unfold chkS at h
  split at h <;> first | (exact absurd h Bool.false_ne_true) | skip
  simp only [Bool.and_eq_true] at h
  obtain ⟨⟨⟨h1, h2⟩, h3⟩, h4⟩ := h
  refine (ps_if ((snd c _ _ _ _ O h2).pt h1) (hx _ _ _ _ O h3) (hy _ _ _ _ O h4)).imp fun D σ H t => ?_
  obtain ⟨R, G, μ, Γ, hh, S, g⟩ := t
  rw [execS] at g
  refine ⟨R, G, μ, Γ, hh, S, ?_⟩
  dsimp only
  cases z : evalE T (callN T n) c Γ hh with
  | none => rw [z] at g; exact g.elim
  | some r =>
    rw [z] at g
    cases r with
    | exc e h' => exact fun cls dx G' μ' H' S x => g cls dx σ G' μ' H' S x
    | ok d h' =>
      cases d with
      | bl b =>
        intro b' G1 μ1 H1 S1 X1 e
        cases (show b = b' from e)
        cases b with
        | true => exact ⟨R, G1, μ1, Γ, h', S1, GoS.shift g X1.gg X1.mm⟩
        | false => exact ⟨R, G1, μ1, Γ, h', S1, GoS.shift g X1.gg X1.mm⟩
      | _ => exact g.elim
theorem st_aug (i : Nat) : SndS T ca cx n N (.aug i a) := by
  intro sc st W X O h
  unfold chkS at h
  split at h <;> first | (exact absurd h Bool.false_ne_true) | skip
  simp only [Bool.and_eq_true, decide_eq_true_eq] at h
  obtain ⟨⟨h1, rfl⟩, h2⟩ := h
  obtain ⟨k1, k2, k3⟩ := tgt_loc O h1
  refine (ps_aug (by rw [O.hN]; exact O.nd) k1 k2 (snd a _ _ _ _ O h2).pe ip_add k3).imp fun D σ H t => ?_
  obtain ⟨R, G, μ, Γ, hh, S, g⟩ := t
  rw [execS] at g
  cases z : Γ[i]? with
  | none => rw [z] at g; exact g.elim
  | some s =>
    rw [z] at g
    cases s with
    | val x =>
      obtain ⟨v, e1, r⟩ := S.slots i _ z
      refine ⟨v, e1, R, G, μ, Γ, hh, S, (GoS.bnd (ρ := ρE X.K (strong a)) g).mono fun w H1 ⟨d, h1, G1, μ1, S1, X1, r1, g1⟩ => ?_⟩
      cases x with
      | int xi =>
        cases d with
        | int di =>
          have e2 : v = .int xi := r
          subst e2
          have e3 := int_at (r1 : RE X.K (strong a) Γ σ G1 μ1 H1 (.int di) w).w
          subst e3
          exact ⟨xi, di, rfl, rfl, g1 _ G1 μ1 H1 (S1.set (d := .int (xi + di)) rfl) (Same.refl _) (List.prefix_refl _)⟩
        | _ => exact g1.elim
      | _ => cases d <;> exact g1.elim
    | _ => exact g.elim
theorem st_app (i : Nat) : SndS T ca cx n N (.app i a) := by
  intro sc st W X O h
  unfold chkS at h
  split at h <;> first | (exact absurd h Bool.false_ne_true) | skip
  simp only [Bool.and_eq_true, decide_eq_true_eq] at h
  obtain ⟨⟨⟨⟨⟨h1, rfl⟩, h2⟩, h3⟩, h4⟩, h5⟩ := h
  obtain ⟨k1, k2, k3⟩ := slot_vis O h1
  obtain ⟨d1, d2, d3⟩ := nm_dbg k3
  have hst := star_of (not_t h4) [] X.env
  refine (ps_expr (pe_bm PySem.F.plainAttrs_list PySem.F.slot_list_append PySem.F.type_list_append mt_append (pe_var k1 k2 d1 d2) (pa_cons (snd a _ _ _ _ O h3).pe pa_nil hst) rfl (by rw [hst]; rfl) h5 hst rfl) rfl).imp fun D σ H t => ?_
  obtain ⟨R, G, μ, Γ, hh, S, g⟩ := t
  rw [execS] at g
  cases z : Γ[i]? with
  | none => rw [z] at g; exact g.elim
  | some s =>
    rw [z] at g
    cases s with
    | own c =>
      cases c <;> first | (exact g.elim) | skip
      rename_i ds
      obtain ⟨q, e1, c1, g1, f1, m1⟩ := S.slots i _ z
      obtain ⟨vs, y, l, t⟩ := id c1
      refine ⟨.ref q, e1, .inl ⟨rfl, vs, .of y⟩, R, G, μ, Γ, hh, S, (GoS.bnd (ρ := ρE X.K (strong a)) g).mono fun w H1 ⟨d, h1, G1, μ1, S1, X1, r1, g1⟩ => ?_⟩
      split at g1
      · rename_i hz
        have hq : H1 q = some (.lst vs) := by rw [X1.own i _ q z e1]; exact y
        have t1 := t.mono X1.gg X1.mm
        refine ⟨q, vs, w, rfl, rfl, hq, by rw [sl_eq, ← t.len]; exact hz, ?_⟩
        have S2 := S1.writeOwn (o := .lst (vs ++ [w])) z e1 (c' := .lst (ds ++ [d])) ⟨vs ++ [w], upd_same, by rw [List.length_append]; exact hz, t1.snoc (RE.s r1 h2)⟩
        exact g1 _ G1 μ1 _ S2 (Same.refl _) (List.prefix_refl _)
      · exact g1.elim
    | _ => exact g.elim
theorem st_appR {o : CE} : SndS T ca cx n N (.appR o a) := by
  intro sc st W X O h
  unfold chkS at h
  split at h <;> first | (exact absurd h Bool.false_ne_true) | skip
  simp only [Bool.and_eq_true, decide_eq_true_eq] at h
  obtain ⟨⟨⟨⟨⟨⟨rfl, h1⟩, h2⟩, h3⟩, h4⟩, h5⟩, h6⟩ := h
  have hst := star_of (not_t h5) [] X.env
  refine (ps_expr (pe_bm PySem.F.plainAttrs_list PySem.F.slot_list_append PySem.F.type_list_append mt_append (snd o _ _ _ _ O h1).pe (pa_cons (snd a _ _ _ _ O h4).pe pa_nil hst) (base_of h2 _ _ _) (by rw [hst]; rfl) h6 hst rfl) rfl).imp fun D σ H t => ?_
  obtain ⟨R, G, μ, Γ, hh, S, g⟩ := t
  rw [execS] at g
  refine ⟨R, G, μ, Γ, hh, S, (GoS.bnd (ρ := ρE X.K (strong o)) g).mono fun ov H1 ⟨y, h1', G1, μ1, S1, X1, r1, g1⟩ => ?_⟩
  split at g1
  · rename_i hy
    have w1 := (r1 : RE X.K (strong o) Γ σ G1 μ1 H1 y ov).w
    cases zl : lstOf h1' y with
    | none => rw [zl] at hy; cases hy
    | some ds0 =>
      obtain ⟨q, vs0, rfl, q0, _⟩ := lst_at S1 w1 zl
      refine ⟨.inl ⟨rfl, vs0, .of q0⟩, R, G1, μ1, Γ, h1', S1, (GoS.bnd (ρ := ρE X.K (strong a)) g1).mono fun w H2 ⟨d, h2', G2, μ2, S2, X2, r2, g2⟩ => ?_⟩
      cases zp : appRD h2' y d with
      | none => rw [zp] at g2; exact g2.elim
      | some h3' =>
        rw [zp] at g2
        unfold appRD at zp
        split at zp
        · rename_i m _
          split at zp
          · rename_i ds hc
            split at zp
            · rename_i hz
              cases zp
              obtain ⟨a', e', ha⟩ := ref_at (w1.mono X2)
              cases e'
              obtain ⟨vs, y1, y2, y3⟩ := (show CellA X.K G2 μ2 R.lk H2 q (.lst ds) from S2.cells m q _ ha hc)
              refine ⟨q, vs, w, rfl, rfl, y1, by rw [sl_eq, ← y3.len]; exact hz, ?_⟩
              obtain ⟨S3, X3⟩ := S2.write (o := .lst (vs ++ [w])) (c := .lst (ds ++ [d])) ha ⟨_, upd_same, by rw [List.length_append]; exact hz, y3.snoc (RE.s r2 h3)⟩ (fun _ => S2.ul m q _ ha hc rfl)
              exact g2 _ G2 μ2 _ S3 (Same.refl _) (List.prefix_refl _)
            · cases zp
          · cases zp
        · cases zp
  · exact g1.elim
theorem putF_rel {K : PySem.W.Frag} {G : Hp} {μ : List Addr} {f : Str} {d : D} {v : V} (r : RD K G μ d v) : ∀ {fs : List (Str × D)} {fv : List (Str × V)}, fv.map (·.1) = fs.map (·.1) → RDs K G μ (fs.map (·.2)) (fv.map (·.2)) →
    (putF f v fv).map (·.1) = (putFD f d fs).map (·.1) ∧ RDs K G μ ((putFD f d fs).map (·.2)) ((putF f v fv).map (·.2))
  | [], fv, h, t => by
    cases fv with
    | nil => exact ⟨rfl, RDs.cons r RDs.nil⟩
    | cons _ _ => simp at h
  | p :: fs, fv, h, t => by
    cases fv with
    | nil => simp at h
    | cons q fv =>
      obtain ⟨g, x⟩ := p
      obtain ⟨g', y⟩ := q
      rw [List.map_cons, List.map_cons] at h
      injection h with h1 h2
      have h1 : g' = g := h1
      subst h1
      obtain ⟨v', r', e, r1, r2⟩ := t
      rw [List.map_cons] at e
      injection e with e1 e2
      subst e2
      have e1 : y = v' := e1
      subst e1
      unfold putF putFD
      by_cases hg : g' = f
      · rw [if_pos hg, if_pos hg]
        exact ⟨by rw [List.map_cons, List.map_cons, h2], RDs.cons r r2⟩
      · rw [if_neg hg, if_neg hg]
        obtain ⟨i1, i2⟩ := putF_rel (f := f) r h2 r2
        exact ⟨by rw [List.map_cons, List.map_cons, i1], RDs.cons r1 i2⟩
theorem stAt_at (O : XOk T ca cx n N W sc X) {R : Fr} {G : Hp} {μ : List Addr} {Γ : List Slot} {h h' : List Cell} (S : Sim X.K R G μ Γ h σ H) {y d : D} {f : Str} {ov v : V} (r : RW X.K Γ σ G μ H y ov) (rd : RD X.K G μ d v) (e : stAtD T.fld h y f d = some h') :
    ∃ q C dx fs, ov = .ref q ∧ (∃ c, insD h y = some c ∧ C = clsA X.K c) ∧ H q = some (.ins C dx fs) ∧ Cls X.K C ∧ NoAttr X.K C f ∧ fs.length < 1000 ∧ Sim X.K R G μ Γ h' σ (upd H q (.ins C dx (putF f v fs))) := by
  unfold stAtD at e
  split at e
  · rename_i m
    split at e
    · rename_i c fs hc
      split at e
      · rename_i hf
        simp only [Bool.and_eq_true, decide_eq_true_eq] at hf
        cases e
        obtain ⟨a, dx, fv, rfl, ha, q1, q2, q3⟩ := ins_at S hc r
        obtain ⟨c1, c2⟩ := O.wd.flds c f hf.1
        obtain ⟨i1, i2⟩ := putF_rel (f := f) rd q2 q3
        obtain ⟨S3, X3⟩ := S.write (o := .ins (clsA X.K c) dx (putF f v fv)) (c := .ins c (putFD f d fs)) ha ⟨dx, _, upd_same, i1, i2⟩ (fun _ => S.ul m a _ ha hc rfl)
        refine ⟨a, _, dx, fv, rfl, ⟨c, by unfold insD; simp only [hc], rfl⟩, q1, c1, c2, ?_, S3⟩
        have := congrArg List.length q2
        rw [List.length_map, List.length_map] at this
        omega
      · cases e
    · cases e
  · cases e
theorem st_stAt {o : CE} {f : Str} : SndS T ca cx n N (.stAt o f a) := by
  intro sc st W X O h
  unfold chkS at h
  split at h <;> first | (exact absurd h Bool.false_ne_true) | skip
  rename_i oe _ _ e _
  simp only [Bool.and_eq_true, decide_eq_true_eq] at h
  obtain ⟨⟨⟨rfl, h1⟩, h2⟩, h3⟩ := h
  refine (ps_fld (snd o _ _ _ _ O h3).pe (snd a _ _ _ _ O h2).pe (by cases e <;> rfl)).imp fun D σ H t => ?_
  obtain ⟨R, G, μ, Γ, hh, S, g⟩ := t
  rw [execS] at g
  refine ⟨R, G, μ, Γ, hh, S, (GoS.bnd (ρ := ρE X.K (strong a)) g).mono fun v H1 ⟨d, h1', G1, μ1, S1, X1, r1, g1⟩ => ?_⟩
  refine ⟨R, G1, μ1, Γ, h1', S1, (GoS.bnd (ρ := ρE X.K (strong o)) g1).mono fun ov H2 ⟨y, h2', G2, μ2, S2, X2, r2, g2⟩ => ?_⟩
  split at g2
  · rename_i h3' zz
    obtain ⟨q, C, dx, fs, e1, _, e2, e3, e4, e5, S3⟩ := stAt_at O S2 (r2 : RE X.K (strong o) Γ σ G2 μ2 H2 y ov).w ((RE.s r1 h1).mono X2.gg X2.mm) zz
    exact ⟨q, C, dx, fs, e1, e2, e3, e4, e5, g2 _ G2 μ2 _ S3 (Same.refl _) (List.prefix_refl _)⟩
  · exact g2.elim
theorem st_augAt {o : CE} {f : Str} : SndS T ca cx n N (.augAt o f a) := by
  intro sc st W X O h
  unfold chkS at h
  split at h <;> first | (exact absurd h Bool.false_ne_true) | skip
  simp only [Bool.and_eq_true, decide_eq_true_eq] at h
  obtain ⟨⟨⟨ef, rfl⟩, h1⟩, h2⟩ := h
  have ef := ef.symm
  subst ef
  refine (ps_fldaug (snd o _ _ _ _ O h1).pe (snd a _ _ _ _ O h2).pe in_add).imp fun D σ H t => ?_
  obtain ⟨R, G, μ, Γ, hh, S, g⟩ := t
  rw [execS] at g
  refine ⟨R, G, μ, Γ, hh, S, (GoS.bnd (ρ := ρE X.K (strong o)) g).mono fun ov H1 ⟨y, h1', G1, μ1, S1, X1, r1, g1⟩ => ?_⟩
  have w1 := (r1 : RE X.K (strong o) Γ σ G1 μ1 H1 y ov).w
  cases za : attrD T.fld h1' y _ with
  | none => rw [za] at g1; exact g1.elim
  | some x =>
    rw [za] at g1
    dsimp only at g1
    unfold attrD at za
    obtain ⟨m, rfl⟩ : ∃ m, y = .ref m := by
      cases y <;> first | exact ⟨_, rfl⟩ | cases za
    dsimp only at za
    · split at za
      · rename_i c fs hc
        split at za
        · rename_i hf
          obtain ⟨q, dx, fv, rfl, _, q1, q2, q3⟩ := ins_at S1 hc w1
          obtain ⟨u, u1, u2⟩ := (look_rel q2 q3).1 x za
          obtain ⟨c1, c2⟩ := O.wd.flds c f hf
          refine ⟨q, _, dx, fv, u, rfl, q1, c1, c2, u1, R, G1, μ1, Γ, h1', S1, (GoS.bnd (ρ := ρE X.K (strong a)) g1).mono fun w H2 ⟨d, h2', G2, μ2, S2, X2, r2, g2⟩ => ?_⟩
          cases x with
          | int xi =>
            cases d with
            | int di =>
              dsimp only at g2
              have e2 : u = .int xi := u2
              subst e2
              have e3 := int_at (r2 : RE X.K (strong a) Γ σ G2 μ2 H2 (.int di) w).w
              subst e3
              refine ⟨xi, di, rfl, rfl, ?_⟩
              split at g2
              · rename_i hi
                split at g2
                · rename_i h3' zz
                  obtain ⟨q', C, dx', fs', e1, ⟨c', ec, eC⟩, e2, e3, e4, e5, S3⟩ := stAt_at (d := .int (xi + di)) (v := .int (xi + di)) O S2 (w1.mono X2) rfl zz
                  cases e1
                  have ec0 : insD h1' (.ref m) = some c := by
                    unfold insD
                    simp only [hc]
                  rw [ec0, ec] at hi
                  cases hi
                  subst eC
                  exact ⟨dx', fs', e2, e5, g2 _ G2 μ2 _ S3 (Same.refl _) (List.prefix_refl _)⟩
                · exact g2.elim
              · exact g2.elim
            | _ => exact g2.elim
          | _ => cases d <;> exact g2.elim
        · cases za
      · cases za
theorem st_brk : SndS T ca cx n N .brk := by
  intro sc st W X O h
  unfold chkS at h
  split at h <;> first | (exact absurd h Bool.false_ne_true) | skip
  refine ps_break.imp fun D σ H t => ?_
  obtain ⟨R, G, μ, Γ, hh, S, g⟩ := t
  exact g σ G μ H S (Same.refl _) (List.prefix_refl _)
theorem st_cont : SndS T ca cx n N .cont := by
  intro sc st W X O h
  unfold chkS at h
  split at h <;> first | (exact absurd h Bool.false_ne_true) | skip
  refine ps_continue.imp fun D σ H t => ?_
  obtain ⟨R, G, μ, Γ, hh, S, g⟩ := t
  exact g σ G μ H S (Same.refl _) (List.prefix_refl _)
theorem st_whl {t : CE} {b : List CS} (hb : SndSs T ca cx n N b) : SndS T ca cx n N (.whl t b) := by
  intro sc st W X O h
  unfold chkS at h
  split at h <;> first | (exact absurd h Bool.false_ne_true) | skip
  simp only [Bool.and_eq_true] at h
  obtain ⟨⟨h1, h2⟩, h3⟩ := h
  refine (ps_while O.passes ((snd t _ _ _ _ O h2).pt h1) (hb _ _ _ _ O h3)).imp fun D σ H q => ?_
  obtain ⟨R, G, μ, Γ, hh, S, g⟩ := q
  rw [execS] at g
  refine ⟨fun m σ' H' => ∃ (Gi : Hp) (μi : List Addr) (Γi : List Slot) (hi : List Cell), Sim X.K R Gi μi Γi hi σ' H' ∧ GoS X.K ca W R Gi μi (whlL (evalE T (callN T n) t) (execSs T (callN T n) b) m Γi hi) D, ⟨T.fuel, G, μ, Γ, hh, S, g⟩, ?_⟩
  rintro m σ1 H1 ⟨G1, μ1, Γ1, h1', S1, g1⟩
  cases m with
  | zero => exact g1.elim
  | succ m =>
    rw [whlL] at g1
    refine ⟨R, G1, μ1, Γ1, h1', S1, ?_⟩
    dsimp only
    cases z : evalE T (callN T n) t Γ1 h1' with
    | none => rw [z] at g1; exact g1.elim
    | some r =>
      rw [z] at g1
      cases r with
      | exc e h' => exact fun cls dx G' μ' H' S x => g1 cls dx σ1 G' μ' H' S x
      | ok d h' =>
        cases d with
        | bl b' =>
          intro b2 G2 μ2 H2 S2 X2 e
          cases (show b' = b2 from e)
          cases b' with
          | false =>
            rw [if_neg (by decide)]
            exact g1 σ1 G2 μ2 H2 S2 X2.gg X2.mm
          | true =>
            rw [if_pos rfl]
            refine ⟨fun σ3 H3 => ∃ (Gi : Hp) (μi : List Addr) (Γi : List Slot) (hi : List Cell), Sim X.K R Gi μi Γi hi σ3 H3 ∧ GoS X.K ca W R Gi μi (whlL (evalE T (callN T n) t) (execSs T (callN T n) b) m Γi hi) D, fun σ3 H3 q => ⟨m, Nat.lt_succ_self m, q⟩, R, G2, μ2, Γ1, h', S2, ?_⟩
            have g2 := GoS.shift g1 X2.gg X2.mm
            revert g2
            unfold bndS
            dsimp only
            cases execSs T (callN T n) b Γ1 h' with
            | none => exact fun g => g
            | some r =>
              cases r with
              | nx Γ2 h2 => exact fun g σ4 G4 μ4 H4 S4 e4 m4 => ⟨G4, μ4, Γ2, h2, S4, GoS.shift g e4 m4⟩
              | cont Γ2 h2 => exact fun g σ4 G4 μ4 H4 S4 e4 m4 => ⟨G4, μ4, Γ2, h2, S4, GoS.shift g e4 m4⟩
              | brk Γ2 h2 => exact fun g => g
              | ret d h2 => exact fun g => g
              | exc e Γ2 h2 => exact fun g => g
        | _ => exact g1.elim
end
end DC

set_option linter.all false
set_option Elab.async false
set_option maxRecDepth 100000
set_option maxHeartbeats 4000000
/-! DStm2: subscript stores, loops, blocks. -/
namespace DC
open PySem L2 PySem.Spec PyProof.Rows
section
variable {T : Tb} {ca : Str → Addr} {cx : Ck} {n : Nat} {N : List Str} {W : WX} {sc : Scope} {X : Cx} {σ : L2.St} {H : Hp} {a b c o i : CE} {e : Expr}
def rPut : TSet := fun o i v H Q => rSetL o i v H Q ∨ rSetD o i v H Q
theorem set_put (hu : X.A.units + 1 < cLine) : PSet X rPut := by
  intro pins s σ H o i v ov iv u Q I ro ri rv h
  rcases h with h | h
  · exact set_list pins s σ H o i v ov iv u Q I ro ri rv h
  · exact set_dict hu pins s σ H o i v ov iv u Q I ro ri rv h
theorem put_rel {K : PySem.W.Frag} {G : Hp} {μ : List Addr} {k : Key} {d : D} {v : V} (r : RD K G μ d v) : ∀ {kvs : List (Key × V)} {ks : List Key} {xs : List D}, kvs.map (·.1) = ks → RDs K G μ xs (kvs.map (·.2)) →
    (kvs.map fun kv => if kv.1 = k then (kv.1, v) else kv).map (·.1) = ks ∧ RDs K G μ (dputL ks xs k d) ((kvs.map fun kv => if kv.1 = k then (kv.1, v) else kv).map (·.2))
  | [], ks, xs, e, t => by
    subst e
    have := RDs.len t
    cases xs with
    | nil => exact ⟨rfl, RDs.nil⟩
    | cons _ _ => simp at this
  | kv :: kvs, ks, xs, e, t => by
    subst e
    cases xs with
    | nil => have := RDs.len t; simp at this
    | cons x xs =>
      obtain ⟨v0, r0, e0, q1, q2⟩ := t
      cases e0
      obtain ⟨i1, i2⟩ := put_rel (k := k) r (kvs := kvs) (xs := xs) rfl q2
      by_cases hk : kv.1 = k
      · refine ⟨?_, ?_⟩
        · simp only [List.map_cons, if_pos hk, i1]
        · simp only [List.map_cons, dputL, if_pos hk]
          exact RDs.cons r i2
      · refine ⟨?_, ?_⟩
        · simp only [List.map_cons, if_neg hk, i1]
        · simp only [List.map_cons, dputL, if_neg hk]
          exact RDs.cons q1 i2
theorem has_any {ks : List Key} {k : Key} : ∀ {kvs : List (Key × V)}, kvs.map (·.1) = ks → hasK ks k = kvs.any fun kv => decide (kv.1 = k)
  | [], e => by subst e; rfl
  | kv :: kvs, e => by
    subst e
    unfold hasK
    rw [List.map_cons, List.any_cons, List.any_cons]
    have := has_any (k := k) (kvs := kvs) rfl
    unfold hasK at this
    rw [this]
theorem key_at {K : PySem.W.Frag} {Γ : List Slot} {G : Hp} {μ : List Addr} {d : D} {v : V} {k : Key} (r : RW K Γ σ G μ H d v) (e : keyOf d = some k) : v = kV k := by
  cases d <;> first | (cases e; done) | skip
  · cases e
    exact int_at r
  · cases e
    exact (str_at r).1
theorem st_stIx : SndS T ca cx n N (.stIx o i a) := by
  intro sc st W X O h
  unfold chkS at h
  split at h <;> first | (exact absurd h Bool.false_ne_true) | skip
  rename_i oe ie p' e p
  simp only [Bool.and_eq_true] at h
  obtain ⟨⟨⟨⟨⟨h1, h2⟩, h3⟩, h4⟩, h5⟩, h6⟩ := h
  have hu := hu_room O
  have hg : PG X (.Subscript oe ie p') (gSub (tI X.K ca W (ρE X.K (strong o)) (evalE T (callN T n) o)) (tI X.K ca W (ρE X.K (strong i)) (evalE T (callN T n) i)) rPut) :=
    pg_sub (snd o _ _ _ _ O h4).pe (snd i _ _ _ _ O h5).pe (set_put (by omega)) (fun v => by cases ie <;> first | rfl | (exact absurd h6 Bool.false_ne_true))
  refine (ps_asg (snd a _ _ _ _ O h2).pe hg (by unfold swapsWithSole; exact sw_no h3) rfl).imp fun D σ H t => ?_
  obtain ⟨R, G, μ, Γ, hh, S, g⟩ := t
  rw [execS] at g
  refine ⟨R, G, μ, Γ, hh, S, (GoS.bnd (ρ := ρE X.K (strong a)) g).mono fun v H1 ⟨d, h1', G1, μ1, S1, X1, r1, g1⟩ => ?_⟩
  refine ⟨R, G1, μ1, Γ, h1', S1, (GoS.bnd (ρ := ρE X.K (strong o)) g1).mono fun ov H2 ⟨y, h2', G2, μ2, S2, X2, r2, g2⟩ => ?_⟩
  refine ⟨R, G2, μ2, Γ, h2', S2, (GoS.bnd (ρ := ρE X.K (strong i)) g2).mono fun iv H3 ⟨z, h3', G3, μ3, S3, X3, r3, g3⟩ => ?_⟩
  have rd : RD X.K G3 μ3 d v := ((RE.s r1 h1).mono X2.gg X2.mm).mono X3.gg X3.mm
  have ro := ((r2 : RE X.K (strong o) Γ σ G2 μ2 H2 y ov).w).mono X3
  have ri := (r3 : RE X.K (strong i) Γ σ G3 μ3 H3 z iv).w
  cases zz : stIxD h3' y z d with
  | none => rw [zz] at g3; exact g3.elim
  | some h4' =>
    rw [zz] at g3
    unfold stIxD at zz
    cases y <;> first | (cases zz; done) | skip
    rename_i m _
    obtain ⟨q, rfl, hq⟩ := ref_at ro
    obtain ⟨c, hc, k⟩ := S3.cell_at hq
    simp only [hc] at zz
    cases zp : putCell c z d with
    | none => rw [zp] at zz; cases zz
    | some c' =>
      rw [zp] at zz
      cases zz
      cases c with
      | ins _ _ => cases zp
      | llst _ => cases zp
      | ldct _ _ => cases zp
      | lst ds =>
        cases z <;> first | (cases zp; done) | skip
        rename_i kk
        have zp : (ixN ds.length kk).map (fun j => Cell.lst (ds.set j d)) = some c' := zp
        cases zj : ixN ds.length kk with
        | none => rw [zj] at zp; cases zp
        | some j =>
          rw [zj] at zp
          cases zp
          obtain ⟨vs, y1, y2, y3⟩ := k
          have ei := int_at ri
          subst ei
          refine .inl ⟨q, vs, kk, j, rfl, rfl, y1, by rw [← y3.len]; exact zj, ?_⟩
          obtain ⟨S4, X4⟩ := S3.write (o := .lst (vs.set j v)) (c := .lst (ds.set j d)) hq ⟨vs.set j v, upd_same, by rw [List.length_set]; exact y2, y3.set j rd⟩ (fun _ => S3.ul m q _ hq hc rfl)
          exact g3 _ G3 μ3 _ S4 (Same.refl _) (List.prefix_refl _)
      | dct ks xs =>
        have zp : (match keyOf z with
          | some k => if ks.length < maxLen then some (if hasK ks k then Cell.dct ks (dputL ks xs k d) else .dct (ks ++ [k]) (xs ++ [d])) else none
          | none => none) = some c' := zp
        cases zk : keyOf z with
        | none => rw [zk] at zp; cases zp
        | some kk =>
          rw [zk] at zp
          simp only at zp
          split at zp
          · rename_i hz
            injection zp with zp
            obtain ⟨kvs, y1, y2, y3⟩ := k
            have ei := key_at ri zk
            subst ei
            refine .inr ⟨q, _, rfl, DPut.k y1 (by have := congrArg List.length y2; rw [List.length_map] at this; rw [sl_eq, this]; exact hz), ?_⟩
            have hC : CellAt X.K G3 μ3 (upd H3 q (.dK (putK kvs kk v))) q c' := by
              subst zp
              have ha := has_any (k := kk) y2
              by_cases hb : hasK ks kk = true
              · rw [if_pos hb]
                obtain ⟨p1, p2⟩ := put_rel (k := kk) rd y2 y3
                have : putK kvs kk v = kvs.map fun kv => if kv.1 = kk then (kv.1, v) else kv := by
                  unfold putK
                  rw [if_pos (ha ▸ hb)]
                exact ⟨_, upd_same, by rw [this]; exact p1, by rw [this]; exact p2⟩
              · rw [if_neg hb]
                have : putK kvs kk v = kvs ++ [(kk, v)] := by
                  unfold putK
                  rw [if_neg (ha ▸ hb)]
                exact ⟨_, upd_same, by rw [this, List.map_append, y2]; rfl, by rw [this, List.map_append]; exact y3.snoc rd⟩
            obtain ⟨S4, X4⟩ := S3.write (o := .dK (putK kvs kk v)) hq hC.toA (fun _ => S3.ul m q _ hq hc rfl)
            exact g3 _ G3 μ3 _ S4 (Same.refl _) (List.prefix_refl _)
          · cases zp
/-! ### loops -/
abbrev bodyF (tg : Tg) (ex : List Slot → List Cell → OutS) : D → List Slot → List Cell → OutS := fun d Γ h => match setTg tg d Γ with
  | some Γ => ex Γ h
  | none => none
theorem st_for {k : ItK} {srcs : List CE} {tg : Tg} {body : List CS} (hb : SndSs T ca cx n N body) : SndS T ca cx n N (.for_ k srcs tg body) := by
  intro sc st W X O h
  unfold chkS at h
  split at h <;> first | (exact absurd h Bool.false_ne_true) | skip
  simp only [Bool.and_eq_true] at h
  obtain ⟨⟨⟨h1, h2⟩, h3⟩, h4⟩ := h
  obtain ⟨wi, pi, sem⟩ := snd_src (T := T) (ca := ca) (n := n) O (fun es q => snds srcs _ _ _ _ O q) h1
  refine (ps_for O.passes O.calm pi (tg_pg O h2) (hb _ _ _ _ O h3) (fold_of (not_t h4))).imp fun D σ H t => ?_
  obtain ⟨R, G, μ, Γ, hh, S, g⟩ := t
  rw [execS] at g
  refine sem σ H R G μ Γ hh _ S ((GoS.bnd (ρ := ρL X.K) g).mono fun vs H1 ⟨ds, h1, G1, μ1, S1, X1, r1, g1⟩ => ?_)
  cases zi : itemsOf k h1 ds with
  | none => rw [zi] at g1; exact g1.elim
  | some its =>
    rw [zi] at g1
    have g1 : GoS X.K ca W R G1 μ1 (forL (bodyF tg (execSs T (callN T n) body)) its Γ h1) D := g1
    refine ⟨ds, h1, G1, μ1, its, S1, r1, zi, fun J hJ => ?_⟩
    refine ⟨fun i m σ' H' => m = its.length - i ∧ i ≤ its.length ∧ ∃ (Gi : Hp) (μi : List Addr) (Γi : List Slot) (hi : List Cell), Sim X.K R Gi μi Γi hi σ' H' ∧ Same G1 Gi ∧ μ1 <+: μi ∧ GoS X.K ca W R Gi μi (forL (bodyF tg (execSs T (callN T n) body)) (its.drop i) Γi hi) D,
      ⟨its.length, by simp, Nat.zero_le _, G1, μ1, Γ, h1, S1, Same.refl _, List.prefix_refl _, g1⟩, ?_⟩
    rintro i m σ' H' ⟨rfl, hi, Gi, μi, Γi, hi', Si, gg, mm, gi⟩
    by_cases hlt : i < its.length
    · refine .inr ?_
      have hd : its[i]? = some its[i] := List.getElem?_eq_getElem hlt
      obtain ⟨go, yl⟩ := (hJ i R Gi μi Γi hi' σ' H' rfl Si gg mm).1 _ hd
      refine ⟨go, fun σ2 H2 => its.length - (i + 1) = its.length - (i + 1) ∧ i + 1 ≤ its.length ∧ ∃ (Gi : Hp) (μi : List Addr) (Γi : List Slot) (hi : List Cell), Sim X.K R Gi μi Γi hi σ2 H2 ∧ Same G1 Gi ∧ μ1 <+: μi ∧ GoS X.K ca W R Gi μi (forL (bodyF tg (execSs T (callN T n) body)) (its.drop (i + 1)) Γi hi) D,
        fun σ2 H2 q => ⟨its.length - (i + 1), by omega, q⟩, fun x H2 y => ?_⟩
      obtain ⟨G', S2, X2, rx, sm⟩ := yl x H2 y
      rw [List.drop_eq_getElem_cons hlt, forL] at gi
      cases zt : setTg tg its[i] Γi with
      | none =>
        have : bodyF tg (execSs T (callN T n) body) its[i] Γi hi' = none := by unfold bodyF; rw [zt]
        rw [this] at gi
        exact gi.elim
      | some Γ' =>
        have eb : bodyF tg (execSs T (callN T n) body) its[i] Γi hi' = execSs T (callN T n) body Γ' hi' := by unfold bodyF; rw [zt]
        rw [eb] at gi
        refine tg_go S2 rx zt fun σ3 S3 _ => ?_
        refine ⟨R, G', μi, Γ', hi', S3, ?_⟩
        have gi := GoS.shift gi X2.gg X2.mm
        have gg' := gg.trans X2.gg
        revert gi
        cases execSs T (callN T n) body Γ' hi' with
        | none => exact fun gi => gi
        | some r =>
          cases r with
          | nx Γ2 h2 => exact fun gi σ4 G4 μ4 H4 S4 e4 m4 => ⟨rfl, hlt, G4, μ4, Γ2, h2, S4, gg'.trans e4, mm.trans m4, GoS.shift gi e4 m4⟩
          | cont Γ2 h2 => exact fun gi σ4 G4 μ4 H4 S4 e4 m4 => ⟨rfl, hlt, G4, μ4, Γ2, h2, S4, gg'.trans e4, mm.trans m4, GoS.shift gi e4 m4⟩
          | brk Γ2 h2 => exact fun gi => gi
          | ret d h2 => exact fun gi => gi
          | exc e Γ2 h2 => exact fun gi => gi
    · have ei : i = its.length := by omega
      rw [ei, List.drop_length] at gi
      exact .inl ⟨(hJ i R Gi μi Γi hi' σ' H' rfl Si gg mm).2 ei, gi σ' Gi μi H' Si (Same.refl _) (List.prefix_refl _)⟩
/-! ### a statement while something is locked -/
theorem st_lkd {i : Nat} {p : List Stp} {s : CS} (hs : SndS T ca cx n N s) : SndS T ca cx n N (.lkd i p s) := by
  intro sc st W X O h
  unfold chkS at h
  have P := hs _ _ _ _ O h
  have both : PS X st (fun D σ H => tS X.K ca W (execS T (callN T n) s) D σ H ∨ tLock (tS X.K ca W (execS T (callN T n) s)) D σ H) := ⟨fun pins s σ H D I t => t.elim (P.run pins s σ H D I) ((ps_lock P).run pins s σ H D I)⟩
  refine both.imp fun D σ H t => ?_
  obtain ⟨R, G, μ, Γ, hh, S, g⟩ := t
  rw [execS] at g
  cases zl : lookD Γ hh i p with
  | none => rw [zl] at g; exact g.elim
  | some m =>
    rw [zl] at g
    dsimp only at g
    cases zk : lockH hh m with
    | none => rw [zk] at g; exact g.elim
    | some h1 =>
      rw [zk] at g
      dsimp only at g
      obtain ⟨a, u, fz, hn, hu, hl, hf, S1, bk⟩ := lock_at S zk
      have go : ∀ (od : Obj) (D' : Ends), (∀ σ' H', H' a = some (fz od) → D.nx σ' (upd H' a u) → D'.nx σ' H') → (∀ v H', H' a = some (fz od) → D.rt v (upd H' a u) → D'.rt v H') → (∀ σ' H', H' a = some (fz od) → D.bk σ' (upd H' a u) → D'.bk σ' H') → (∀ σ' H', H' a = some (fz od) → D.ct σ' (upd H' a u) → D'.ct σ' H') →
          GoS X.K ca W ⟨R.F, R.G0, R.μ0, upd R.lk a (fz od)⟩ G μ (execS T (callN T n) s Γ h1) D' := fun od D' d1 d2 d3 d4 => by
        cases ze : execS T (callN T n) s Γ h1 with
        | none => rw [ze] at g; exact g.elim
        | some rr =>
          rw [ze] at g
          cases rr with
          | exc _ _ _ => exact g.elim
          | nx Γ2 h2 =>
            dsimp only at g
            cases zu : unlockH h2 m with
            | none => rw [zu] at g; exact g.elim
            | some h3 =>
              rw [zu] at g
              intro σ' G' μ' H' S' gg mm
              obtain ⟨b1, b2⟩ := bk od G' μ' Γ2 h2 h3 σ' H' S' mm zu
              exact d1 σ' H' b1 (g σ' G' μ' _ b2 gg mm)
          | brk Γ2 h2 =>
            dsimp only at g
            cases zu : unlockH h2 m with
            | none => rw [zu] at g; exact g.elim
            | some h3 =>
              rw [zu] at g
              intro σ' G' μ' H' S' gg mm
              obtain ⟨b1, b2⟩ := bk od G' μ' Γ2 h2 h3 σ' H' S' mm zu
              exact d3 σ' H' b1 (g σ' G' μ' _ b2 gg mm)
          | cont Γ2 h2 =>
            dsimp only at g
            cases zu : unlockH h2 m with
            | none => rw [zu] at g; exact g.elim
            | some h3 =>
              rw [zu] at g
              intro σ' G' μ' H' S' gg mm
              obtain ⟨b1, b2⟩ := bk od G' μ' Γ2 h2 h3 σ' H' S' mm zu
              exact d4 σ' H' b1 (g σ' G' μ' _ b2 gg mm)
          | ret d h2 =>
            dsimp only at g
            cases zu : unlockH h2 m with
            | none => rw [zu] at g; exact g.elim
            | some h3 =>
              rw [zu] at g
              intro v G' μ' H' S' gg mm r
              obtain ⟨b1, b2⟩ := bk od G' μ' [] h2 h3 [] H' S' mm zu
              exact d2 v H' b1 (g v G' μ' _ b2 gg mm r)
      rcases hf with hf | ⟨mu, hf⟩
      · refine .inl ?_
        have od : Obj := { cls := .none }
        have back : ∀ {H' : Hp}, H' a = some (fz od) → upd H' a u = H' := fun {H'} e2 => by
          rw [hf od] at e2
          exact upd_self e2
        have e1 : upd H a (fz od) = H := by
          rw [hf od]
          exact upd_self hu
        have S2 := S1 od
        rw [e1] at S2
        exact ⟨_, G, μ, Γ, h1, S2, go od D (fun σ' H' e q => by rw [back e] at q; exact q) (fun v H' e q => by rw [back e] at q; exact q) (fun σ' H' e q => by rw [back e] at q; exact q) (fun σ' H' e q => by rw [back e] at q; exact q)⟩
      · refine .inr ⟨a, u, hu, mu, fun od => ?_⟩
        rw [← hf od]
        exact ⟨_, G, μ, Γ, h1, S1 od, go od _ (fun σ' H' e q => ⟨e, q⟩) (fun v H' e q => ⟨e, q⟩) (fun σ' H' e q => ⟨e, q⟩) (fun σ' H' e q => ⟨e, q⟩)⟩
/-! ### blocks -/
theorem sts_nil : SndSs T ca cx n N [] := by
  intro sc sts W X O h
  unfold chkSs at h
  cases sts with
  | cons _ _ => exact absurd h Bool.false_ne_true
  | nil =>
    refine pss_nil.imp fun D σ H t => ?_
    obtain ⟨R, G, μ, Γ, hh, S, g⟩ := t
    exact g σ G μ H S (Same.refl _) (List.prefix_refl _)
theorem sts_frz {ss : List CS} {i : Nat} (hs : SndSs T ca cx n N ss) : SndSs T ca cx n N (.frz i :: ss) := by
  intro sc sts W X O h
  unfold chkSs at h
  refine (hs _ _ _ _ O h).imp fun D σ H t => ?_
  obtain ⟨R, G, μ, Γ, hh, S, g⟩ := t
  rw [execSs, execS] at g
  cases z : Γ[i]? with
  | none => rw [z] at g; exact g.elim
  | some s =>
    rw [z] at g
    cases s with
    | own c =>
      obtain ⟨G', S', gg⟩ := S.frzOwn z
      exact ⟨R, G', μ, _, hh, S', GoS.shift g gg (List.prefix_refl _)⟩
    | _ => exact g.elim
theorem sts_cons {s : CS} {ss : List CS} (h0 : ∀ i, s ≠ .frz i) (h1 : SndS T ca cx n N s) (hs : SndSs T ca cx n N ss) : SndSs T ca cx n N (s :: ss) := by
  intro sc sts W X O h
  have h' : ∃ st rest, sts = st :: rest ∧ chkS cx N sc s st = true ∧ chkSs cx N sc ss rest = true := by
    cases s <;> first | (exact absurd rfl (h0 _)) | skip
    all_goals
      unfold chkSs at h
      cases sts with
      | nil => exact absurd h Bool.false_ne_true
      | cons st rest =>
        simp only [Bool.and_eq_true] at h
        exact ⟨st, rest, rfl, h.1, h.2⟩
  obtain ⟨st, rest, rfl, k1, k2⟩ := h'
  refine (pss_cons (h1 _ _ _ _ O k1) (hs _ _ _ _ O k2)).imp fun D σ H t => ?_
  obtain ⟨R, G, μ, Γ, hh, S, g⟩ := t
  rw [execSs] at g
  exact ⟨R, G, μ, Γ, hh, S, g.then⟩
theorem st_never {s : CS} (h : ∀ st sc, chkS cx N sc s st = false) : SndS T ca cx n N s := fun sc st W X O q => by rw [h] at q; cases q
mutual
theorem sndS : ∀ s : CS, SndS T ca cx n N s
  | .asg i a => st_asg i
  | .own i a => st_own i
  | .frz i => st_never fun st sc => by unfold chkS; rfl
  | .utup is a => st_never fun st sc => by unfold chkS; rfl
  | .stIx o i a => st_stIx
  | .aug i a => st_aug i
  | .app i a => st_app i
  | .ex a => st_ex
  | .ret a => st_ret
  | .retN => st_retN
  | .pass => st_pass
  | .ite t a b => st_ite (sndSs a) (sndSs b)
  | .for_ k srcs tg body => st_for (sndSs body)
  | .appR o a => st_appR
  | .stAt o f a => st_stAt
  | .augAt o f a => st_augAt
  | .whl t b => st_whl (sndSs b)
  | .brk => st_brk
  | .cont => st_cont
  | .lkd i p s => st_lkd (sndS s)
theorem sndSs : ∀ ss : List CS, SndSs T ca cx n N ss
  | [] => sts_nil
  | .frz i :: ss => sts_frz (sndSs ss)
  | .asg i a :: ss => sts_cons (fun _ z => by cases z) (sndS _) (sndSs ss)
  | .own i a :: ss => sts_cons (fun _ z => by cases z) (sndS _) (sndSs ss)
  | .utup i a :: ss => sts_cons (fun _ z => by cases z) (sndS _) (sndSs ss)
  | .stIx o i a :: ss => sts_cons (fun _ z => by cases z) (sndS _) (sndSs ss)
  | .aug i a :: ss => sts_cons (fun _ z => by cases z) (sndS _) (sndSs ss)
  | .app i a :: ss => sts_cons (fun _ z => by cases z) (sndS _) (sndSs ss)
  | .ex a :: ss => sts_cons (fun _ z => by cases z) (sndS _) (sndSs ss)
  | .ret a :: ss => sts_cons (fun _ z => by cases z) (sndS _) (sndSs ss)
  | .retN :: ss => sts_cons (fun _ z => by cases z) (sndS _) (sndSs ss)
  | .pass :: ss => sts_cons (fun _ z => by cases z) (sndS _) (sndSs ss)
  | .ite t a b :: ss => sts_cons (fun _ z => by cases z) (sndS _) (sndSs ss)
  | .for_ k srcs tg body :: ss => sts_cons (fun _ z => by cases z) (sndS _) (sndSs ss)
  | .appR o a :: ss => sts_cons (fun _ z => by cases z) (sndS _) (sndSs ss)
  | .stAt o f a :: ss => sts_cons (fun _ z => by cases z) (sndS _) (sndSs ss)
  | .augAt o f a :: ss => sts_cons (fun _ z => by cases z) (sndS _) (sndSs ss)
  | .whl t b :: ss => sts_cons (fun _ z => by cases z) (sndS _) (sndSs ss)
  | .brk :: ss => sts_cons (fun _ z => by cases z) (sndS _) (sndSs ss)
  | .cont :: ss => sts_cons (fun _ z => by cases z) (sndS _) (sndSs ss)
  | .lkd i p s :: ss => sts_cons (fun _ z => by cases z) (sndS _) (sndSs ss)
end
end
end DC

set_option linter.all false
set_option Elab.async false
set_option maxRecDepth 100000
set_option maxHeartbeats 4000000
/-! DFn: every def of a table keeps the promise that its core tells; the end. -/
namespace DC
open PySem L2 PySem.Spec PyProof.Rows
/-- a def of the text and its core -/
structure FD where
  nm : Str
  qn : Str
  st : Stmt
  N : List Str
  ps : List Str
  body : List CS
abbrev GT := List (Str × D)
/-- a class of the text: its __init__, its methods, the fields its instances may have -/
structure CD where
  nm : Str
  init : Option Nat
  mths : List (Str × Nat)
  flds : List Str
def clsOf (cls : List CD) (c : Str) : Option CD := cls.find? fun d => decide (d.nm = c)
def mkT (tab : List FD) (gt : GT) (cls : List CD) (fuel : Nat) : Tb where
  fn := fun f => (tab[f]?).map fun d => ⟨d.ps.length, d.N.length, d.body⟩
  glob := fun i => (gt[i]?).map (·.2)
  meth := fun c m => (clsOf cls c).bind fun d => d.mths.lookup m
  init := fun c => (clsOf cls c).bind fun d => d.init
  fld := fun c f => match clsOf cls c with
    | some d => d.flds.contains f
    | none => false
  fuel := fuel
def mkC (tab : List FD) (gt : GT) : Ck := ⟨fun f => match tab[f]? with
  | some d => if d.qn = d.nm then some d.nm else none
  | none => none, fun i => (gt[i]?).map (·.1)⟩
def okFD (cx : Ck) (d : FD) : Bool :=
  (match (defScope d.st).kind with | .function => true | _ => false) && !(defScope d.st).isCoroutine && !(defScope d.st).isGenerator && decide d.N.Nodup && decide (d.N.take d.ps.length = d.ps) &&
    (d.ps.all fun x => locB (defScope d.st) x) && ((defScope d.st).names.all fun y => match y.2 with | .free => false | _ => true) && chkSs cx d.N (defScope d.st) d.body (defBody d.st)
theorem okFD_of {cx : Ck} {d : FD} (h : okFD cx d = true) : FnScope d.N d.ps (defScope d.st) ∧ chkSs cx d.N (defScope d.st) d.body (defBody d.st) = true := by
  unfold okFD at h
  simp only [Bool.and_eq_true, decide_eq_true_eq] at h
  obtain ⟨⟨⟨⟨⟨⟨⟨h1, h2⟩, h3⟩, h4⟩, h5⟩, h6⟩, h7⟩, h8⟩ := h
  refine ⟨⟨?_, not_t h2, not_t h3, h4, h5, fun x hx => ?_, fun y hy e => ?_⟩, h8⟩
  · split at h1
    · assumption
    · cases h1
  · have q := List.all_eq_true.mp h6 x hx
    unfold locB at q
    split at q
    · exact .inl (by assumption)
    · exact .inr (by assumption)
    · cases q
  · have q := List.all_eq_true.mp h7 y hy
    rw [e] at q
    cases q
/-- what the top has written of a class -/
structure ClsOk (K : PySem.W.Frag) (mg : Str → Option Value) (tab : List FD) (c : CD) : Prop where
  cls : Cls K (clsA K c.nm)
  mg : mg c.nm = some (.ref (clsA K c.nm))
  flds : ∀ f ∈ c.flds, NoAttr K (clsA K c.nm) f
  mths : ∀ p ∈ c.mths, ∃ (d : FD) (fa : Addr) (fd : FuncData), tab[p.2]? = some d ∧ Fun K d.nm d.qn d.st fa fd ∧ Meth K (clsA K c.nm) p.1 fa ∧ Binds K fd d.ps []
  init : ∀ f, c.init = some f → ∃ (d : FD) (fa : Addr) (fd : FuncData), tab[f]? = some d ∧ Fun K d.nm d.qn d.st fa fd ∧ Mk K (clsA K c.nm) fa ∧ Binds K fd d.ps []
/-- what the top has written -/
structure TopOk (K : PySem.W.Frag) (mg : Str → Option Value) (tab : List FD) (gt : GT) (cls : List CD) : Prop where
  fns : ∀ (f : Nat) (d : FD), tab[f]? = some d → d.qn = d.nm → ∃ (fa : Addr) (fd : FuncData), Fun K d.nm d.qn d.st fa fd ∧ mg d.nm = some (.ref fa) ∧ Binds K fd d.ps []
  globs : ∀ (i : Nat) (nm : Str) (dv : D), gt[i]? = some (nm, dv) → ∃ (u : Value) (v : V), mg nm = some u ∧ RelV v u ∧ ∀ G μ, RD K G μ dv v
  blt : ∀ x ∈ bltNames, mg (Str.ofString x) = none
  clss : ∀ c ∈ cls, ClsOk K mg tab c
theorem start_sim {K : PySem.W.Frag} {R : Fr} {G : Hp} {μ : List Addr} {h : List Cell} {H : Hp} {ds : List D} {vs : List V} {N : List Str} (S : Sim K R G μ [] h [] H) (t : RDs K G μ ds vs) :
    Sim K R G μ (ds.map .val ++ List.replicate (N.length - ds.length) .no) h (L2.start N vs) H := by
  have hl := t.len
  refine ⟨S.gh, S.fh, S.g0, S.m0, S.gf, S.mf, S.mg, S.nd, S.len, S.cells, S.ul, S.lm, ?_, fun i s e => ?_, fun i j a c c' e _ _ _ => ?_⟩
  · simp [L2.start, hl]
  · by_cases hi : i < ds.length
    · rw [List.getElem?_append_left (by simpa using hi), List.getElem?_map, List.getElem?_eq_getElem hi] at e
      cases e
      obtain ⟨v, hv, r⟩ := t.at (List.getElem?_eq_getElem hi)
      refine ⟨v, ?_, r⟩
      unfold L2.start
      rw [List.getElem?_append_left (by simpa [← hl] using hi), List.getElem?_map, hv]
      rfl
    · rw [List.getElem?_append_right (by simpa using hi)] at e
      rw [List.getElem?_replicate] at e
      split at e
      · cases e
        trivial
      · cases e
  · by_cases hi : i < ds.length
    · rw [List.getElem?_append_left (by simpa using hi), List.getElem?_map, List.getElem?_eq_getElem hi] at e
      cases e
    · rw [List.getElem?_append_right (by simpa using hi), List.getElem?_replicate] at e
      split at e <;> cases e
section
variable {P : Program} {w : World} {K : PySem.W.Frag} {mg : Str → Option Value} {base : Heap} {tab : List FD} {gt : GT} {ca : Str → Addr} {cls : List CD} {fuel : Nat}
theorem sp_len {n f : Nat} {d : FD} (hd : tab[f]? = some d) (vs : List V) (H : Hp) (Q : VK) (E : XK) (h : spFn K ca (mkT tab gt cls fuel) n f vs H Q E) : vs.length = d.ps.length := by
  obtain ⟨G, μ, h, ds, F, lk, S, t, e1, e2, _⟩ := h
  unfold mkT at e1
  simp only [hd, Option.map_some] at e1
  cases e1
  rw [← t.len, e2]
theorem fn_step (Tp : TopOk K mg tab gt cls) (ok : tab.all (okFD (mkC tab gt)) = true) {n : Nat} (W0 : Wd P w K mg base (mkT tab gt cls fuel) ca (mkC tab gt) n) {f : Nat} {d : FD} {fa : Addr} {fd : FuncData} (hd : tab[f]? = some d) (F : Fun K d.nm d.qn d.st fa fd) :
    FnOk P w K mg base (L2.CX P w) (2 * (n + 1)) fa fd d.ps (spFn K ca (mkT tab gt cls fuel) (n + 1) f) := by
  obtain ⟨S0, hchk⟩ := okFD_of (List.all_eq_true.mp ok d (List.mem_of_getElem? hd))
  refine F.okX S0 (sp_len hd) fun cdv A outer s H vs Q E hr hsp => ?_
  let X : Cx := cxOf (L2.CX P w) P w K mg base d.N d.qn (defScope d.st) fa cdv A outer s H E
  have O : XOk (mkT tab gt cls fuel) ca (mkC tab gt) n d.N (fun cls dx _ H => E cls dx H) (defScope d.st) X := by
    refine ⟨W0, rfl, S0.nd, ScOk.self (env := X.env), S0.kind, hr, takes_of rfl rfl rfl rfl, passes_of rfl, rfl, fun x hx => ?_⟩
    exact .inl rfl
  refine ⟨_, sndSs d.body (defScope d.st) (defBody d.st) _ X O hchk, ?_⟩
  obtain ⟨G, μ, h, ds, F', lk, S, t, e1, e2, g⟩ := hsp
  unfold mkT at e1
  simp only [hd, Option.map_some] at e1
  cases e1
  refine ⟨_, G, μ, _, h, start_sim (N := d.N) S t, ?_⟩
  have ef : (mkT tab gt cls fuel).fn f = some ⟨d.ps.length, d.N.length, d.body⟩ := by
    unfold mkT
    simp only [hd, Option.map_some]
  have e2' : ds.length = d.ps.length := e2
  rw [callN, ef] at g
  simp only [e2', if_true] at g
  rw [e2']
  revert g
  cases execSs (mkT tab gt cls fuel) (callN (mkT tab gt cls fuel) n) d.body (ds.map .val ++ List.replicate (d.N.length - d.ps.length) .no) h with
  | none => exact fun g => g
  | some r =>
    cases r with
    | nx Γ h' => exact fun g σ G' μ' H' S' e m => g .non G' μ' H' S'.drop ⟨e, m, fun i c a q _ => by simp at q⟩ (.of rfl)
    | brk Γ h' => exact fun g => g.elim
    | cont Γ h' => exact fun g => g.elim
    | ret d h' => exact fun g v G' μ' H' S' e m r => g v G' μ' H' S' ⟨e, m, fun i c a q _ => by simp at q⟩ (.of r)
    | exc e Γ h' => exact fun g cls dx σ G' μ' H' S' x => g cls dx G' μ' H' S'.drop x
theorem wd_of (Tp : TopOk K mg tab gt cls) (ok : tab.all (okFD (mkC tab gt)) = true) : ∀ n : Nat, Wd P w K mg base (mkT tab gt cls fuel) ca (mkC tab gt) n := by
  have rest : ∀ n, (∀ (f : Nat) (d : FD) (fa : Addr) (fd : FuncData), tab[f]? = some d → Fun K d.nm d.qn d.st fa fd → FnOk P w K mg base (L2.CX P w) (2 * n) fa fd d.ps (spFn K ca (mkT tab gt cls fuel) n f)) → Wd P w K mg base (mkT tab gt cls fuel) ca (mkC tab gt) n := by
    intro n hf
    have hcls : ∀ {c : Str} {d : CD}, clsOf cls c = some d → d ∈ cls ∧ d.nm = c := fun {c d} e => ⟨List.mem_of_find?_eq_some e, by simpa using List.find?_some e⟩
    refine ⟨fun f nm e => ?_, fun i nm e => ?_, Tp.blt, fun c f e => ?_, fun c m f e => ?_, fun c f e => ?_⟩
    · unfold mkC at e
      simp only at e
      cases z : tab[f]? with
      | none => rw [z] at e; cases e
      | some d =>
        rw [z] at e
        simp only at e
        split at e
        · rename_i hq
          cases e
          obtain ⟨fa, fd, F, m, b⟩ := Tp.fns f d z hq
          exact ⟨fa, fd, d.ps, m, F.kp, b, hf f d fa fd z F⟩
        · cases e
    · unfold mkC at e
      simp only at e
      cases z : gt[i]? with
      | none => rw [z] at e; cases e
      | some p =>
        rw [z] at e
        cases e
        obtain ⟨u, v, m, r, rd⟩ := Tp.globs i p.1 p.2 z
        refine ⟨u, m, fun d e => ?_⟩
        unfold mkT at e
        simp only [z, Option.map_some] at e
        cases e
        exact ⟨v, r, rd⟩
    · unfold mkT at e
      simp only at e
      cases z : clsOf cls c with
      | none => rw [z] at e; cases e
      | some d =>
        rw [z] at e
        obtain ⟨h1, rfl⟩ := hcls z
        have C := Tp.clss d h1
        exact ⟨C.cls, C.flds f (by simpa using e)⟩
    · unfold mkT at e
      simp only at e
      cases z : clsOf cls c with
      | none => rw [z] at e; cases e
      | some d =>
        rw [z, Option.bind_some] at e
        obtain ⟨h1, rfl⟩ := hcls z
        have C := Tp.clss d h1
        have hm : (m, f) ∈ d.mths := by
          have : ∀ l : List (Str × Nat), l.lookup m = some f → (m, f) ∈ l := by
            intro l
            induction l with
            | nil => intro q; cases q
            | cons p l ih =>
              intro q
              obtain ⟨a, b⟩ := p
              rw [List.lookup_cons] at q
              split at q
              · rename_i hx
                have hx : m = a := by simpa using hx
                cases q
                rw [hx]
                exact List.mem_cons_self
              · exact List.mem_cons_of_mem _ (ih q)
          exact this _ e
        obtain ⟨fdn, fa, fd, t1, t2, t3, t4⟩ := C.mths _ hm
        exact ⟨fa, fd, fdn.ps, C.cls, t3, t4, hf f fdn fa fd t1 t2⟩
    · unfold mkT at e
      simp only at e
      cases z : clsOf cls c with
      | none => rw [z] at e; cases e
      | some d =>
        rw [z, Option.bind_some] at e
        obtain ⟨h1, rfl⟩ := hcls z
        have C := Tp.clss d h1
        obtain ⟨fdn, fa, fd, t1, t2, t3, t4⟩ := C.init f e
        exact ⟨fa, fd, fdn.ps, C.mg, t3, t4, hf f fdn fa fd t1 t2⟩
  intro n
  induction n with
  | zero =>
    refine rest 0 fun f d fa fd hd F => ⟨sp_len hd, fun A outer s H args us vs Q E _ _ _ _ hsp => ?_⟩
    obtain ⟨G, μ, h, ds, F', lk, S, t, e1, e2, g⟩ := hsp
    exact g.elim
  | succ n ih => exact rest (n + 1) fun f d fa fd hd F => fn_step Tp ok ih hd F
theorem fn_all (Tp : TopOk K mg tab gt cls) (ok : tab.all (okFD (mkC tab gt)) = true) {n f : Nat} {d : FD} {fa : Addr} {fd : FuncData} (hd : tab[f]? = some d) (F : Fun K d.nm d.qn d.st fa fd) :
    FnOk P w K mg base (L2.CX P w) (2 * (n + 1)) fa fd d.ps (spFn K ca (mkT tab gt cls fuel) (n + 1) f) := fn_step Tp ok (wd_of Tp ok n) hd F
theorem no_exc {H : Hp} {s s' : Shared} {e : Value} (h : L2.CX P w [] H s (fun _ _ _ => False) e s') : False := by
  obtain ⟨_, _, _, _, _, _, _, _, _, _, _, _, z⟩ := h
  exact z.elim
/-- the law's promise at the row's call -/
theorem law_sp {n f : Nat} {d : FD} {h' : List Cell} (hd : tab[f]? = some d) (h1 : d.ps.length = 1) {ns : List Int} (hc : callN (mkT tab gt cls fuel) n f [.scr (ns.map .int)] [] = some (.ok (.bl true) h')) {H : Hp} {a : Addr} (hq : SqL K H a (ns.map V.int)) (hz : ns.length ≤ maxLen) :
    spFn K ca (mkT tab gt cls fuel) n f [.ref a] H (fun v _ => v = .bl true) fun _ _ _ => False := by
  have S : Sim K ⟨hminus H [], H, [], fun _ => none⟩ H [] [] [] [] H := by
    refine ⟨Same.refl _, fun a o e => (hm_to (show hminus H [] a = some o from e)).2, Same.refl _, List.prefix_refl _, fun a e => .inl e, fun a e => (by cases e), fun a e => (by cases e), List.nodup_nil, rfl, fun n a c e => (by simp at e), fun n a c e => (by simp at e), fun a e => absurd rfl e, rfl, fun i s e => (by simp at e), fun i j a c c' e => (by simp at e)⟩
  have hints : RDs K H [] (ns.map .int) (ns.map V.int) := by
    clear hc hq hz
    induction ns with
    | nil => exact RDs.nil
    | cons i r ih => exact RDs.cons (d := .int i) rfl ih
  refine ⟨H, [], [], [.scr (ns.map .int)], ⟨d.ps.length, d.N.length, d.body⟩, fun _ => none, S, RDs.cons (d := .scr _) ⟨a, ns.map V.int, rfl, hq, by rw [List.length_map]; exact hz, hints⟩ RDs.nil, ?_, h1.symm, ?_⟩
  · unfold mkT
    simp only [hd, Option.map_some]
  · rw [hc]
    intro v G' μ' H' S' X' r
    exact r
theorem law_walk {l : PySem.W.OpenLaw} {q : Program} {loose : List Str} {XP : (Str → Option Value) → Heap → Prop} {YP : World → Heap → Prop} {dr : DefRec} {KK : Params → PySem.W.Frag} {cls : List CD} {fuel : Nat} {n f : Nat} {d : FD} {x : Str} (hn : l.most = some 63) (hdf : dr.params.defaults = []) (hr : Room (2 * (n + 1)) callerA)
    (hY : ∀ (w : World) (h : Heap), YP w h → (KK w.params).In h) (hd : tab[f]? = some d) (hqn : d.qn = d.nm) (hnm : dr.name = d.nm) (hps : d.ps = [x]) (ok : tab.all (okFD (mkC tab gt)) = true)
    (top : ∀ (w : World) (mg : Str → Option Value) (h : Heap), (KK w.params).In h → h.Ns mainGlobals mg → TopOk (KK w.params) mg tab gt cls)
    (hbind : ∀ (K : PySem.W.Frag) (fa : Addr) (fd : FuncData), Fun K d.nm d.qn d.st fa fd → ∀ (s : Shared) (u : Value), BindsTo s fd ⟨[u], []⟩ [(x, u)])
    (hlaw : ∀ ns : List Int, ns.length ≤ 63 → ∃ h', callN (mkT tab gt cls fuel) (n + 1) f [.scr (ns.map .int)] [] = some (.ok (.bl true) h')) :
    PySem.W.WalkO q loose XP YP l.row.toRowW dr [] (fun f vs => PySem.call f vs) := by
  refine L2.walk_of (n := 63) (k := 2 * (n + 1)) (x := x) (CX := fun w => L2.CX l.prog w) (sp := fun w => spFn (KK w.params) (fun _ => 0) (mkT tab gt cls fuel) (n + 1) f) hn (by decide) hdf hr hY (fun w mg fa h KX G hmg => ?_) (fun w H a ns hl hO hS => ?_) fun w H s e s' z => no_exc z
  · have Tp := top w mg h KX G
    obtain ⟨fa', fd, F, m, b⟩ := Tp.fns f d hd hqn
    rw [hnm, m] at hmg
    cases hmg
    refine ⟨fd, hbind _ _ fd F, fun base KB GB => ?_⟩
    have := fn_all (P := l.prog) (w := w) (base := base) (ca := fun _ => 0) (fuel := fuel) (n := n) Tp ok hd F
    rw [hps] at this
    exact this
  · obtain ⟨h', e⟩ := hlaw ns hl
    exact law_sp hd (by rw [hps]; rfl) e hS (Nat.le_trans hl (by decide))
end
/-- a class where the top has it -/
def ClsB (K : PySem.W.Frag) (mg : Str → Option Value) (c : Str) (C : Addr) : Prop := clsA K c = C ∧ Cls K (clsA K c) ∧ mg c = some (.ref (clsA K c))
theorem cls_here {K : PySem.W.Frag} {h : Heap} {mg : Str → Option Value} (X : K.In h) (G : h.Ns mainGlobals mg) {c : Str} {C : Addr} (a : PySem.W.nsIn K mainGlobals c = some (some (.ref C))) (pg : PySem.W.plainGet K C Str.empty = true) (hd : PySem.W.hasDictIn K C = true) (po : PySem.W.plainOver K C = true)
    (sa : PySem.W.findIn K (.ref C) "__setattr__" = some (some (.builtin "object.__setattr__"))) : ClsB K mg c C := by
  have e : clsA K c = C := by
    unfold clsA
    rw [a]
  exact ⟨e, by rw [e]; exact ⟨pg, hd, po, sa⟩, by rw [e]; exact PySem.W.mg_of X G a⟩
theorem meth_here {K : PySem.W.Frag} {h : Heap} {mg : Str → Option Value} (X : K.In h) (G : h.Ns mainGlobals mg) {C : Addr} {m q : Str} {st : Stmt} {f : Addr} {oc : Value} {od an : Option Addr} {sl : Array (Option Value)} {kV dc pm cd ct : Value}
    (a : PySem.W.findIn K (.ref C) m = some (some (.ref f))) (i : PySem.W.isFn K (.ref f) = true) (l : K.lookup f = some ⟨oc, od, .func (PySem.W.fnOf m q (defArgs st) (defBody st) (defScope st) .none kV dc pm an cd ct), sl⟩) (c : PySem.W.codeIn K cd q = true) (k : PySem.W.keepIn K (.ref f) = true) :
    ∃ (fa : Addr) (fd : FuncData), Fun K m q st fa fd ∧ Meth K C m fa := ⟨_, _, fun_mk l c k, ⟨a, i, k⟩⟩
theorem init_here {K : PySem.W.Frag} {h : Heap} {mg : Str → Option Value} (X : K.In h) (G : h.Ns mainGlobals mg) {C : Addr} {q : Str} {st : Stmt} {f : Addr} {oc : Value} {od an : Option Addr} {sl : Array (Option Value)} {kV dc pm cd ct : Value}
    (a : PySem.W.findIn K (.ref C) "__init__" = some (some (.ref f))) (i : PySem.W.isFn K (.ref f) = true) (l : K.lookup f = some ⟨oc, od, .func (PySem.W.fnOf "__init__" q (defArgs st) (defBody st) (defScope st) .none kV dc pm an cd ct), sl⟩) (c : PySem.W.codeIn K cd q = true) (k : PySem.W.keepIn K (.ref f) = true)
    (mk : PySem.W.makesIn K C = true) (kc : PySem.W.keepIn K (.ref C) = true) : ∃ (fa : Addr) (fd : FuncData), Fun K "__init__" q st fa fd ∧ Mk K C fa := ⟨_, _, fun_mk l c k, ⟨mk, a, i, kc⟩⟩
end DC

set_option linter.all false
set_option Elab.async false
set_option maxRecDepth 100000
set_option maxHeartbeats 4000000
/-! DWp: what is to hold of an evaluation (it comes to an end without an exception, and then Q). -/
namespace DC
open PySem (Str)
def okO {α : Type} (m : Out α) (Q : α → List Cell → Prop) : Prop := match m with
  | some (.ok a h) => Q a h
  | _ => False
def onO {α : Type} (m : Option α) (Q : α → Prop) : Prop := match m with
  | some a => Q a
  | none => False
def onB (d : D) (Q : Bool → Prop) : Prop := match d with
  | .bl b => Q b
  | _ => False
def okS (m : OutS) (N : List Slot → List Cell → Prop) (R : D → List Cell → Prop) : Prop := match m with
  | some (.nx Γ h) => N Γ h
  | some (.ret d h) => R d h
  | _ => False
section
variable {α β : Type} {m : Out α} {Q : α → List Cell → Prop}
theorem okO.mono {Q' : α → List Cell → Prop} (g : okO m Q) (k : ∀ a h, Q a h → Q' a h) : okO m Q' := by
  match m, g with
  | some (.ok a h), g => exact k a h g
theorem okO_bnd {f : α → List Cell → Out β} {Q : β → List Cell → Prop} : okO (bnd m f) Q = okO m fun a h => okO (f a h) Q := by
  match m with
  | none => rfl
  | some (.exc _ _) => rfl
  | some (.ok _ _) => rfl
theorem okO_ok {a : α} {h : List Cell} : okO (some (.ok a h)) Q = Q a h := rfl
theorem okO_none : okO (none : Out α) Q = False := rfl
theorem okO_lift {o : Option α} {h : List Cell} : okO (liftO o h) Q = onO o fun a => Q a h := by
  cases o <;> rfl
theorem okO_calm : okO (calmO m) Q = okO m Q := by
  match m with
  | none => rfl
  | some (.exc _ _) => rfl
  | some (.ok _ _) => rfl
theorem onO_some {a : α} {Q : α → Prop} : onO (some a) Q = Q a := rfl
theorem onO_none {Q : α → Prop} : onO (none : Option α) Q = False := rfl
theorem onO_map {o : Option α} {f : α → β} {Q : β → Prop} : onO (o.map f) Q = onO o fun a => Q (f a) := by
  cases o <;> rfl
theorem onB_bl {b : Bool} {Q : Bool → Prop} : onB (.bl b) Q = Q b := rfl
theorem ok_eq {a : α} {h : List Cell} (g : okO m fun x h' => x = a ∧ h' = h) : m = some (.ok a h) := by
  match m, g with
  | some (.ok b h2), g =>
    obtain ⟨e1, e2⟩ : b = a ∧ h2 = h := g
    rw [e1, e2]
variable {N : List Slot → List Cell → Prop} {R : D → List Cell → Prop}
theorem okS.mono {s : OutS} {N' : List Slot → List Cell → Prop} {R' : D → List Cell → Prop} (g : okS s N R) (k : ∀ Γ h, N Γ h → N' Γ h) (k2 : ∀ d h, R d h → R' d h) : okS s N' R' := by
  match s, g with
  | some (.nx Γ h), g => exact k Γ h g
  | some (.ret d h), g => exact k2 d h g
theorem okS_bnd {Γ : List Slot} {f : α → List Cell → OutS} : okS (bndS Γ m f) N R = okO m fun a h => okS (f a h) N R := by
  match m with
  | none => rfl
  | some (.exc _ _) => rfl
  | some (.ok _ _) => rfl
theorem okS_then {s : OutS} {f : List Slot → List Cell → OutS} : okS (thenS s f) N R = okS s (fun Γ h => okS (f Γ h) N R) R := by
  match s with
  | none => rfl
  | some (.nx _ _) => rfl
  | some (.brk _ _) => rfl
  | some (.cont _ _) => rfl
  | some (.ret _ _) => rfl
  | some (.exc _ _ _) => rfl
/-- a for, by an invariant -/
theorem for_inv {f : D → List Slot → List Cell → OutS} (I : Nat → List Slot → List Cell → Prop) : ∀ {its : List D} {i : Nat} {Γ : List Slot} {h : List Cell}, I i Γ h → (∀ j d Γ h, its[j]? = some d → I (i + j) Γ h → okS (f d Γ h) (I (i + j + 1)) R) → (∀ Γ h, I (i + its.length) Γ h → N Γ h) → okS (forL f its Γ h) N R
  | [], i, Γ, h, h0, hs, hN => hN Γ h h0
  | d :: ds, i, Γ, h, h0, hs, hN => by
    have g := hs 0 d Γ h rfl h0
    have step : ∀ Γ h, I (i + 0 + 1) Γ h → okS (forL f ds Γ h) N R := fun Γ h q => by
      refine for_inv (I := I) (i := i + 1) (its := ds) (by simpa using q) (fun j d Γ h e q => ?_) fun Γ h q => hN Γ h ?_
      · have := hs (j + 1) d Γ h (by simpa using e) (by rw [show i + (j + 1) = i + 1 + j by omega]; exact q)
        rw [show i + 1 + j + 1 = i + (j + 1) + 1 by omega]
        exact this
      · rw [List.length_cons, show i + (ds.length + 1) = i + 1 + ds.length by omega]
        exact q
    rw [forL]
    match f d Γ h, g with
    | some (.nx Γ h), g => exact step Γ h g
    | some (.ret d h), g => exact g
/-- a comprehension's loop, by an invariant -/
theorem lc_inv {f : D → List Cell → Out (Option D)} (I : Nat → List D → List Cell → Prop) {Q : List D → List Cell → Prop} : ∀ {its : List D} {i : Nat} {acc : List D} {h : List Cell}, I i acc h → (∀ j d acc h, its[j]? = some d → I (i + j) acc h → okO (f d h) fun y h => I (i + j + 1) (acc ++ y.toList) h) → (∀ acc2 h, I (i + its.length) (acc ++ acc2) h → Q acc2 h) → okO (lcL f its h) Q
  | [], i, acc, h, h0, hs, hQ => hQ [] h (by simpa using h0)
  | d :: ds, i, acc, h, h0, hs, hQ => by
    have g := hs 0 d acc h rfl h0
    rw [lcL, okO_bnd]
    refine g.mono fun y h q => ?_
    rw [okO_bnd]
    refine lc_inv (I := I) (i := i + 1) (acc := acc ++ y.toList) (its := ds) q (fun j d acc h e q => ?_) fun acc2 h q => hQ _ h ?_
    · have := hs (j + 1) d acc h (by simpa using e) (by rw [show i + (j + 1) = i + 1 + j by omega]; exact q)
      rw [show i + 1 + j + 1 = i + (j + 1) + 1 by omega]
      exact this
    · rw [List.length_cons, show i + (ds.length + 1) = i + 1 + ds.length by omega]
      cases y with
      | none => simpa using q
      | some y => simpa using q
theorem lc_pure {f : D → List Cell → Out (Option D)} {g : D → D} {h : List Cell} : ∀ {ds : List D}, (∀ d ∈ ds, okO (f d h) fun y h' => y = some (g d) ∧ h' = h) → lcL f ds h = some (.ok (ds.map g) h)
  | [], _ => rfl
  | d :: ds, hf => by
    have h1 := ok_eq (hf d List.mem_cons_self)
    have h2 := lc_pure (f := f) (g := g) (h := h) fun x hx => hf x (List.mem_cons_of_mem _ hx)
    rw [lcL, h1]
    show bnd (lcL f ds h) _ = _
    rw [h2]
    rfl
theorem lc_filter {f : D → List Cell → Out (Option D)} {p : D → Bool} {h : List Cell} : ∀ {ds : List D}, (∀ d ∈ ds, okO (f d h) fun y h' => y = (if p d = true then some d else none) ∧ h' = h) → lcL f ds h = some (.ok (ds.filter p) h)
  | [], _ => rfl
  | d :: ds, hf => by
    have h1 := ok_eq (hf d List.mem_cons_self)
    have h2 := lc_filter (f := f) (p := p) (h := h) fun x hx => hf x (List.mem_cons_of_mem _ hx)
    rw [lcL, h1]
    show bnd (lcL f ds h) _ = _
    rw [h2]
    cases hp : p d <;> simp [bnd, List.filter, hp]
end
section
variable {T : Tb} {c : Call} {Γ : List Slot} {h : List Cell} {Q : D → List Cell → Prop} {QL : List D → List Cell → Prop} {N : List Slot → List Cell → Prop} {R : D → List Cell → Prop}
def okE (T : Tb) (c : Call) (e : CE) (Γ : List Slot) (h : List Cell) (Q : D → List Cell → Prop) : Prop := okO (evalE T c e Γ h) Q
def okEs (T : Tb) (c : Call) (es : List CE) (Γ : List Slot) (h : List Cell) (Q : List D → List Cell → Prop) : Prop := okO (evalEs T c es Γ h) Q
def okC (T : Tb) (c : Call) (s : CS) (Γ : List Slot) (h : List Cell) (N : List Slot → List Cell → Prop) (R : D → List Cell → Prop) : Prop := okS (execS T c s Γ h) N R
def okCs (T : Tb) (c : Call) (s : List CS) (Γ : List Slot) (h : List Cell) (N : List Slot → List Cell → Prop) (R : D → List Cell → Prop) : Prop := okS (execSs T c s Γ h) N R
def onVal (s : Option Slot) (Q : D → Prop) : Prop := match s with
  | some (.val d) => Q d
  | _ => False
def onOwn (s : Option Slot) (Q : Cell → Prop) : Prop := match s with
  | some (.own c) => Q c
  | _ => False
theorem onVal_val {d : D} {Q : D → Prop} : onVal (some (.val d)) Q = Q d := rfl
theorem onOwn_own {d : Cell} {Q : Cell → Prop} : onOwn (some (.own d)) Q = Q d := rfl
theorem okE_c {d : D} : okE T c (.c d) Γ h Q = Q d h := rfl
theorem okE_no : okE T c .no Γ h Q = Q .non h := rfl
theorem okE_v {i : Nat} : okE T c (.v i) Γ h Q = onVal Γ[i]? fun d => Q d h := by
  unfold okE
  rw [evalE]
  match Γ[i]? with
  | none => rfl
  | some .no => rfl
  | some (.own _) => rfl
  | some (.val d) => rfl
theorem okE_pk {i : Nat} : okE T c (.pk i) Γ h Q = onOwn Γ[i]? fun c => Q c.toD h := by
  unfold okE
  rw [evalE]
  match Γ[i]? with
  | none => rfl
  | some .no => rfl
  | some (.own _) => rfl
  | some (.val d) => rfl
theorem okE_g {i : Nat} : okE T c (.g i) Γ h Q = onO (T.glob i) fun d => Q d h := by
  unfold okE
  rw [evalE, okO_lift]
theorem okE_bin {o : Op} {a b : CE} : okE T c (.bin o a b) Γ h Q = okE T c a Γ h fun x h => okE T c b Γ h fun y h => onO (binD o h x y) fun d => Q d h := by
  unfold okE
  rw [evalE]
  simp only [okO_bnd, okO_lift]
theorem okE_neg {a : CE} : okE T c (.neg a) Γ h Q = okE T c a Γ h fun x h => onO (negD x) fun d => Q d h := by
  unfold okE
  rw [evalE]
  simp only [okO_bnd, okO_lift]
theorem okE_cmp {o : Cm} {a b : CE} : okE T c (.cmp o a b) Γ h Q = okE T c a Γ h fun x h => okE T c b Γ h fun y h => onO (cmpD o h x y) fun d => Q d h := by
  unfold okE
  rw [evalE]
  simp only [okO_bnd, okO_lift]
theorem okE_chain {o o' : Cm} {a b e : CE} : okE T c (.chain o o' a b e) Γ h Q = okE T c a Γ h fun x h => okE T c b Γ h fun y h => onO (cmpD o h x y) fun d => onB d fun p => if p = true then okE T c e Γ h fun z h => onO (cmpD o' h y z) fun d => Q d h else Q (.bl false) h := by
  unfold okE
  rw [evalE]
  simp only [okO_bnd]
  congr
  funext x h
  congr
  funext y h
  match cmpD o h x y with
  | none => rfl
  | some (.bl true) => simp [onO, onB, okO_bnd, okO_lift]
  | some (.bl false) => simp [onO, onB, okO_ok]
  | some .non => rfl
  | some (.int _) => rfl
  | some (.str _) => rfl
  | some (.tup _) => rfl
  | some (.lst _) => rfl
  | some (.dct _ _) => rfl
  | some (.scr _) => rfl
  | some (.ref _) => rfl
theorem okE_and {a b : CE} : okE T c (.and a b) Γ h Q = okE T c a Γ h fun x h => onB x fun p => if p = true then okE T c b Γ h Q else Q (.bl false) h := by
  unfold okE
  rw [evalE]
  simp only [okO_bnd]
  congr
  funext x h
  match x with
  | .bl true => simp [onB]
  | .bl false => simp [onB, okO_ok]
  | .non => rfl
  | (.int _) => rfl
  | (.str _) => rfl
  | (.tup _) => rfl
  | (.lst _) => rfl
  | (.dct _ _) => rfl
  | (.scr _) => rfl
  | (.ref _) => rfl
theorem okE_or {a b : CE} : okE T c (.or a b) Γ h Q = okE T c a Γ h fun x h => onB x fun p => if p = true then Q (.bl true) h else okE T c b Γ h Q := by
  unfold okE
  rw [evalE]
  simp only [okO_bnd]
  congr
  funext x h
  match x with
  | .bl true => simp [onB, okO_ok]
  | .bl false => simp [onB]
  | .non => rfl
  | (.int _) => rfl
  | (.str _) => rfl
  | (.tup _) => rfl
  | (.lst _) => rfl
  | (.dct _ _) => rfl
  | (.scr _) => rfl
  | (.ref _) => rfl
theorem okE_not {a : CE} : okE T c (.not a) Γ h Q = okE T c a Γ h fun x h => onB x fun p => Q (.bl (!p)) h := by
  unfold okE
  rw [evalE]
  simp only [okO_bnd]
  congr
  funext x h
  match x with
  | .bl _ => rfl
  | .non => rfl
  | (.int _) => rfl
  | (.str _) => rfl
  | (.tup _) => rfl
  | (.lst _) => rfl
  | (.dct _ _) => rfl
  | (.scr _) => rfl
  | (.ref _) => rfl
theorem okE_ite {t a b : CE} : okE T c (.ite t a b) Γ h Q = okE T c t Γ h fun x h => onB x fun p => if p = true then okE T c a Γ h Q else okE T c b Γ h Q := by
  unfold okE
  rw [evalE]
  simp only [okO_bnd]
  congr
  funext x h
  match x with
  | .bl true => simp [onB]
  | .bl false => simp [onB]
  | .non => rfl
  | (.int _) => rfl
  | (.str _) => rfl
  | (.tup _) => rfl
  | (.lst _) => rfl
  | (.dct _ _) => rfl
  | (.scr _) => rfl
  | (.ref _) => rfl
theorem okE_isi {t : Ty} {a : CE} : okE T c (.isi t a) Γ h Q = okE T c a Γ h fun x h => onO (isiD t h x) fun b => Q (.bl b) h := by
  unfold okE
  rw [evalE]
  simp only [okO_bnd, okO_lift, onO_map]
theorem okE_b1 {f : B1} {a : CE} : okE T c (.b1 f a) Γ h Q = okE T c a Γ h fun x h => onO (b1D f h x) fun d => Q d h := by
  unfold okE
  rw [evalE]
  simp only [okO_bnd, okO_lift]
theorem okE_b2 {f : B2} {a b : CE} : okE T c (.b2 f a b) Γ h Q = okE T c a Γ h fun x h => okE T c b Γ h fun y h => onO (b2D f x y) fun d => Q d h := by
  unfold okE
  rw [evalE]
  simp only [okO_bnd, okO_lift]
theorem okE_bm {f : Bm} {a b : CE} : okE T c (.bm f a b) Γ h Q = okE T c a Γ h fun x h => okE T c b Γ h fun y h => onO (bmD f h x y) fun d => Q d h := by
  unfold okE
  rw [evalE]
  simp only [okO_bnd, okO_lift]
theorem okE_call {f : Nat} {as : List CE} : okE T c (.call f as) Γ h Q = okEs T c as Γ h fun xs h => okO (c f xs h) Q := by
  unfold okE okEs
  rw [evalE]
  simp only [okO_bnd]
theorem okE_ix {a b : CE} : okE T c (.ix a b) Γ h Q = okE T c a Γ h fun x h => okE T c b Γ h fun y h => onO (ixD h x y) fun d => Q d h := by
  unfold okE
  rw [evalE]
  simp only [okO_bnd, okO_lift]
theorem okE_sl {a lo hi : CE} : okE T c (.sl a lo hi) Γ h Q = okE T c a Γ h fun x h => okE T c lo Γ h fun l h => onO (boundC (isNo lo) l) fun l => okE T c hi Γ h fun u h => onO (boundC (isNo hi) u) fun u => onO (slI h x l u) fun d => Q d h := by
  unfold okE
  rw [evalE]
  simp only [okO_bnd]
  congr
  funext x h
  congr
  funext l h
  cases boundC (isNo lo) l with
  | none => rfl
  | some l =>
    simp only [okO_bnd, onO_some]
    congr
    funext u h
    cases boundC (isNo hi) u with
    | none => rfl
    | some u => simp only [okO_lift, onO_some]
theorem okE_tup {as : List CE} : okE T c (.tup as) Γ h Q = okEs T c as Γ h fun xs h => xs.length ≤ maxLen ∧ Q (.tup xs) h := by
  unfold okE okEs
  rw [evalE]
  simp only [okO_bnd]
  congr
  funext xs h
  by_cases hz : xs.length ≤ maxLen <;> simp [hz, okO_ok, okO_none]
theorem okE_lst {as : List CE} : okE T c (.lst as) Γ h Q = okEs T c as Γ h fun xs h => xs.length ≤ maxLen ∧ Q (.lst xs) h := by
  unfold okE okEs
  rw [evalE]
  simp only [okO_bnd]
  congr
  funext xs h
  by_cases hz : xs.length ≤ maxLen <;> simp [hz, okO_ok, okO_none]
theorem okE_dct {ks : List Key} {as : List CE} : okE T c (.dct ks as) Γ h Q = okEs T c as Γ h fun xs h => Q (.dct ks xs) h := by
  unfold okE okEs
  rw [evalE]
  simp only [okO_bnd, okO_ok]
theorem okE_new {a : CE} : okE T c (.new a) Γ h Q = okE T c a Γ h fun x h => okO (newCell h x) Q := by
  unfold okE
  rw [evalE]
  simp only [okO_bnd]
/-- a comprehension's turn -/
def lcF1 (T : Tb) (c : Call) (tg : Tg) (own : List Nat) (cond elt : CE) (Γ : List Slot) : D → List Cell → Out (Option D) := fun d h => match setTg tg d (wipeS Γ own) with
  | some Γ' => bnd (evalE T c cond Γ' h) fun b h => match b with
    | .bl true => bnd (evalE T c elt Γ' h) fun y h => some (.ok (some y) h)
    | .bl false => some (.ok none h)
    | _ => none
  | none => none
theorem okO_lcF1 {tg : Tg} {own : List Nat} {cond elt : CE} {d : D} {Q : Option D → List Cell → Prop} : okO (lcF1 T c tg own cond elt Γ d h) Q = onO (setTg tg d (wipeS Γ own)) fun Γ' => okE T c cond Γ' h fun b h => onB b fun p => if p = true then okE T c elt Γ' h fun y h => Q (some y) h else Q none h := by
  unfold lcF1
  cases setTg tg d (wipeS Γ own) with
  | none => rfl
  | some Γ' =>
    simp only [okO_bnd, onO_some]
    unfold okE
    congr
    funext x h
    match x with
    | .bl true => simp [onB, okO_bnd, okO_ok]
    | .bl false => simp [onB, okO_ok]
    | .non => rfl
    | (.int _) => rfl
    | (.str _) => rfl
    | (.tup _) => rfl
    | (.lst _) => rfl
    | (.dct _ _) => rfl
    | (.scr _) => rfl
    | (.ref _) => rfl
theorem okE_lc {k : ItK} {srcs : List CE} {tg : Tg} {own : List Nat} {cond elt : CE} : okE T c (.lc k srcs tg own cond elt) Γ h Q = okEs T c srcs Γ h fun ds h => onO (itemsOf k h ds) fun its => wipeOk Γ own = true ∧ okO (lcL (lcF1 T c tg own cond elt Γ) its h) fun ys h => ys.length ≤ maxLen ∧ Q (.lst ys) h := by
  unfold okE okEs
  rw [evalE]
  simp only [okO_bnd]
  congr
  funext ds h
  cases itemsOf k h ds with
  | none => rfl
  | some its =>
    cases hw : wipeOk Γ own with
    | false => simp [onO, okO_none]
    | true =>
      simp only [onO_some, true_and]
      show okO (bnd (calmO (lcL (lcF1 T c tg own cond elt Γ) its h)) _) Q = _
      rw [okO_bnd, okO_calm]
      congr
      funext xs h
      by_cases hz : xs.length ≤ maxLen <;> simp [hz, okO_ok, okO_none]
theorem okEs_nil : okEs T c [] Γ h QL = QL [] h := rfl
theorem okEs_cons {a : CE} {as : List CE} : okEs T c (a :: as) Γ h QL = okE T c a Γ h fun x h => okEs T c as Γ h fun xs h => QL (x :: xs) h := by
  unfold okE okEs
  rw [evalEs]
  simp only [okO_bnd, okO_ok]
theorem okE.mono {e : CE} {Q' : D → List Cell → Prop} (g : okE T c e Γ h Q) (k : ∀ d h, Q d h → Q' d h) : okE T c e Γ h Q' := okO.mono g k
/-! ### statements -/
theorem okC_asg {i : Nat} {e : CE} : okC T c (.asg i e) Γ h N R = okE T c e Γ h fun x h => N (Γ.set i (.val x)) h := by
  unfold okC okE
  rw [execS, okS_bnd]
  rfl
def onCell (x : D) (Q : Cell → Prop) : Prop := match x with
  | .lst ds => Q (.lst ds)
  | .dct ks vs => Q (.dct ks vs)
  | _ => False
theorem onCell_lst {ds : List D} {Q : Cell → Prop} : onCell (.lst ds) Q = Q (.lst ds) := rfl
theorem onCell_dct {ks : List Key} {ds : List D} {Q : Cell → Prop} : onCell (.dct ks ds) Q = Q (.dct ks ds) := rfl
theorem okC_own {i : Nat} {e : CE} : okC T c (.own i e) Γ h N R = okE T c e Γ h fun x h => onCell x fun cl => N (Γ.set i (.own cl)) h := by
  unfold okC okE
  rw [execS, okS_bnd]
  congr
  funext x h
  cases x <;> rfl
theorem okC_stIx {o i e : CE} : okC T c (.stIx o i e) Γ h N R = okE T c e Γ h fun x h => okE T c o Γ h fun y h => okE T c i Γ h fun z h => onO (stIxD h y z x) fun h => N Γ h := by
  unfold okC okE
  rw [execS]
  simp only [okS_bnd]
  congr
  funext x h
  congr
  funext y h
  congr
  funext z h
  cases stIxD h y z x <;> rfl
def onInts (x y : D) (Q : Int → Int → Prop) : Prop := match x, y with
  | .int a, .int b => Q a b
  | _, _ => False
theorem onInts_int {a b : Int} {Q : Int → Int → Prop} : onInts (.int a) (.int b) Q = Q a b := rfl
theorem okC_aug {i : Nat} {e : CE} : okC T c (.aug i e) Γ h N R = onVal Γ[i]? fun x => okE T c e Γ h fun y h => onInts x y fun a b => N (Γ.set i (.val (.int (a + b)))) h := by
  unfold okC okE
  rw [execS]
  match Γ[i]? with
  | none => rfl
  | some .no => rfl
  | some (.own _) => rfl
  | some (.val d) =>
    simp only [okS_bnd, onVal_val]
    congr
    funext y h
    cases d <;> cases y <;> rfl
theorem okC_app {i : Nat} {e : CE} : okC T c (.app i e) Γ h N R = onOwn Γ[i]? fun cl => match cl with
    | .lst ds => okE T c e Γ h fun y h => ds.length < maxLen ∧ N (Γ.set i (.own (.lst (ds ++ [y])))) h
    | _ => False := by
  unfold okC okE
  rw [execS]
  match Γ[i]? with
  | none => rfl
  | some .no => rfl
  | some (.val _) => rfl
  | some (.own (.dct _ _)) => rfl
  | some (.own (.ins _ _)) => rfl
  | some (.own (.llst _)) => rfl
  | some (.own (.ldct _ _)) => rfl
  | some (.own (.lst ds)) =>
    simp only [okS_bnd, onOwn_own]
    congr
    funext y h
    by_cases hz : ds.length < maxLen <;> simp [hz, okS]
theorem okC_ex {e : CE} : okC T c (.ex e) Γ h N R = okE T c e Γ h fun _ h => N Γ h := by
  unfold okC okE
  rw [execS, okS_bnd]
  rfl
theorem okC_ret {e : CE} : okC T c (.ret e) Γ h N R = okE T c e Γ h R := by
  unfold okC okE
  rw [execS, okS_bnd]
  rfl
theorem okC_retN : okC T c .retN Γ h N R = R .non h := by
  unfold okC
  rw [execS]
  rfl
theorem okC_ite {t : CE} {a b : List CS} : okC T c (.ite t a b) Γ h N R = okE T c t Γ h fun x h => onB x fun p => if p = true then okCs T c a Γ h N R else okCs T c b Γ h N R := by
  unfold okC okE okCs
  rw [execS, okS_bnd]
  congr
  funext x h
  match x with
  | .bl true => simp [onB]
  | .bl false => simp [onB]
  | .non => rfl
  | (.int _) => rfl
  | (.str _) => rfl
  | (.tup _) => rfl
  | (.lst _) => rfl
  | (.dct _ _) => rfl
  | (.scr _) => rfl
  | (.ref _) => rfl
def forF (T : Tb) (c : Call) (tg : Tg) (body : List CS) : D → List Slot → List Cell → OutS := fun d Γ h => match setTg tg d Γ with
  | some Γ => execSs T c body Γ h
  | none => none
theorem okS_forF {tg : Tg} {body : List CS} {d : D} : okS (forF T c tg body d Γ h) N R = onO (setTg tg d Γ) fun Γ => okCs T c body Γ h N R := by
  unfold forF
  cases setTg tg d Γ <;> rfl
theorem okC_for {k : ItK} {srcs : List CE} {tg : Tg} {body : List CS} : okC T c (.for_ k srcs tg body) Γ h N R = okEs T c srcs Γ h fun ds h => onO (itemsOf k h ds) fun its => okS (forL (forF T c tg body) its Γ h) N R := by
  unfold okC okEs
  rw [execS, okS_bnd]
  congr
  funext ds h
  cases itemsOf k h ds <;> rfl
theorem okCs_nil : okCs T c [] Γ h N R = N Γ h := by
  unfold okCs
  rw [execSs]
  rfl
theorem okCs_cons {s : CS} {ss : List CS} : okCs T c (s :: ss) Γ h N R = okC T c s Γ h (fun Γ h => okCs T c ss Γ h N R) R := by
  unfold okCs okC
  rw [execSs, okS_then]
/-! ### instances, dicts, lists asked; locks -/
theorem okE_attr {a : CE} {f : Str} : okE T c (.attr a f) Γ h Q = okE T c a Γ h fun x h => onO (attrD T.fld h x f) fun d => Q d h := by
  unfold okE
  rw [evalE]
  simp only [okO_bnd, okO_lift]
theorem okE_meth {a : CE} {m : Str} {as : List CE} : okE T c (.meth a m as) Γ h Q = okE T c a Γ h fun x h => onO (methD T.meth h x m) fun f => okEs T c as Γ h fun xs h => okO (c f (x :: xs) h) Q := by
  unfold okE okEs
  rw [evalE]
  simp only [okO_bnd]
  congr
  funext x h
  cases methD T.meth h x m with
  | none => rfl
  | some f => simp only [okO_bnd, onO_some]
def onNon (x : D) (P : Prop) : Prop := match x with
  | .non => P
  | _ => False
theorem onNon_non {P : Prop} : onNon .non P = P := rfl
theorem okE_make {cn : Str} {as : List CE} : okE T c (.make cn as) Γ h Q = onO (T.init cn) fun f => okEs T c as Γ h fun xs h => okO (c f (.ref h.length :: xs) (h ++ [.ins cn []])) fun v h' => onNon v (Q (.ref h.length) h') := by
  unfold okE okEs
  rw [evalE]
  cases T.init cn with
  | none => rfl
  | some f =>
    simp only [okO_bnd, onO_some]
    congr
    funext xs h
    congr
    funext v h'
    cases v <;> rfl
theorem okE_getd {o k d : CE} : okE T c (.getd o k d) Γ h Q = okE T c o Γ h fun x h => (dctOf h x).isSome = true ∧ okE T c k Γ h fun y h => okE T c d Γ h fun z h => onO (getdD h x y z) fun r => Q r h := by
  unfold okE
  rw [evalE]
  simp only [okO_bnd]
  congr
  funext x h
  by_cases hz : (dctOf h x).isSome = true
  · simp only [hz, if_true, true_and, okO_bnd, okO_lift]
  · simp only [hz, Bool.false_eq_true, if_false, false_and, okO_none]
theorem okE_orv {a b : CE} : okE T c (.orv a b) Γ h Q = okE T c a Γ h fun x h => onO (truD h x) fun t => if t = true then Q x h else okE T c b Γ h Q := by
  unfold okE
  rw [evalE]
  simp only [okO_bnd]
  congr
  funext x h
  cases truD h x with
  | none => rfl
  | some t => cases t <;> simp [onO_some, okO_ok]
theorem okE_popK {o k : CE} : okE T c (.popK o k) Γ h Q = okE T c o Γ h fun x h => (dctOf h x).isSome = true ∧ okE T c k Γ h fun y h => onO (popKD h x y) fun p => Q p.1 p.2 := by
  unfold okE
  rw [evalE]
  simp only [okO_bnd]
  congr
  funext x h
  by_cases hz : (dctOf h x).isSome = true
  · simp only [hz, if_true, true_and, okO_bnd]
    congr
    funext y h
    cases popKD h x y <;> rfl
  · simp only [hz, Bool.false_eq_true, if_false, false_and, okO_none]
theorem okE_popL {o : CE} : okE T c (.popL o) Γ h Q = okE T c o Γ h fun x h => onO (popLD h x) fun p => Q p.1 p.2 := by
  unfold okE
  rw [evalE]
  simp only [okO_bnd]
  congr
  funext x h
  cases popLD h x <;> rfl
theorem okE_lkd {i : Nat} {p : List Stp} {a : CE} : okE T c (.lkd i p a) Γ h Q = onO (lookD Γ h i p) fun n => onO (lockH h n) fun h1 => okE T c a Γ h1 fun v h2 => onO (unlockH h2 n) fun h3 => Q v h3 := by
  unfold okE
  rw [evalE]
  cases lookD Γ h i p with
  | none => rfl
  | some n =>
    simp only [onO_some]
    cases lockH h n with
    | none => rfl
    | some h1 =>
      simp only [onO_some]
      cases evalE T c a Γ h1 with
      | none => rfl
      | some r =>
        cases r with
        | exc _ _ => rfl
        | ok v h2 =>
          simp only [okO_ok]
          cases unlockH h2 n <;> rfl
theorem okC_appR {o e : CE} : okC T c (.appR o e) Γ h N R = okE T c o Γ h fun x h => (lstOf h x).isSome = true ∧ okE T c e Γ h fun v h => onO (appRD h x v) fun h => N Γ h := by
  unfold okC okE
  rw [execS]
  simp only [okS_bnd]
  congr
  funext x h
  by_cases hz : (lstOf h x).isSome = true
  · simp only [hz, if_true, true_and, okS_bnd]
    congr
    funext y h
    cases appRD h x y <;> rfl
  · simp only [hz, Bool.false_eq_true, if_false, false_and]
    rfl
theorem okC_stAt {o e : CE} {f : Str} : okC T c (.stAt o f e) Γ h N R = okE T c e Γ h fun v h => okE T c o Γ h fun x h => onO (stAtD T.fld h x f v) fun h => N Γ h := by
  unfold okC okE
  rw [execS]
  simp only [okS_bnd]
  congr
  funext x h
  congr
  funext y h
  cases stAtD T.fld h y f x <;> rfl
theorem okC_whl {t : CE} {body : List CS} : okC T c (.whl t body) Γ h N R = okS (whlL (evalE T c t) (execSs T c body) T.fuel Γ h) N R := by
  unfold okC
  rw [execS]
/-- a while, by an invariant; k: how often it may turn yet -/
theorem whl_inv {t : CE} {body : List CS} (I : Nat → List Slot → List Cell → Prop) (step : ∀ k Γ h, I k Γ h → okE T c t Γ h fun x h' => onB x fun b => if b = true then ∃ k', k = k' + 1 ∧ okCs T c body Γ h' (I k') R else N Γ h') :
    ∀ {fuel k : Nat} {Γ : List Slot} {h : List Cell}, k < fuel → I k Γ h → okS (whlL (evalE T c t) (execSs T c body) fuel Γ h) N R
  | 0, k, Γ, h, hk, _ => absurd hk (by omega)
  | fuel + 1, k, Γ, h, hk, hi => by
    have g := step k Γ h hi
    rw [whlL, okS_bnd]
    unfold okE at g
    refine g.mono fun x h' q => ?_
    cases x with
    | bl b =>
      rw [onB_bl] at q
      cases b with
      | false => exact q
      | true =>
        obtain ⟨k', e, q⟩ := q
        unfold okCs at q
        revert q
        cases execSs T c body Γ h' with
        | none => exact fun q => q
        | some r =>
          cases r with
          | nx Γ2 h2 => exact fun q => whl_inv I step (by omega) q
          | ret d h2 => exact fun q => q
          | brk _ _ => exact fun q => q.elim
          | cont _ _ => exact fun q => q.elim
          | exc _ _ _ => exact fun q => q.elim
    | _ => exact q.elim
theorem okC_lkd {i : Nat} {p : List Stp} {s : CS} : okC T c (.lkd i p s) Γ h N R = onO (lookD Γ h i p) fun n => onO (lockH h n) fun h1 => okC T c s Γ h1 (fun Γ2 h2 => onO (unlockH h2 n) fun h3 => N Γ2 h3) fun d h2 => onO (unlockH h2 n) fun h3 => R d h3 := by
  unfold okC
  rw [execS]
  cases lookD Γ h i p with
  | none => rfl
  | some n =>
    simp only [onO_some]
    cases lockH h n with
    | none => rfl
    | some h1 =>
      simp only [onO_some]
      cases execS T c s Γ h1 with
      | none => rfl
      | some r =>
        cases r with
        | nx Γ2 h2 =>
          dsimp only
          cases e : unlockH h2 n <;> simp [okS, onO, e]
        | ret Γ2 h2 =>
          dsimp only
          cases e : unlockH h2 n <;> simp [okS, onO, e]
        | brk Γ2 h2 =>
          dsimp only
          cases e : unlockH h2 n <;> simp [okS]
        | cont Γ2 h2 =>
          dsimp only
          cases e : unlockH h2 n <;> simp [okS]
        | exc _ _ _ => rfl
/-- a def's call -/
theorem ok_call {n f : Nat} {F : Fn} {ds : List D} (hf : T.fn f = some F) (hl : ds.length = F.ar) (g : okCs T (callN T n) F.body (ds.map .val ++ List.replicate (F.ns - F.ar) .no) h (fun _ h => Q .non h) Q) : okO (callN T (n + 1) f ds h) Q := by
  rw [callN, hf]
  simp only [if_pos hl]
  unfold okCs at g
  revert g
  generalize execSs T (callN T n) F.body (ds.map .val ++ List.replicate (F.ns - F.ar) .no) h = r
  intro g
  match r, g with
  | some (.nx Γ h), g => exact g
  | some (.ret d h), g => exact g
end
end DC

set_option linter.all false
set_option Elab.async false
set_option maxRecDepth 100000
set_option maxHeartbeats 4000000
/-! DBa: the defs that most laws share: their cores, what is known of a table that holds them. -/
namespace DL
open PySem DC
def b0 : List CS := [.ret (.and (.isi .str (.v 0)) (.and (.chain .le .le (.c (.int 1)) (.b1 .len (.v 0)) (.g 1)) (.b1 .all (.lc .text [(.v 0)] (.one 1) [1] (.c (.bl true)) (.cmp .isin (.v 1) (.g 0))))))]
def b1 : List CS := [.ret (.and (.call 0 [(.v 0)]) (.cmp .notin (.v 0) (.g 2)))]
def b2 : List CS := [.ret (.and (.isi .int (.v 0)) (.and (.not (.isi .bool (.v 0))) (.chain .le .lt (.c (.int 0)) (.v 0) (.g 3))))]
def b3 : List CS := [.ite (.or (.not (.isi .tuple (.v 0))) (.cmp .lt (.v 1) (.c (.int 1)))) [.ret (.c (.bl false))] [],
    .ite (.cmp .eq (.b1 .len (.v 0)) (.c (.int 2))) [.ret (.or (.and (.cmp .eq (.ix (.v 0) (.c (.int 0))) (.c (.str "number"))) (.call 2 [(.ix (.v 0) (.c (.int 1)))])) (.and (.cmp .eq (.ix (.v 0) (.c (.int 0))) (.c (.str "box"))) (.call 1 [(.ix (.v 0) (.c (.int 1)))])))] [],
    .ret (.and (.cmp .eq (.b1 .len (.v 0)) (.c (.int 3))) (.and (.cmp .isin (.ix (.v 0) (.c (.int 0))) (.g 4)) (.and (.call 3 [(.ix (.v 0) (.c (.int 1))), (.bin .sub (.v 1) (.c (.int 1)))]) (.call 3 [(.ix (.v 0) (.c (.int 2))), (.bin .sub (.v 1) (.c (.int 1)))]))))]
def b4 : List CS := [.ite (.not (.isi .tuple (.v 0))) [.ret (.c (.bl false))] [],
    .ite (.cmp .eq (.b1 .len (.v 0)) (.c (.int 3))) [.ite (.cmp .eq (.ix (.v 0) (.c (.int 0))) (.c (.str "get"))) [.ret (.and (.call 1 [(.ix (.v 0) (.c (.int 1)))]) (.call 1 [(.ix (.v 0) (.c (.int 2)))]))] [],
    .ret (.and (.cmp .isin (.ix (.v 0) (.c (.int 0))) (.tup [(.c (.str "put")), (.c (.str "let"))])) (.and (.call 1 [(.ix (.v 0) (.c (.int 1)))]) (.call 3 [(.ix (.v 0) (.c (.int 2))), (.g 5)])))] [],
    .ite (.cmp .eq (.b1 .len (.v 0)) (.c (.int 4))) [.asg 2 (.and (.cmp .eq (.ix (.v 0) (.c (.int 0))) (.c (.str "if"))) (.and (.cmp .lt (.v 1) (.g 6)) (.call 3 [(.ix (.v 0) (.c (.int 1))), (.g 5)]))),
    .ret (.and (.v 2) (.and (.call 5 [(.ix (.v 0) (.c (.int 2))), (.bin .add (.v 1) (.c (.int 1)))]) (.call 5 [(.ix (.v 0) (.c (.int 3))), (.bin .add (.v 1) (.c (.int 1)))])))] [],
    .ret (.cmp .isin (.v 0) (.g 7))]
def b5 : List CS := [.ite (.or (.not (.isi .tuple (.v 0))) (.not (.b1 .all (.lc .seq [(.v 0)] (.one 2) [2] (.c (.bl true)) (.call 4 [(.v 2), (.v 1)]))))) [.ret (.c (.bl false))] [],
    .ret (.b1 .all (.lc .seq [(.sl (.v 0) .no (.neg (.c (.int 1))))] (.one 2) [2] (.c (.bl true)) (.cmp .notin (.v 2) (.g 7))))]
def b6 : List CS := [.asg 1 (.b1 .len (.v 0)),
    .for_ .seq [(.v 0)] (.one 2) [.ite (.cmp .eq (.ix (.v 2) (.c (.int 0))) (.c (.str "if"))) [.aug 1 (.bin .add (.call 6 [(.ix (.v 2) (.c (.int 2)))]) (.call 6 [(.ix (.v 2) (.c (.int 3)))]))] []],
    .ret (.v 1)]
def b7 : List CS := [.asg 1 (.c (.int 0)),
    .for_ .seq [(.v 0)] (.one 2) [.ite (.cmp .eq (.ix (.v 2) (.c (.int 0))) (.c (.str "if"))) [.aug 1 (.bin .add (.call 7 [(.ix (.v 2) (.c (.int 2)))]) (.call 7 [(.ix (.v 2) (.c (.int 3)))]))] [.ite (.cmp .isin (.ix (.v 2) (.c (.int 0))) (.tup [(.c (.str "get")), (.c (.str "put"))])) [.aug 1 (.c (.int 1))] []]],
    .ret (.v 1)]
def b8 : List CS := [.ite (.not (.call 5 [(.v 0), (.c (.int 0))])) [.ret (.c (.bl false))] [],
    .ret (.and (.chain .le .le (.c (.int 1)) (.call 6 [(.v 0)]) (.g 9)) (.cmp .le (.call 7 [(.v 0)]) (.g 8)))]
def b9 : List CS := [.asg 2 (.bin .add (.c (.int 1)) (.bin .mul (.c (.int 2)) (.v 1))),
    .ite (.cmp .gt (.b1 .len (.v 0)) (.c (.int 0))) [.asg 2 (.bin .add (.ix (.v 0) (.bin .mod (.v 1) (.b1 .len (.v 0)))) (.bin .mul (.c (.int 2)) (.bin .fdiv (.v 1) (.b1 .len (.v 0)))))] [],
    .asg 3 (.bin .fdiv (.b1 .abs (.v 2)) (.c (.int 2))),
    .ite (.cmp .eq (.bin .mod (.v 2) (.c (.int 2))) (.c (.int 1))) [.asg 3 (.bin .mod (.bin .add (.bin .add (.bin .add (.bin .mul (.bin .mod (.v 3) (.c (.int 2147483647))) (.c (.int 48271))) (.bin .mul (.c (.int 7919)) (.v 1))) (.b1 .len (.v 0))) (.c (.int 11))) (.c (.int 2147483647)))] [],
    .ret (.new (.lst [(.bin .mod (.v 2) (.c (.int 2))), (.v 3), (.bin .add (.v 1) (.c (.int 1)))]))]
def b10 : List CS := [.ite (.cmp .eq (.ix (.v 0) (.c (.int 0))) (.c (.int 0))) [.asg 3 (.bin .mod (.ix (.v 0) (.c (.int 1))) (.v 1)),
    .stIx (.v 0) (.c (.int 1)) (.bin .fdiv (.ix (.v 0) (.c (.int 1))) (.v 1)),
    .ret (.v 3)] [],
    .stIx (.v 0) (.c (.int 1)) (.bin .mod (.bin .add (.bin .mul (.ix (.v 0) (.c (.int 1))) (.c (.int 48271))) (.ix (.v 0) (.c (.int 2)))) (.c (.int 2147483647))),
    .asg 2 (.bin .mod (.bin .mul (.ix (.v 0) (.c (.int 1))) (.ix (.v 0) (.c (.int 1)))) (.c (.int 2147483629))),
    .ret (.bin .mod (.bin .fdiv (.bin .mod (.bin .mul (.v 2) (.v 2)) (.c (.int 2147483587))) (.c (.int 7))) (.v 1))]
def b11 : List CS := [.asg 2 (.c (.str "abcdefghijklmnopqrstuvwxyz")),
    .asg 3 (.call 10 [(.v 0), (.c (.int 26))]),
    .ite (.and (.cmp .eq (.call 10 [(.v 0), (.c (.int 4))]) (.c (.int 0))) (.cmp .lt (.v 1) (.c (.int 5)))) [.ret (.lc .range1 [(.v 1)] (.one 7) [7] (.c (.bl true)) (.bin .mul (.ix (.v 2) (.v 3)) (.bin .add (.c (.int 1)) (.v 7))))] [],
    .asg 4 (.bin .add (.c (.int 1)) (.call 10 [(.v 0), (.c (.int 4))])),
    .asg 5 (.call 10 [(.v 0), (.v 4)]),
    .asg 6 (.bm .join (.c (.str "")) (.lc .range1 [(.v 4)] (.one 7) [7] (.c (.bl true)) (.ix (.v 2) (.bin .mod (.bin .add (.v 3) (.bin .mul (.c (.int 7)) (.v 7))) (.c (.int 26)))))),
    .ret (.lc .range1 [(.v 1)] (.one 7) [7] (.c (.bl true)) (.bin .add (.bin .add (.sl (.v 6) .no (.v 5)) (.ix (.v 2) (.bin .mod (.bin .add (.bin .add (.v 3) (.c (.int 5))) (.bin .mul (.c (.int 3)) (.v 7))) (.c (.int 26))))) (.sl (.v 6) (.bin .add (.v 5) (.c (.int 1))) .no)))]
def b12 : List CS := [.asg 3 (.call 10 [(.v 0), (.c (.int 6))]),
    .ite (.or (.cmp .eq (.v 2) (.c (.int 1))) (.cmp .lt (.v 3) (.c (.int 4)))) [.ite (.cmp .eq (.bin .mod (.v 3) (.c (.int 2))) (.c (.int 0))) [.ret (.tup [(.c (.str "box")), (.ix (.v 1) (.call 10 [(.v 0), (.b1 .len (.v 1))]))])] [],
    .ret (.tup [(.c (.str "number")), (.ix (.lst [(.call 10 [(.v 0), (.c (.int 4))]), (.call 10 [(.v 0), (.c (.int 1000))]), (.c (.int 999))]) (.call 10 [(.v 0), (.c (.int 3))]))])] [],
    .asg 4 (.ix (.lst [(.c (.str "+")), (.c (.str "-")), (.c (.str "*")), (.c (.str "<")), (.c (.str "="))]) (.call 10 [(.v 0), (.c (.int 5))])),
    .asg 5 (.call 12 [(.v 0), (.v 1), (.bin .sub (.v 2) (.c (.int 1)))]),
    .ret (.tup [(.v 4), (.v 5), (.call 12 [(.v 0), (.v 1), (.bin .sub (.v 2) (.c (.int 1)))])])]
def b13 : List CS := [.stIx (.v 2) (.c (.str "lines")) (.bin .sub (.ix (.v 2) (.c (.str "lines"))) (.c (.int 1))),
    .asg 4 (.call 10 [(.v 0), (.c (.int 8))]),
    .ite (.and (.cmp .gt (.v 4) (.c (.int 5))) (.cmp .lt (.v 3) (.c (.int 3)))) [.asg 6 (.call 14 [(.v 0), (.v 1), (.v 2), (.bin .add (.v 3) (.c (.int 1))), (.c (.int 5))]),
    .ret (.tup [(.c (.str "if")), (.call 12 [(.v 0), (.v 1), (.c (.int 4))]), (.v 6), (.call 14 [(.v 0), (.v 1), (.v 2), (.bin .add (.v 3) (.c (.int 1))), (.c (.int 4))])])] [],
    .asg 5 (.ix (.v 1) (.call 10 [(.v 0), (.b1 .len (.v 1))])),
    .ite (.or (.cmp .eq (.v 4) (.c (.int 5))) (.or (.cmp .gt (.v 4) (.c (.int 5))) (.cmp .eq (.ix (.v 2) (.c (.str "asks"))) (.c (.int 0))))) [.ret (.tup [(.c (.str "let")), (.v 5), (.call 12 [(.v 0), (.v 1), (.c (.int 4))])])] [],
    .stIx (.v 2) (.c (.str "asks")) (.bin .sub (.ix (.v 2) (.c (.str "asks"))) (.c (.int 1))),
    .ite (.cmp .lt (.v 4) (.c (.int 3))) [.ret (.tup [(.c (.str "get")), (.v 5), (.ix (.v 1) (.call 10 [(.v 0), (.b1 .len (.v 1))]))])] [],
    .ret (.tup [(.c (.str "put")), (.v 5), (.call 12 [(.v 0), (.v 1), (.c (.int 4))])])]
def b14 : List CS := [.own 5 (.lst []),
    .for_ .range1 [(.call 10 [(.v 0), (.v 4)])] (.one 6) [.ite (.cmp .gt (.ix (.v 2) (.c (.str "lines"))) (.c (.int 0))) [.app 5 (.call 13 [(.v 0), (.v 1), (.v 2), (.v 3)])] []],
    .ite (.and (.cmp .gt (.ix (.v 2) (.c (.str "lines"))) (.c (.int 0))) (.cmp .eq (.call 10 [(.v 0), (.c (.int 6))]) (.c (.int 0)))) [.stIx (.v 2) (.c (.str "lines")) (.bin .sub (.ix (.v 2) (.c (.str "lines"))) (.c (.int 1))),
    .app 5 (.ix (.lst [(.tup [(.c (.str "end"))]), (.tup [(.c (.str "drop"))])]) (.call 10 [(.v 0), (.c (.int 2))]))] [],
    .ret (.b1 .tuple (.pk 5))]
def b15 : List CS := [.asg 2 (.new (.dct [(.inr "lines"), (.inr "asks")] [(.c (.int 16)), (.c (.int 8))])),
    .asg 3 (.call 14 [(.v 0), (.v 1), (.v 2), (.c (.int 0)), (.c (.int 17))]),
    .ite (.cmp .eq (.v 3) (.tup [])) [.ret (.tup [(.tup [(.c (.str "put")), (.ix (.v 1) (.c (.int 0))), (.tup [(.c (.str "number")), (.c (.int 1))])])])] [],
    .ret (.v 3)]
class Base (T : Tb) : Prop where
  f0 : T.fn 0 = some ⟨1, 2, b0⟩
  f1 : T.fn 1 = some ⟨1, 1, b1⟩
  f2 : T.fn 2 = some ⟨1, 1, b2⟩
  f3 : T.fn 3 = some ⟨2, 2, b3⟩
  f4 : T.fn 4 = some ⟨2, 3, b4⟩
  f5 : T.fn 5 = some ⟨2, 3, b5⟩
  f6 : T.fn 6 = some ⟨1, 3, b6⟩
  f7 : T.fn 7 = some ⟨1, 3, b7⟩
  f8 : T.fn 8 = some ⟨1, 1, b8⟩
  f9 : T.fn 9 = some ⟨2, 4, b9⟩
  f10 : T.fn 10 = some ⟨2, 4, b10⟩
  f11 : T.fn 11 = some ⟨2, 8, b11⟩
  f12 : T.fn 12 = some ⟨3, 6, b12⟩
  f13 : T.fn 13 = some ⟨4, 7, b13⟩
  f14 : T.fn 14 = some ⟨5, 7, b14⟩
  f15 : T.fn 15 = some ⟨2, 4, b15⟩
  g0 : T.glob 0 = some (.str "abcdefghijklmnopqrstuvwxyz")
  g1 : T.glob 1 = some (.int 4)
  g2 : T.glob 2 = some (.tup [(.str "get"), (.str "put"), (.str "let"), (.str "if"), (.str "else"), (.str "fi"), (.str "end"), (.str "drop")])
  g3 : T.glob 3 = some (.int 1000)
  g4 : T.glob 4 = some (.tup [(.str "+"), (.str "-"), (.str "*"), (.str "<"), (.str "=")])
  g5 : T.glob 5 = some (.int 4)
  g6 : T.glob 6 = some (.int 3)
  g7 : T.glob 7 = some (.tup [(.tup [(.str "end")]), (.tup [(.str "drop")])])
  g8 : T.glob 8 = some (.int 8)
  g9 : T.glob 9 = some (.int 16)
end DL

set_option linter.all false
set_option Elab.async false
set_option maxRecDepth 100000
set_option maxHeartbeats 4000000
namespace DL
open PySem DC
variable {T : Tb} [Base T]
theorem G0 : T.glob 0 = some (.str "abcdefghijklmnopqrstuvwxyz") := Base.g0
theorem G1 : T.glob 1 = some (.int 4) := Base.g1
theorem G2 : T.glob 2 = some (.tup [(.str "get"), (.str "put"), (.str "let"), (.str "if"), (.str "else"), (.str "fi"), (.str "end"), (.str "drop")]) := Base.g2
theorem G3 : T.glob 3 = some (.int 1000) := Base.g3
theorem G4 : T.glob 4 = some (.tup [(.str "+"), (.str "-"), (.str "*"), (.str "<"), (.str "=")]) := Base.g4
theorem G5 : T.glob 5 = some (.int 4) := Base.g5
theorem G6 : T.glob 6 = some (.int 3) := Base.g6
theorem G7 : T.glob 7 = some (.tup [(.tup [(.str "end")]), (.tup [(.str "drop")])]) := Base.g7
theorem G8 : T.glob 8 = some (.int 8) := Base.g8
theorem G9 : T.glob 9 = some (.int 16) := Base.g9
abbrev letters : List Nat := ("abcdefghijklmnopqrstuvwxyz" : Str).cps.toList
/-- neither an object that changes nor the script -/
def plain1 : D → Bool
  | .ref _ => false
  | .scr _ => false
  | _ => true
def keyS (z : Str) : Bool := decide (1 ≤ z.length) && decide (z.length ≤ 4) && z.cps.toList.all fun c => decide (c ∈ letters)
def keyB : D → Bool
  | .str z => keyS z
  | _ => false
theorem bls_map {α : Type} {g : α → Bool} : ∀ {l : List α}, blsOf (l.map fun x => .bl (g x)) = some (l.map g)
  | [] => rfl
  | a :: l => by simp [blsOf, bls_map]
theorem is_key (d : D) (hd : plain1 d = true) (m : Nat) (h : List Cell) : callN T (m + 1) 0 [d] h = some (.ok (.bl (keyB d)) h) := by
  refine ok_eq (ok_call (F := ⟨1, 2, b0⟩) Base.f0 rfl ?_)
  show okCs T (callN T m) b0 [.val d, .no] h _ _
  cases d with
  | str z =>
    have hl : z.length = z.cps.toList.length := by simp [Str.length]
    simp (decide := true) only [b0, okCs_nil, okCs_cons, okC_asg, okC_own, okC_stIx, okC_aug, okC_app, okC_ex, okC_ret, okC_retN, okC_ite, okC_for, okE_c, okE_no, okE_v, okE_pk, okE_g, okE_bin, okE_neg, okE_cmp, okE_chain, okE_and, okE_or, okE_not, okE_ite, okE_isi, okE_b1, okE_b2, okE_bm, okE_call, okE_ix, okE_sl, okE_tup, okE_lst, okE_dct, okE_new, okE_lc, okEs_nil, okEs_cons, onVal_val, onOwn_own, onO_some, onO_none, onO_map, onB_bl, onCell_lst, onCell_dct, onInts_int, okO_ok, okE_attr, okE_meth, okE_make, okE_getd, okE_orv, okE_popK, okE_popL, okC_appR, okC_stAt, onNon_non, List.getElem?_cons_zero, List.getElem?_cons_succ, List.set_cons_zero, List.set_cons_succ, isNo, boundC, G0, G1, isiD, b1D, cmpD, itemsOf]
    by_cases h1 : 1 ≤ z.length
    · by_cases h2 : z.length ≤ 4
      · have e : lcL (lcF1 T (callN T m) (.one 1) [1] (.c (.bl true)) (.cmp .isin (.v 1) (.g 0)) [.val (.str z), .no]) (z.cps.toList.map fun c => .str ⟨#[c]⟩) h = some (.ok (z.cps.toList.map fun c => .bl (decide (c ∈ letters))) h) := by
          have := lc_pure (f := lcF1 T (callN T m) (.one 1) [1] (.c (.bl true)) (.cmp .isin (.v 1) (.g 0)) [.val (.str z), .no]) (h := h) (ds := z.cps.toList.map fun c => .str ⟨#[c]⟩) (g := fun d => match d with | .str y => .bl (y.cps.toList.all fun c => decide (c ∈ letters)) | d => d) (fun d hd => by
            obtain ⟨c, hc, rfl⟩ := List.mem_map.mp hd
            rw [okO_lcF1]
            simp (decide := true) [okCs_nil, okCs_cons, okC_asg, okC_own, okC_stIx, okC_aug, okC_app, okC_ex, okC_ret, okC_retN, okC_ite, okC_for, okE_c, okE_no, okE_v, okE_pk, okE_g, okE_bin, okE_neg, okE_cmp, okE_chain, okE_and, okE_or, okE_not, okE_ite, okE_isi, okE_b1, okE_b2, okE_bm, okE_call, okE_ix, okE_sl, okE_tup, okE_lst, okE_dct, okE_new, okE_lc, okEs_nil, okEs_cons, onVal_val, onOwn_own, onO_some, onO_none, onO_map, onB_bl, onCell_lst, onCell_dct, onInts_int, okO_ok, okE_attr, okE_meth, okE_make, okE_getd, okE_orv, okE_popK, okE_popL, okC_appR, okC_stAt, onNon_non, List.getElem?_cons_zero, List.getElem?_cons_succ, List.set_cons_zero, List.set_cons_succ, isNo, boundC, G0, setTg, wipeS, cmpD, inH])
          rw [this, List.map_map]
          simp [Function.comp_def]
        rw [e]
        have h3 : (1 : Int) ≤ (z.length : Int) := by omega
        have h4 : (z.length : Int) ≤ 4 := by omega
        have h5 : z.cps.toList.length ≤ maxLen := by rw [← hl]; show _ ≤ 16777216; omega
        simp (decide := true) [h3, h4, okO_ok, wipeOk, onO, lstOf, bls_map, keyB, keyS, h1, h2]
        exact h5
      · have h4 : ¬ (z.length : Int) ≤ 4 := by omega
        have h3 : (1 : Int) ≤ (z.length : Int) := by omega
        simp (decide := true) [h3, h4, keyB, keyS, h1, h2]
    · have h3 : ¬ (1 : Int) ≤ (z.length : Int) := by omega
      simp (decide := true) [h3, keyB, keyS, h1]
  | ref _ => cases hd
  | scr _ => cases hd
  | _ => simp (decide := true) [b0, okCs_nil, okCs_cons, okC_asg, okC_own, okC_stIx, okC_aug, okC_app, okC_ex, okC_ret, okC_retN, okC_ite, okC_for, okE_c, okE_no, okE_v, okE_pk, okE_g, okE_bin, okE_neg, okE_cmp, okE_chain, okE_and, okE_or, okE_not, okE_ite, okE_isi, okE_b1, okE_b2, okE_bm, okE_call, okE_ix, okE_sl, okE_tup, okE_lst, okE_dct, okE_new, okE_lc, okEs_nil, okEs_cons, onVal_val, onOwn_own, onO_some, onO_none, onO_map, onB_bl, onCell_lst, onCell_dct, onInts_int, okO_ok, okE_attr, okE_meth, okE_make, okE_getd, okE_orv, okE_popK, okE_popL, okC_appR, okC_stAt, onNon_non, List.getElem?_cons_zero, List.getElem?_cons_succ, List.set_cons_zero, List.set_cons_succ, isNo, boundC, G0, G1, isiD, keyB]

/-! ### words -/
def isS (s : Str) : D → Bool
  | .str z => s == z
  | _ => false
def inS (ss : List Str) : D → Bool
  | .str b => ss.any fun s => s == b
  | _ => false
theorem eqD_str {s : Str} {d : D} (hd : plain1 d = true) : eqD (.str s) d = some (isS s d) := by
  cases d <;> first | rfl | (cases hd)
theorem eqD_strR {s : Str} {d : D} (hd : plain1 d = true) : eqD d (.str s) = some (isS s d) := by
  cases d <;> first | rfl | (cases hd; done) | skip
  rename_i z
  show some (z == s) = some (s == z)
  rw [show (z == s) = (s == z) from BEq.comm]
theorem eqH_str {h : List Cell} {s : Str} {d : D} (hd : plain1 d = true) : eqH h d (.str s) = some (isS s d) := by
  unfold eqH
  rw [if_pos (by show min d.depth 0 ≤ 100; omega), eqD_strR hd]
theorem inL_strs {d : D} (hd : plain1 d = true) : ∀ {ss : List Str}, inL d (ss.map .str) = some (inS ss d)
  | [] => by cases d <;> rfl
  | s :: ss => by
    rw [List.map_cons, inL, eqD_str hd, inL_strs hd]
    cases d <;> rfl
theorem depth_strs : ∀ {ss : List Str}, depthL (ss.map .str) = 0
  | [] => rfl
  | s :: ss => by
    rw [List.map_cons, depthL, depth_strs]
    rfl
theorem inH_tup {h : List Cell} {ss : List Str} {d : D} (hd : plain1 d = true) : inH h d (.tup (ss.map .str)) = some (inS ss d) := by
  unfold inH
  simp only [seqOf, depth_strs]
  rw [if_pos (by omega), inL_strs hd]
theorem inH_lst {h : List Cell} {ss : List Str} {d : D} (hd : plain1 d = true) : inH h d (.lst (ss.map .str)) = some (inS ss d) := by
  unfold inH
  simp only [seqOf, depth_strs]
  rw [if_pos (by omega), inL_strs hd]
theorem ix_tup {h : List Cell} {ds : List D} {k : Int} : ixD h (.tup ds) (.int k) = L2.atI ds k := rfl
theorem ix_lst {h : List Cell} {ds : List D} {k : Int} : ixD h (.lst ds) (.int k) = L2.atI ds k := rfl
theorem at0 {a : D} {l : List D} : L2.atI (a :: l) 0 = some a := by
  unfold L2.atI L2.ixN
  rw [if_pos (by decide), if_pos (by simp only [List.length_cons]; omega)]
  rfl
theorem at1 {a b : D} {l : List D} : L2.atI (a :: b :: l) 1 = some b := by
  unfold L2.atI L2.ixN
  rw [if_pos (by decide), if_pos (by simp only [List.length_cons]; omega)]
  rfl
theorem at2 {a b c : D} {l : List D} : L2.atI (a :: b :: c :: l) 2 = some c := by
  unfold L2.atI L2.ixN
  rw [if_pos (by decide), if_pos (by simp only [List.length_cons]; omega)]
  rfl
theorem at3 {a b c d : D} {l : List D} : L2.atI (a :: b :: c :: d :: l) 3 = some d := by
  unfold L2.atI L2.ixN
  rw [if_pos (by decide), if_pos (by simp only [List.length_cons]; omega)]
  rfl
theorem c_eq {h : List Cell} {a b : Int} : cmpD .eq h (.int a) (.int b) = some (.bl (decide (a = b))) := by
  have : eqH h (.int a) (.int b) = some (a == b) := by
    unfold eqH
    rw [if_pos (by show min 0 0 ≤ 100; omega)]
    rfl
  unfold cmpD
  simp only [this, Option.map]
  congr 2
theorem c_lt {h : List Cell} {a b : Int} : cmpD .lt h (.int a) (.int b) = some (.bl (decide (a < b))) := rfl
theorem c_le {h : List Cell} {a b : Int} : cmpD .le h (.int a) (.int b) = some (.bl (decide (a ≤ b))) := rfl
theorem c_gt {h : List Cell} {a b : Int} : cmpD .gt h (.int a) (.int b) = some (.bl (decide (b < a))) := rfl
theorem c_ge {h : List Cell} {a b : Int} : cmpD .ge h (.int a) (.int b) = some (.bl (decide (b ≤ a))) := rfl
theorem c_eqs {h : List Cell} {s : Str} {d : D} (hd : plain1 d = true) : cmpD .eq h d (.str s) = some (.bl (isS s d)) := by
  unfold cmpD
  simp only [eqH_str hd, Option.map]
theorem l_tup {h : List Cell} {ds : List D} : b1D .len h (.tup ds) = some (.int ds.length) := rfl
theorem l_lst {h : List Cell} {ds : List D} : b1D .len h (.lst ds) = some (.int ds.length) := rfl
theorem b_sub {h : List Cell} {a b : Int} : binD .sub h (.int a) (.int b) = some (.int (a - b)) := rfl
theorem b_add {h : List Cell} {a b : Int} : binD .add h (.int a) (.int b) = some (.int (a + b)) := rfl
abbrev keptW : List Str := ["get", "put", "let", "if", "else", "fi", "end", "drop"]
abbrev signW : List Str := ["+", "-", "*", "<", "="]
def labelB (d : D) : Bool := keyB d && !inS keptW d
theorem is_label (d : D) (hd : plain1 d = true) (m : Nat) (h : List Cell) : callN T (m + 2) 1 [d] h = some (.ok (.bl (labelB d)) h) := by
  refine ok_eq (ok_call (F := ⟨1, 1, b1⟩) Base.f1 rfl ?_)
  show okCs T (callN T (m + 1)) b1 [.val d] h _ _
  have e : inH h d (.tup [(.str "get"), (.str "put"), (.str "let"), (.str "if"), (.str "else"), (.str "fi"), (.str "end"), (.str "drop")]) = some (inS keptW d) := inH_tup (ss := keptW) hd
  simp (decide := true) only [b1, okCs_nil, okCs_cons, okC_asg, okC_own, okC_stIx, okC_aug, okC_app, okC_ex, okC_ret, okC_retN, okC_ite, okC_for, okE_c, okE_no, okE_v, okE_pk, okE_g, okE_bin, okE_neg, okE_cmp, okE_chain, okE_and, okE_or, okE_not, okE_ite, okE_isi, okE_b1, okE_b2, okE_bm, okE_call, okE_ix, okE_sl, okE_tup, okE_lst, okE_dct, okE_new, okE_lc, okEs_nil, okEs_cons, onVal_val, onOwn_own, onO_some, onO_none, onO_map, onB_bl, onCell_lst, onCell_dct, onInts_int, okO_ok, okE_attr, okE_meth, okE_make, okE_getd, okE_orv, okE_popK, okE_popL, okC_appR, okC_stAt, onNon_non, List.getElem?_cons_zero, List.getElem?_cons_succ, List.set_cons_zero, List.set_cons_succ, isNo, boundC, G2, is_key d hd, cmpD, e, Option.map]
  cases hk : keyB d <;> simp [labelB, hk, onO, onB]
def valueB : D → Bool
  | .int i => decide (0 ≤ i) && decide (i < 1000)
  | _ => false
theorem is_value (d : D) (hd : plain1 d = true) (m : Nat) (h : List Cell) : callN T (m + 1) 2 [d] h = some (.ok (.bl (valueB d)) h) := by
  refine ok_eq (ok_call (F := ⟨1, 1, b2⟩) Base.f2 rfl ?_)
  show okCs T (callN T m) b2 [.val d] h _ _
  cases d with
  | int i =>
    simp (decide := true) only [b2, okCs_nil, okCs_cons, okC_asg, okC_own, okC_stIx, okC_aug, okC_app, okC_ex, okC_ret, okC_retN, okC_ite, okC_for, okE_c, okE_no, okE_v, okE_pk, okE_g, okE_bin, okE_neg, okE_cmp, okE_chain, okE_and, okE_or, okE_not, okE_ite, okE_isi, okE_b1, okE_b2, okE_bm, okE_call, okE_ix, okE_sl, okE_tup, okE_lst, okE_dct, okE_new, okE_lc, okEs_nil, okEs_cons, onVal_val, onOwn_own, onO_some, onO_none, onO_map, onB_bl, onCell_lst, onCell_dct, onInts_int, okO_ok, okE_attr, okE_meth, okE_make, okE_getd, okE_orv, okE_popK, okE_popL, okC_appR, okC_stAt, onNon_non, List.getElem?_cons_zero, List.getElem?_cons_succ, List.set_cons_zero, List.set_cons_succ, isNo, boundC, G3, isiD, cmpD]
    by_cases h1 : 0 ≤ i <;> simp (decide := true) [h1, valueB, onO, onB]
  | ref _ => cases hd
  | scr _ => cases hd
  | bl b => simp (decide := true) [b2, okCs_nil, okCs_cons, okC_asg, okC_own, okC_stIx, okC_aug, okC_app, okC_ex, okC_ret, okC_retN, okC_ite, okC_for, okE_c, okE_no, okE_v, okE_pk, okE_g, okE_bin, okE_neg, okE_cmp, okE_chain, okE_and, okE_or, okE_not, okE_ite, okE_isi, okE_b1, okE_b2, okE_bm, okE_call, okE_ix, okE_sl, okE_tup, okE_lst, okE_dct, okE_new, okE_lc, okEs_nil, okEs_cons, onVal_val, onOwn_own, onO_some, onO_none, onO_map, onB_bl, onCell_lst, onCell_dct, onInts_int, okO_ok, okE_attr, okE_meth, okE_make, okE_getd, okE_orv, okE_popK, okE_popL, okC_appR, okC_stAt, onNon_non, List.getElem?_cons_zero, List.getElem?_cons_succ, List.set_cons_zero, List.set_cons_succ, isNo, boundC, G3, isiD, valueB]
  | _ => simp (decide := true) [b2, okCs_nil, okCs_cons, okC_asg, okC_own, okC_stIx, okC_aug, okC_app, okC_ex, okC_ret, okC_retN, okC_ite, okC_for, okE_c, okE_no, okE_v, okE_pk, okE_g, okE_bin, okE_neg, okE_cmp, okE_chain, okE_and, okE_or, okE_not, okE_ite, okE_isi, okE_b1, okE_b2, okE_bm, okE_call, okE_ix, okE_sl, okE_tup, okE_lst, okE_dct, okE_new, okE_lc, okEs_nil, okEs_cons, onVal_val, onOwn_own, onO_some, onO_none, onO_map, onB_bl, onCell_lst, onCell_dct, onInts_int, okO_ok, okE_attr, okE_meth, okE_make, okE_getd, okE_orv, okE_popK, okE_popL, okC_appR, okC_stAt, onNon_non, List.getElem?_cons_zero, List.getElem?_cons_succ, List.set_cons_zero, List.set_cons_succ, isNo, boundC, G3, isiD, valueB]
/-- a thing without changing parts, less than k deep, no part too long -/
def good : Nat → D → Prop
  | k, .tup ds => match k with
    | 0 => False
    | k + 1 => ds.length ≤ 1000 ∧ ∀ d ∈ ds, good k d
  | k, .lst ds => match k with
    | 0 => False
    | k + 1 => ds.length ≤ 1000 ∧ ∀ d ∈ ds, good k d
  | _, .ref _ => False
  | _, .scr _ => False
  | _, _ => True
theorem good.p1 {k : Nat} {d : D} (h : good k d) : plain1 d = true := by
  cases d <;> first | rfl | (unfold good at h; exact h.elim)
theorem good_tup {k : Nat} {ds : List D} (h : good (k + 1) (.tup ds)) : ds.length ≤ 1000 ∧ ∀ d ∈ ds, good k d := by
  unfold good at h
  exact h
theorem good0 {ds : List D} (h : good 0 (.tup ds)) : False := by
  unfold good at h
  exact h
def sumD : Nat → D → Nat
  | 0, _ => 0
  | k + 1, d => match d with
    | .tup [a, b] => if (isS "number" a && valueB b || isS "box" a && labelB b) = true then 1 else 0
    | .tup [a, b, c] => if (inS signW a && decide (0 < sumD k b) && decide (0 < sumD k c)) = true then 1 + max (sumD k b) (sumD k c) else 0
    | _ => 0
theorem isi_tup {k : Nat} {d : D} (h : good k d) {hh : List Cell} : isiD .tuple hh d = some (match d with | .tup _ => true | _ => false) := by
  cases d <;> first | rfl | (unfold good at h; exact h.elim)
theorem is_valueN {d : D} (hd : plain1 d = true) {n : Nat} (hn : 1 ≤ n) (h : List Cell) : callN T n 2 [d] h = some (.ok (.bl (valueB d)) h) := by
  obtain ⟨m, rfl⟩ : ∃ m, n = m + 1 := ⟨n - 1, by omega⟩
  exact is_value d hd m h
theorem is_labelN {d : D} (hd : plain1 d = true) {n : Nat} (hn : 2 ≤ n) (h : List Cell) : callN T n 1 [d] h = some (.ok (.bl (labelB d)) h) := by
  obtain ⟨m, rfl⟩ : ∃ m, n = m + 2 := ⟨n - 2, by omega⟩
  exact is_label d hd m h
theorem c_inS {h : List Cell} {d : D} (hd : plain1 d = true) : cmpD .isin h d (.tup [(.str "+"), (.str "-"), (.str "*"), (.str "<"), (.str "=")]) = some (.bl (inS signW d)) := by
  have e : inH h d (.tup [(.str "+"), (.str "-"), (.str "*"), (.str "<"), (.str "=")]) = some (inS signW d) := inH_tup (ss := signW) hd
  unfold cmpD
  simp only [e, Option.map]
theorem is_sum : ∀ (k : Nat) (d : D), good k d → ∀ (left : Int) (n : Nat) (h : List Cell), k + 4 ≤ n → callN T n 3 [d, .int left] h = some (.ok (.bl (decide (0 < sumD k d) && decide ((sumD k d : Int) ≤ left))) h)
  | k, d, hg, left, n, h, hn => by
    obtain ⟨m, rfl⟩ : ∃ m, n = m + 1 := ⟨n - 1, by omega⟩
    refine ok_eq (ok_call (n := m) (F := ⟨2, 2, b3⟩) Base.f3 rfl ?_)
    show okCs T (callN T m) b3 [.val d, .val (.int left)] h _ _
    simp (decide := true) only [b3, okCs_nil, okCs_cons, okC_asg, okC_own, okC_stIx, okC_aug, okC_app, okC_ex, okC_ret, okC_retN, okC_ite, okC_for, okE_c, okE_no, okE_v, okE_pk, okE_g, okE_bin, okE_neg, okE_cmp, okE_chain, okE_and, okE_or, okE_not, okE_ite, okE_isi, okE_b1, okE_b2, okE_bm, okE_call, okE_ix, okE_sl, okE_tup, okE_lst, okE_dct, okE_new, okE_lc, okEs_nil, okEs_cons, onVal_val, onOwn_own, onO_some, onO_none, onO_map, onB_bl, onCell_lst, onCell_dct, onInts_int, okO_ok, okE_attr, okE_meth, okE_make, okE_getd, okE_orv, okE_popK, okE_popL, okC_appR, okC_stAt, onNon_non, List.getElem?_cons_zero, List.getElem?_cons_succ, List.set_cons_zero, List.set_cons_succ, isNo, boundC, isi_tup hg]
    cases d with
    | tup ds =>
      simp only [Bool.not_true, Bool.false_eq_true, if_false, c_lt, onO_some, onB_bl]
      cases k with
      | zero => exact (good0 hg).elim
      | succ k =>
        obtain ⟨hz, hd⟩ := good_tup hg
        by_cases hl : left < 1
        · simp only [hl, decide_true, if_true, and_true]
          congr 1
          rw [eq_comm, Bool.and_eq_false_iff]
          simp only [decide_eq_false_iff_not]
          omega
        · simp only [hl, decide_false, Bool.false_eq_true, if_false, l_tup, onO_some]
          match ds, hz, hd with
          | [], hz, hd => simp (decide := true) [c_eq, okCs_nil, okCs_cons, okC_asg, okC_own, okC_stIx, okC_aug, okC_app, okC_ex, okC_ret, okC_retN, okC_ite, okC_for, okE_c, okE_no, okE_v, okE_pk, okE_g, okE_bin, okE_neg, okE_cmp, okE_chain, okE_and, okE_or, okE_not, okE_ite, okE_isi, okE_b1, okE_b2, okE_bm, okE_call, okE_ix, okE_sl, okE_tup, okE_lst, okE_dct, okE_new, okE_lc, okEs_nil, okEs_cons, onVal_val, onOwn_own, onO_some, onO_none, onO_map, onB_bl, onCell_lst, onCell_dct, onInts_int, okO_ok, okE_attr, okE_meth, okE_make, okE_getd, okE_orv, okE_popK, okE_popL, okC_appR, okC_stAt, onNon_non, List.getElem?_cons_zero, List.getElem?_cons_succ, List.set_cons_zero, List.set_cons_succ, isNo, boundC, sumD]
          | [a], hz, hd => simp (decide := true) [c_eq, okCs_nil, okCs_cons, okC_asg, okC_own, okC_stIx, okC_aug, okC_app, okC_ex, okC_ret, okC_retN, okC_ite, okC_for, okE_c, okE_no, okE_v, okE_pk, okE_g, okE_bin, okE_neg, okE_cmp, okE_chain, okE_and, okE_or, okE_not, okE_ite, okE_isi, okE_b1, okE_b2, okE_bm, okE_call, okE_ix, okE_sl, okE_tup, okE_lst, okE_dct, okE_new, okE_lc, okEs_nil, okEs_cons, onVal_val, onOwn_own, onO_some, onO_none, onO_map, onB_bl, onCell_lst, onCell_dct, onInts_int, okO_ok, okE_attr, okE_meth, okE_make, okE_getd, okE_orv, okE_popK, okE_popL, okC_appR, okC_stAt, onNon_non, List.getElem?_cons_zero, List.getElem?_cons_succ, List.set_cons_zero, List.set_cons_succ, isNo, boundC, sumD]
          | [a, b], hz, hd =>
            have pa := (hd a (by simp)).p1
            have pb := (hd b (by simp)).p1
            have e1 := is_valueN (T := T) pb (n := m) (by omega)
            have e2 := is_labelN (T := T) pb (n := m) (by omega)
            simp (decide := true) only [c_eq, okCs_nil, okCs_cons, okC_asg, okC_own, okC_stIx, okC_aug, okC_app, okC_ex, okC_ret, okC_retN, okC_ite, okC_for, okE_c, okE_no, okE_v, okE_pk, okE_g, okE_bin, okE_neg, okE_cmp, okE_chain, okE_and, okE_or, okE_not, okE_ite, okE_isi, okE_b1, okE_b2, okE_bm, okE_call, okE_ix, okE_sl, okE_tup, okE_lst, okE_dct, okE_new, okE_lc, okEs_nil, okEs_cons, onVal_val, onOwn_own, onO_some, onO_none, onO_map, onB_bl, onCell_lst, onCell_dct, onInts_int, okO_ok, okE_attr, okE_meth, okE_make, okE_getd, okE_orv, okE_popK, okE_popL, okC_appR, okC_stAt, onNon_non, List.getElem?_cons_zero, List.getElem?_cons_succ, List.set_cons_zero, List.set_cons_succ, isNo, boundC, ix_tup, at0, at1, c_eqs pa, e1, e2, sumD, List.length_cons, List.length_nil]
            by_cases q0 : isS "number" a = true <;> by_cases q1 : valueB b = true <;> by_cases q2 : isS "box" a = true <;> by_cases q3 : labelB b = true <;> simp [q0, q1, q2, q3] <;> omega
          | [a, b, c], hz, hd =>
            have pa := (hd a (by simp)).p1
            have e1 := fun h => is_sum k b (hd b (by simp)) (left - 1) m h (by omega)
            have e2 := fun h => is_sum k c (hd c (by simp)) (left - 1) m h (by omega)
            simp (decide := true) only [c_eq, okCs_nil, okCs_cons, okC_asg, okC_own, okC_stIx, okC_aug, okC_app, okC_ex, okC_ret, okC_retN, okC_ite, okC_for, okE_c, okE_no, okE_v, okE_pk, okE_g, okE_bin, okE_neg, okE_cmp, okE_chain, okE_and, okE_or, okE_not, okE_ite, okE_isi, okE_b1, okE_b2, okE_bm, okE_call, okE_ix, okE_sl, okE_tup, okE_lst, okE_dct, okE_new, okE_lc, okEs_nil, okEs_cons, onVal_val, onOwn_own, onO_some, onO_none, onO_map, onB_bl, onCell_lst, onCell_dct, onInts_int, okO_ok, okE_attr, okE_meth, okE_make, okE_getd, okE_orv, okE_popK, okE_popL, okC_appR, okC_stAt, onNon_non, List.getElem?_cons_zero, List.getElem?_cons_succ, List.set_cons_zero, List.set_cons_succ, isNo, boundC, ix_tup, at0, at1, at2, G4, c_inS pa, b_sub, e1, e2, sumD, List.length_cons, List.length_nil]
            by_cases q0 : inS signW a = true <;> by_cases q1 : 0 < sumD k b <;> by_cases q2 : 0 < sumD k c <;> by_cases q3 : (sumD k b : Int) ≤ left - 1 <;> by_cases q4 : (sumD k c : Int) ≤ left - 1 <;> simp [q0, q1, q2, q3, q4] <;> omega
          | a :: b :: c :: e :: r, hz, hd =>
            have n2 : ((a :: b :: c :: e :: r).length : Int) ≠ 2 := by simp only [List.length_cons]; omega
            have n3 : ((a :: b :: c :: e :: r).length : Int) ≠ 3 := by simp only [List.length_cons]; omega
            simp (decide := true) only [c_eq, okCs_nil, okCs_cons, okC_asg, okC_own, okC_stIx, okC_aug, okC_app, okC_ex, okC_ret, okC_retN, okC_ite, okC_for, okE_c, okE_no, okE_v, okE_pk, okE_g, okE_bin, okE_neg, okE_cmp, okE_chain, okE_and, okE_or, okE_not, okE_ite, okE_isi, okE_b1, okE_b2, okE_bm, okE_call, okE_ix, okE_sl, okE_tup, okE_lst, okE_dct, okE_new, okE_lc, okEs_nil, okEs_cons, onVal_val, onOwn_own, onO_some, onO_none, onO_map, onB_bl, onCell_lst, onCell_dct, onInts_int, okO_ok, okE_attr, okE_meth, okE_make, okE_getd, okE_orv, okE_popK, okE_popL, okC_appR, okC_stAt, onNon_non, List.getElem?_cons_zero, List.getElem?_cons_succ, List.set_cons_zero, List.set_cons_succ, isNo, boundC, n2, n3, decide_false, Bool.false_eq_true, if_false, sumD]
            simp
    | _ =>
      simp only [Bool.not_false, if_true]
      cases k <;> simp [sumD]
def isLast : D → Bool
  | .tup [a] => isS "end" a || isS "drop" a
  | _ => false
def sumOk (k : Nat) (d : D) : Bool := decide (0 < sumD k d) && decide ((sumD k d : Int) ≤ 4)
/-- a line's lines and asks, where it is good -/
def lineC (k : Nat) (sub : Int → D → Option (Nat × Nat)) (ifs : Int) (last : Bool) (d : D) : Option (Nat × Nat) := match d with
  | .tup [a] => if ((isS "end" a || isS "drop" a) && last) = true then some (1, 0) else none
  | .tup [a, b, c] => if isS "get" a = true then (if (labelB b && labelB c) = true then some (1, 1) else none) else if (inS ["put", "let"] a && labelB b && sumOk k c) = true then some (1, if isS "put" a = true then 1 else 0) else none
  | .tup [a, b, c, e] => if (isS "if" a && decide (ifs < 3) && sumOk k b) = true then (match sub (ifs + 1) c, sub (ifs + 1) e with
    | some (x, y), some (x', y') => some (1 + x + x', y + y')
    | _, _ => none) else none
  | _ => none
def goL (f : Bool → D → Option (Nat × Nat)) : List D → Option (Nat × Nat)
  | [] => some (0, 0)
  | d :: ds => match f ds.isEmpty d, goL f ds with
    | some (a, b), some (a', b') => some (a + a', b + b')
    | _, _ => none
def linesC : Nat → Int → D → Option (Nat × Nat)
  | 0, _, _ => none
  | k + 1, ifs, d => match d with
    | .tup ls => goL (lineC k (linesC k) ifs) ls
    | _ => none
theorem good_mono : ∀ {k : Nat} {d : D}, good k d → good (k + 1) d
  | 0, d, h => by
    cases d <;> first | (unfold good; trivial) | (unfold good at h; exact h.elim)
  | k + 1, d, h => by
    cases d <;> first | (unfold good; trivial) | (unfold good at h; exact h.elim) | skip
    all_goals
      unfold good at h ⊢
      exact ⟨h.1, fun d hd => good_mono (h.2 d hd)⟩
theorem c_inPL {h : List Cell} {d : D} (hd : plain1 d = true) : cmpD .isin h d (.tup [(.str "put"), (.str "let")]) = some (.bl (inS ["put", "let"] d)) := by
  have e : inH h d (.tup [(.str "put"), (.str "let")]) = some (inS ["put", "let"] d) := inH_tup (ss := ["put", "let"]) hd
  unfold cmpD
  simp only [e, Option.map]
theorem in_last {h : List Cell} {k : Nat} {d : D} (hg : good k d) : inH h d (.tup [(.tup [(.str "end")]), (.tup [(.str "drop")])]) = some (isLast d) := by
  have e1 : ∀ s : Str, eqD (.tup [.str s]) d = some (match d with | .tup [a] => isS s a | _ => false) := fun s => by
    cases d <;> first | rfl | (unfold good at hg; exact hg.elim) | skip
    rename_i ds
    cases k with
    | zero => exact (good0 hg).elim
    | succ k =>
      obtain ⟨_, hd⟩ := good_tup hg
      match ds, hd with
      | [], _ => rfl
      | [a], hd =>
        have z : eqZ [.str s] [a] = some (isS s a) := by
          rw [eqZ, eqD_str (hd a (by simp)).p1]
          simp [eqZ]
        show (eqZ [.str s] [a]).map _ = _
        rw [z]
        simp
      | a :: b :: r, hd =>
        have z : eqZ [.str s] (a :: b :: r) = some (isS s a) := by
          rw [eqZ, eqD_str (hd a (by simp)).p1]
          simp [eqZ]
        show (eqZ [.str s] (a :: b :: r)).map _ = _
        rw [z]
        simp
  unfold inH
  simp only [seqOf]
  rw [if_pos (by show min d.depth 1 ≤ 100; omega)]
  simp only [inL, e1]
  cases d <;> try rfl
  rename_i ds
  match ds with
  | [] => rfl
  | [a] => simp [isLast]
  | a :: b :: r => rfl
theorem c_inLast {h : List Cell} {k : Nat} {d : D} (hg : good k d) : cmpD .isin h d (.tup [(.tup [(.str "end")]), (.tup [(.str "drop")])]) = some (.bl (isLast d)) := by
  unfold cmpD
  simp only [in_last hg, Option.map]
theorem c_ninLast {h : List Cell} {k : Nat} {d : D} (hg : good k d) : cmpD .notin h d (.tup [(.tup [(.str "end")]), (.tup [(.str "drop")])]) = some (.bl (!isLast d)) := by
  unfold cmpD
  simp only [in_last hg, Option.map]
theorem is_line {k : Nat} (ih : ∀ (d : D), good k d → ∀ (ifs : Int) (n : Nat) (h : List Cell), 2 * k + 6 ≤ n → callN T n 5 [d, .int ifs] h = some (.ok (.bl (linesC k ifs d).isSome) h)) (d : D) (hg : good k d) (ifs : Int) (n : Nat) (h : List Cell) (hn : 2 * k + 7 ≤ n) :
    callN T n 4 [d, .int ifs] h = some (.ok (.bl (lineC k (linesC k) ifs true d).isSome) h) := by
  obtain ⟨m, rfl⟩ : ∃ m, n = m + 1 := ⟨n - 1, by omega⟩
  refine ok_eq (ok_call (n := m) (F := ⟨2, 3, b4⟩) Base.f4 rfl ?_)
  show okCs T (callN T m) b4 [.val d, .val (.int ifs), .no] h _ _
  simp (decide := true) only [b4, okCs_nil, okCs_cons, okC_asg, okC_own, okC_stIx, okC_aug, okC_app, okC_ex, okC_ret, okC_retN, okC_ite, okC_for, okE_c, okE_no, okE_v, okE_pk, okE_g, okE_bin, okE_neg, okE_cmp, okE_chain, okE_and, okE_or, okE_not, okE_ite, okE_isi, okE_b1, okE_b2, okE_bm, okE_call, okE_ix, okE_sl, okE_tup, okE_lst, okE_dct, okE_new, okE_lc, okEs_nil, okEs_cons, onVal_val, onOwn_own, onO_some, onO_none, onO_map, onB_bl, onCell_lst, onCell_dct, onInts_int, okO_ok, okE_attr, okE_meth, okE_make, okE_getd, okE_orv, okE_popK, okE_popL, okC_appR, okC_stAt, onNon_non, List.getElem?_cons_zero, List.getElem?_cons_succ, List.set_cons_zero, List.set_cons_succ, isNo, boundC, isi_tup hg]
  cases d with
  | tup ds =>
    simp only [Bool.not_true, Bool.false_eq_true, if_false, l_tup, onO_some, c_eq, onB_bl]
    cases k with
    | zero => exact (good0 hg).elim
    | succ k =>
      obtain ⟨hz, hd⟩ := good_tup hg
      match ds, hz, hd with
      | [], hz, hd => 
        simp (decide := true) only [okCs_nil, okCs_cons, okC_asg, okC_own, okC_stIx, okC_aug, okC_app, okC_ex, okC_ret, okC_retN, okC_ite, okC_for, okE_c, okE_no, okE_v, okE_pk, okE_g, okE_bin, okE_neg, okE_cmp, okE_chain, okE_and, okE_or, okE_not, okE_ite, okE_isi, okE_b1, okE_b2, okE_bm, okE_call, okE_ix, okE_sl, okE_tup, okE_lst, okE_dct, okE_new, okE_lc, okEs_nil, okEs_cons, onVal_val, onOwn_own, onO_some, onO_none, onO_map, onB_bl, onCell_lst, onCell_dct, onInts_int, okO_ok, okE_attr, okE_meth, okE_make, okE_getd, okE_orv, okE_popK, okE_popL, okC_appR, okC_stAt, onNon_non, List.getElem?_cons_zero, List.getElem?_cons_succ, List.set_cons_zero, List.set_cons_succ, isNo, boundC, List.length_nil, G7, c_inLast hg]
        simp [isLast, lineC]
      | [a], hz, hd =>
        simp (decide := true) only [okCs_nil, okCs_cons, okC_asg, okC_own, okC_stIx, okC_aug, okC_app, okC_ex, okC_ret, okC_retN, okC_ite, okC_for, okE_c, okE_no, okE_v, okE_pk, okE_g, okE_bin, okE_neg, okE_cmp, okE_chain, okE_and, okE_or, okE_not, okE_ite, okE_isi, okE_b1, okE_b2, okE_bm, okE_call, okE_ix, okE_sl, okE_tup, okE_lst, okE_dct, okE_new, okE_lc, okEs_nil, okEs_cons, onVal_val, onOwn_own, onO_some, onO_none, onO_map, onB_bl, onCell_lst, onCell_dct, onInts_int, okO_ok, okE_attr, okE_meth, okE_make, okE_getd, okE_orv, okE_popK, okE_popL, okC_appR, okC_stAt, onNon_non, List.getElem?_cons_zero, List.getElem?_cons_succ, List.set_cons_zero, List.set_cons_succ, isNo, boundC, List.length_cons, List.length_nil, G7, c_inLast hg]
        by_cases q : (isS "end" a || isS "drop" a) = true <;> simp [isLast, lineC, q]
      | [a, b], hz, hd =>
        simp (decide := true) only [okCs_nil, okCs_cons, okC_asg, okC_own, okC_stIx, okC_aug, okC_app, okC_ex, okC_ret, okC_retN, okC_ite, okC_for, okE_c, okE_no, okE_v, okE_pk, okE_g, okE_bin, okE_neg, okE_cmp, okE_chain, okE_and, okE_or, okE_not, okE_ite, okE_isi, okE_b1, okE_b2, okE_bm, okE_call, okE_ix, okE_sl, okE_tup, okE_lst, okE_dct, okE_new, okE_lc, okEs_nil, okEs_cons, onVal_val, onOwn_own, onO_some, onO_none, onO_map, onB_bl, onCell_lst, onCell_dct, onInts_int, okO_ok, okE_attr, okE_meth, okE_make, okE_getd, okE_orv, okE_popK, okE_popL, okC_appR, okC_stAt, onNon_non, List.getElem?_cons_zero, List.getElem?_cons_succ, List.set_cons_zero, List.set_cons_succ, isNo, boundC, List.length_cons, List.length_nil, G7, c_inLast hg]
        simp [isLast, lineC]
      | [a, b, c], hz, hd =>
        have pa := (hd a (by simp)).p1
        have pb := (hd b (by simp)).p1
        have pc := (hd c (by simp)).p1
        have e1 := is_labelN (T := T) pb (n := m) (by omega)
        have e2 := is_labelN (T := T) pc (n := m) (by omega)
        have e3 : ∀ h, callN T m 3 [c, .int 4] h = some (.ok (.bl (sumOk (k + 1) c)) h) := fun h => is_sum (k + 1) c (good_mono (hd c (by simp))) 4 m h (by omega)
        simp (decide := true) only [okCs_nil, okCs_cons, okC_asg, okC_own, okC_stIx, okC_aug, okC_app, okC_ex, okC_ret, okC_retN, okC_ite, okC_for, okE_c, okE_no, okE_v, okE_pk, okE_g, okE_bin, okE_neg, okE_cmp, okE_chain, okE_and, okE_or, okE_not, okE_ite, okE_isi, okE_b1, okE_b2, okE_bm, okE_call, okE_ix, okE_sl, okE_tup, okE_lst, okE_dct, okE_new, okE_lc, okEs_nil, okEs_cons, onVal_val, onOwn_own, onO_some, onO_none, onO_map, onB_bl, onCell_lst, onCell_dct, onInts_int, okO_ok, okE_attr, okE_meth, okE_make, okE_getd, okE_orv, okE_popK, okE_popL, okC_appR, okC_stAt, onNon_non, List.getElem?_cons_zero, List.getElem?_cons_succ, List.set_cons_zero, List.set_cons_succ, isNo, boundC, ix_tup, at0, at1, at2, c_eqs pa, c_inPL pa, e1, e2, e3, G5, List.length_cons, List.length_nil]
        by_cases q0 : isS "get" a = true
        · by_cases q1 : labelB b = true <;> by_cases q2 : labelB c = true <;> simp [lineC, q0, q1, q2]
        · by_cases q1 : inS ["put", "let"] a = true <;> by_cases q2 : labelB b = true <;> by_cases q3 : sumOk (k + 1) c = true <;> simp [lineC, q0, q1, q2, q3]
      | [a, b, c, e], hz, hd =>
        have pa := (hd a (by simp)).p1
        have e1 : ∀ h, callN T m 3 [b, .int 4] h = some (.ok (.bl (sumOk (k + 1) b)) h) := fun h => is_sum (k + 1) b (good_mono (hd b (by simp))) 4 m h (by omega)
        have e2 := fun h => ih c (good_mono (hd c (by simp))) (ifs + 1) m h (by omega)
        have e3 := fun h => ih e (good_mono (hd e (by simp))) (ifs + 1) m h (by omega)
        simp (decide := true) only [okCs_nil, okCs_cons, okC_asg, okC_own, okC_stIx, okC_aug, okC_app, okC_ex, okC_ret, okC_retN, okC_ite, okC_for, okE_c, okE_no, okE_v, okE_pk, okE_g, okE_bin, okE_neg, okE_cmp, okE_chain, okE_and, okE_or, okE_not, okE_ite, okE_isi, okE_b1, okE_b2, okE_bm, okE_call, okE_ix, okE_sl, okE_tup, okE_lst, okE_dct, okE_new, okE_lc, okEs_nil, okEs_cons, onVal_val, onOwn_own, onO_some, onO_none, onO_map, onB_bl, onCell_lst, onCell_dct, onInts_int, okO_ok, okE_attr, okE_meth, okE_make, okE_getd, okE_orv, okE_popK, okE_popL, okC_appR, okC_stAt, onNon_non, List.getElem?_cons_zero, List.getElem?_cons_succ, List.set_cons_zero, List.set_cons_succ, isNo, boundC, ix_tup, at0, at1, at2, at3, c_eqs pa, e1, e2, e3, G5, G6, c_lt, b_add, List.length_cons, List.length_nil]
        by_cases q0 : isS "if" a = true <;> by_cases q1 : ifs < 3 <;> by_cases q2 : sumOk (k + 1) b = true <;> simp [lineC, q0, q1, q2]
        cases linesC (k + 1) (ifs + 1) c <;> cases linesC (k + 1) (ifs + 1) e <;> simp
      | a :: b :: c :: e :: f :: r, hz, hd =>
        have n3 : ((a :: b :: c :: e :: f :: r).length : Int) ≠ 3 := by simp only [List.length_cons]; omega
        have n4 : ((a :: b :: c :: e :: f :: r).length : Int) ≠ 4 := by simp only [List.length_cons]; omega
        simp (decide := true) only [okCs_nil, okCs_cons, okC_asg, okC_own, okC_stIx, okC_aug, okC_app, okC_ex, okC_ret, okC_retN, okC_ite, okC_for, okE_c, okE_no, okE_v, okE_pk, okE_g, okE_bin, okE_neg, okE_cmp, okE_chain, okE_and, okE_or, okE_not, okE_ite, okE_isi, okE_b1, okE_b2, okE_bm, okE_call, okE_ix, okE_sl, okE_tup, okE_lst, okE_dct, okE_new, okE_lc, okEs_nil, okEs_cons, onVal_val, onOwn_own, onO_some, onO_none, onO_map, onB_bl, onCell_lst, onCell_dct, onInts_int, okO_ok, okE_attr, okE_meth, okE_make, okE_getd, okE_orv, okE_popK, okE_popL, okC_appR, okC_stAt, onNon_non, List.getElem?_cons_zero, List.getElem?_cons_succ, List.set_cons_zero, List.set_cons_succ, isNo, boundC, n3, n4, G7, c_inLast hg]
        simp [isLast, lineC]
  | _ =>
    simp only [Bool.not_false, if_true]
    simp [lineC]
theorem lineC_false {k : Nat} {sub : Int → D → Option (Nat × Nat)} {ifs : Int} {d : D} : (lineC k sub ifs false d).isSome = ((lineC k sub ifs true d).isSome && !isLast d) := by
  cases d <;> try rfl
  rename_i ds
  match ds with
  | [] => rfl
  | [a] => by_cases q : (isS "end" a || isS "drop" a) = true <;> simp [lineC, isLast, q]
  | [a, b] => rfl
  | [a, b, c] => simp [lineC, isLast]
  | [a, b, c, e] => simp [lineC, isLast]
  | a :: b :: c :: e :: f :: r => rfl
theorem goL_some {k : Nat} {sub : Int → D → Option (Nat × Nat)} {ifs : Int} : ∀ {ls : List D}, (goL (lineC k sub ifs) ls).isSome = ((ls.all fun d => (lineC k sub ifs true d).isSome) && (ls.dropLast.all fun d => !isLast d))
  | [] => rfl
  | [d] => by
    cases h : lineC k sub ifs true d <;> simp [goL, h]
  | d :: e :: r => by
    have ih := goL_some (k := k) (sub := sub) (ifs := ifs) (ls := e :: r)
    have hf := lineC_false (k := k) (sub := sub) (ifs := ifs) (d := d)
    have step : (goL (lineC k sub ifs) (d :: e :: r)).isSome = ((lineC k sub ifs false d).isSome && (goL (lineC k sub ifs) (e :: r)).isSome) := by
      rw [goL]
      show (match lineC k sub ifs false d, goL (lineC k sub ifs) (e :: r) with | some (a, b), some (a', b') => some (a + a', b + b') | _, _ => none).isSome = _
      cases lineC k sub ifs false d <;> cases goL (lineC k sub ifs) (e :: r) <;> rfl
    rw [step, hf, ih, List.dropLast_cons₂, List.all_cons, List.all_cons]
    by_cases q1 : (lineC k sub ifs true d).isSome = true <;> by_cases q2 : isLast d = true <;> simp [q1, q2]
theorem cut_last {ds : List D} : cut ds none (some (-1)) = ds.dropLast := by
  unfold cut HT.sIx
  simp only [List.drop_zero, Nat.sub_zero]
  rw [if_pos (by decide), List.dropLast_eq_take]
  congr 1
  omega
theorem all_eq {h : List Cell} {l : List D} {g : D → Bool} : b1D .all h (.lst (l.map fun d => .bl (g d))) = some (.bl (l.all g)) := by
  show (blsOf (l.map fun d => .bl (g d))).map _ = _
  rw [bls_map]
  simp [Function.comp_def]
theorem are_lines : ∀ (k : Nat) (d : D), good k d → ∀ (ifs : Int) (n : Nat) (h : List Cell), 2 * k + 6 ≤ n → callN T n 5 [d, .int ifs] h = some (.ok (.bl (linesC k ifs d).isSome) h) := by
  intro k
  induction k with
  | zero =>
    intro d hg ifs n h hn
    obtain ⟨m, rfl⟩ : ∃ m, n = m + 1 := ⟨n - 1, by omega⟩
    refine ok_eq (ok_call (n := m) (F := ⟨2, 3, b5⟩) Base.f5 rfl ?_)
    show okCs T (callN T m) b5 [.val d, .val (.int ifs), .no] h _ _
    simp (decide := true) only [b5, okCs_nil, okCs_cons, okC_asg, okC_own, okC_stIx, okC_aug, okC_app, okC_ex, okC_ret, okC_retN, okC_ite, okC_for, okE_c, okE_no, okE_v, okE_pk, okE_g, okE_bin, okE_neg, okE_cmp, okE_chain, okE_and, okE_or, okE_not, okE_ite, okE_isi, okE_b1, okE_b2, okE_bm, okE_call, okE_ix, okE_sl, okE_tup, okE_lst, okE_dct, okE_new, okE_lc, okEs_nil, okEs_cons, onVal_val, onOwn_own, onO_some, onO_none, onO_map, onB_bl, onCell_lst, onCell_dct, onInts_int, okO_ok, okE_attr, okE_meth, okE_make, okE_getd, okE_orv, okE_popK, okE_popL, okC_appR, okC_stAt, onNon_non, List.getElem?_cons_zero, List.getElem?_cons_succ, List.set_cons_zero, List.set_cons_succ, isNo, boundC, isi_tup hg]
    cases d with
    | tup ds => exact (good0 hg).elim
    | _ => simp [linesC]
  | succ k ih =>
    intro d hg ifs n h hn
    obtain ⟨m, rfl⟩ : ∃ m, n = m + 1 := ⟨n - 1, by omega⟩
    refine ok_eq (ok_call (n := m) (F := ⟨2, 3, b5⟩) Base.f5 rfl ?_)
    show okCs T (callN T m) b5 [.val d, .val (.int ifs), .no] h _ _
    simp (decide := true) only [b5, okCs_nil, okCs_cons, okC_asg, okC_own, okC_stIx, okC_aug, okC_app, okC_ex, okC_ret, okC_retN, okC_ite, okC_for, okE_c, okE_no, okE_v, okE_pk, okE_g, okE_bin, okE_neg, okE_cmp, okE_chain, okE_and, okE_or, okE_not, okE_ite, okE_isi, okE_b1, okE_b2, okE_bm, okE_call, okE_ix, okE_sl, okE_tup, okE_lst, okE_dct, okE_new, okE_lc, okEs_nil, okEs_cons, onVal_val, onOwn_own, onO_some, onO_none, onO_map, onB_bl, onCell_lst, onCell_dct, onInts_int, okO_ok, okE_attr, okE_meth, okE_make, okE_getd, okE_orv, okE_popK, okE_popL, okC_appR, okC_stAt, onNon_non, List.getElem?_cons_zero, List.getElem?_cons_succ, List.set_cons_zero, List.set_cons_succ, isNo, boundC, isi_tup hg]
    cases d with
    | tup ds =>
      obtain ⟨hz, hd⟩ := good_tup hg
      have hz' : ds.length ≤ maxLen := by show _ ≤ 16777216; omega
      have e1 : lcL (lcF1 T (callN T m) (.one 2) [2] (.c (.bl true)) (.call 4 [(.v 2), (.v 1)]) [.val (.tup ds), .val (.int ifs), .no]) ds h = some (.ok (ds.map fun d => .bl (lineC k (linesC k) ifs true d).isSome) h) :=
        lc_pure fun d hd' => by
          rw [okO_lcF1]
          simp (decide := true) only [setTg, wipeS, okCs_nil, okCs_cons, okC_asg, okC_own, okC_stIx, okC_aug, okC_app, okC_ex, okC_ret, okC_retN, okC_ite, okC_for, okE_c, okE_no, okE_v, okE_pk, okE_g, okE_bin, okE_neg, okE_cmp, okE_chain, okE_and, okE_or, okE_not, okE_ite, okE_isi, okE_b1, okE_b2, okE_bm, okE_call, okE_ix, okE_sl, okE_tup, okE_lst, okE_dct, okE_new, okE_lc, okEs_nil, okEs_cons, onVal_val, onOwn_own, onO_some, onO_none, onO_map, onB_bl, onCell_lst, onCell_dct, onInts_int, okO_ok, okE_attr, okE_meth, okE_make, okE_getd, okE_orv, okE_popK, okE_popL, okC_appR, okC_stAt, onNon_non, List.getElem?_cons_zero, List.getElem?_cons_succ, List.set_cons_zero, List.set_cons_succ, isNo, boundC, is_line ih d (hd d hd') ifs m h (by omega)]
          simp
      have e2 : lcL (lcF1 T (callN T m) (.one 2) [2] (.c (.bl true)) (.cmp .notin (.v 2) (.g 7)) [.val (.tup ds), .val (.int ifs), .no]) ds.dropLast h = some (.ok (ds.dropLast.map fun d => .bl (!isLast d)) h) :=
        lc_pure fun d hd' => by
          rw [okO_lcF1]
          simp (decide := true) only [setTg, wipeS, okCs_nil, okCs_cons, okC_asg, okC_own, okC_stIx, okC_aug, okC_app, okC_ex, okC_ret, okC_retN, okC_ite, okC_for, okE_c, okE_no, okE_v, okE_pk, okE_g, okE_bin, okE_neg, okE_cmp, okE_chain, okE_and, okE_or, okE_not, okE_ite, okE_isi, okE_b1, okE_b2, okE_bm, okE_call, okE_ix, okE_sl, okE_tup, okE_lst, okE_dct, okE_new, okE_lc, okEs_nil, okEs_cons, onVal_val, onOwn_own, onO_some, onO_none, onO_map, onB_bl, onCell_lst, onCell_dct, onInts_int, okO_ok, okE_attr, okE_meth, okE_make, okE_getd, okE_orv, okE_popK, okE_popL, okC_appR, okC_stAt, onNon_non, List.getElem?_cons_zero, List.getElem?_cons_succ, List.set_cons_zero, List.set_cons_succ, isNo, boundC, G7, c_ninLast (hd d (List.dropLast_subset _ hd'))]
          simp
      simp (decide := true) only [itemsOf, okCs_nil, okCs_cons, okC_asg, okC_own, okC_stIx, okC_aug, okC_app, okC_ex, okC_ret, okC_retN, okC_ite, okC_for, okE_c, okE_no, okE_v, okE_pk, okE_g, okE_bin, okE_neg, okE_cmp, okE_chain, okE_and, okE_or, okE_not, okE_ite, okE_isi, okE_b1, okE_b2, okE_bm, okE_call, okE_ix, okE_sl, okE_tup, okE_lst, okE_dct, okE_new, okE_lc, okEs_nil, okEs_cons, onVal_val, onOwn_own, onO_some, onO_none, onO_map, onB_bl, onCell_lst, onCell_dct, onInts_int, okO_ok, okE_attr, okE_meth, okE_make, okE_getd, okE_orv, okE_popK, okE_popL, okC_appR, okC_stAt, onNon_non, List.getElem?_cons_zero, List.getElem?_cons_succ, List.set_cons_zero, List.set_cons_succ, isNo, boundC, e1, e2, all_eq, negD, slI, cut_last, List.length_map, List.length_dropLast, hz', linesC, goL_some]
      have hz2 : ds.length - 1 ≤ maxLen := by omega
      cases (ds.all fun d => (lineC k (linesC k) ifs true d).isSome) <;> simp [wipeOk, hz2]
    | _ => simp [linesC]
end DL

set_option linter.all false
set_option Elab.async false
set_option maxRecDepth 100000
set_option maxHeartbeats 4000000
namespace DL
open PySem DC
variable {T : Tb} [Base T]
theorem isS_eq {s : Str} {d : D} (h : isS s d = true) : d = .str s := by
  cases d <;> first | (cases h; done) | skip
  have := eq_of_beq h
  rw [this]
theorem inPL_eq {d : D} (h : inS ["put", "let"] d = true) : d = .str "put" ∨ d = .str "let" := by
  cases d <;> first | (cases h; done) | skip
  rename_i z
  have h : (([("put" : Str), "let"]).any fun s => s == z) = true := h
  simp only [List.any_cons, List.any_nil, Bool.or_false, Bool.or_eq_true] at h
  rcases h with h | h
  · exact .inl (by rw [eq_of_beq h])
  · exact .inr (by rw [eq_of_beq h])
theorem line_cases {k : Nat} {sub : Int → D → Option (Nat × Nat)} {ifs : Int} {last : Bool} {d : D} {a b : Nat} (h : lineC k sub ifs last d = some (a, b)) :
    ((d = .tup [.str "end"] ∨ d = .tup [.str "drop"]) ∧ last = true ∧ a = 1 ∧ b = 0) ∨ (∃ q r, d = .tup [.str "get", q, r] ∧ labelB q = true ∧ labelB r = true ∧ a = 1 ∧ b = 1) ∨
    (∃ q r, d = .tup [.str "put", q, r] ∧ labelB q = true ∧ sumOk k r = true ∧ a = 1 ∧ b = 1) ∨ (∃ q r, d = .tup [.str "let", q, r] ∧ labelB q = true ∧ sumOk k r = true ∧ a = 1 ∧ b = 0) ∨
    (∃ q r t x y x' y', d = .tup [.str "if", q, r, t] ∧ ifs < 3 ∧ sumOk k q = true ∧ sub (ifs + 1) r = some (x, y) ∧ sub (ifs + 1) t = some (x', y') ∧ a = 1 + x + x' ∧ b = y + y') := by
  cases d <;> first | (cases h; done) | skip
  rename_i ds
  match ds, h with
  | [], h => cases h
  | [p], h =>
    unfold lineC at h
    simp only at h
    split at h
    · rename_i hp
      simp only [Bool.and_eq_true, Bool.or_eq_true] at hp
      cases h
      refine .inl ⟨?_, hp.2, rfl, rfl⟩
      rcases hp.1 with q | q
      · exact .inl (by rw [isS_eq q])
      · exact .inr (by rw [isS_eq q])
    · cases h
  | [p, q], h => cases h
  | [p, q, r], h =>
    unfold lineC at h
    simp only at h
    split at h
    · rename_i hp
      split at h
      · rename_i hq
        simp only [Bool.and_eq_true] at hq
        cases h
        exact .inr (.inl ⟨q, r, by rw [isS_eq hp], hq.1, hq.2, rfl, rfl⟩)
      · cases h
    · split at h
      · rename_i hq
        simp only [Bool.and_eq_true] at hq
        rcases inPL_eq hq.1.1 with e | e
        · subst e
          rw [if_pos (by decide +kernel)] at h
          cases h
          exact .inr (.inr (.inl ⟨q, r, rfl, hq.1.2, hq.2, rfl, rfl⟩))
        · subst e
          rw [if_neg (by decide +kernel)] at h
          cases h
          exact .inr (.inr (.inr (.inl ⟨q, r, rfl, hq.1.2, hq.2, rfl, rfl⟩)))
      · cases h
  | [p, q, r, t], h =>
    unfold lineC at h
    simp only at h
    split at h
    · rename_i hp
      simp only [Bool.and_eq_true, decide_eq_true_eq] at hp
      split at h
      · rename_i x y x' y' e1 e2
        cases h
        exact .inr (.inr (.inr (.inr ⟨q, r, t, x, y, x', y', by rw [isS_eq hp.1.1], hp.1.2, hp.2, e1, e2, rfl, rfl⟩)))
      · cases h
    · cases h
  | p :: q :: r :: t :: u :: l, h => cases h
theorem goL_cons {f : Bool → D → Option (Nat × Nat)} {d : D} {ds : List D} {x y : Nat} (h : goL f (d :: ds) = some (x, y)) : ∃ a b a' b', f ds.isEmpty d = some (a, b) ∧ goL f ds = some (a', b') ∧ x = a + a' ∧ y = b + b' := by
  rw [goL] at h
  cases e1 : f ds.isEmpty d with
  | none => rw [e1] at h; cases h
  | some p =>
    cases e2 : goL f ds with
    | none => rw [e1, e2] at h; cases h
    | some q =>
      rw [e1, e2] at h
      cases h
      exact ⟨p.1, p.2, q.1, q.2, rfl, rfl, rfl, rfl⟩
theorem for_cons {f : D → List Slot → List Cell → OutS} {d : D} {ds : List D} {Γ : List Slot} {h : List Cell} {N : List Slot → List Cell → Prop} {R : D → List Cell → Prop} (g : okS (f d Γ h) (fun Γ h => okS (forL f ds Γ h) N R) R) : okS (forL f (d :: ds) Γ h) N R := by
  rw [forL]
  match f d Γ h, g with
  | some (.nx Γ h), g => exact g
  | some (.ret d h), g => exact g
theorem c_eqS {h : List Cell} {s z : Str} : cmpD .eq h (.str z) (.str s) = some (.bl (s == z)) := c_eqs (d := .str z) rfl
theorem c_inGP {h : List Cell} {s : Str} : cmpD .isin h (.str s) (.tup [(.str "get"), (.str "put")]) = some (.bl (inS ["get", "put"] (.str s))) := by
  have e : inH h (.str s) (.tup [(.str "get"), (.str "put")]) = some (inS ["get", "put"] (.str s)) := inH_tup (ss := ["get", "put"]) rfl
  unfold cmpD
  simp only [e, Option.map]
theorem count_lines : ∀ (k : Nat) (d : D), good k d → ∀ (ifs : Int) (x y : Nat), linesC k ifs d = some (x, y) → ∀ (n : Nat) (h : List Cell), k + 2 ≤ n → callN T n 6 [d] h = some (.ok (.int x) h) := by
  intro k
  induction k with
  | zero => intro d hg ifs x y e; cases e
  | succ k ih =>
    intro d hg ifs x y e n h hn
    obtain ⟨m, rfl⟩ : ∃ m, n = m + 1 := ⟨n - 1, by omega⟩
    cases d <;> first | (cases e; done) | skip
    rename_i ls
    obtain ⟨hz, hd⟩ := good_tup hg
    refine ok_eq (ok_call (n := m) (F := ⟨1, 3, b6⟩) Base.f6 rfl ?_)
    show okCs T (callN T m) b6 [.val (.tup ls), .no, .no] h _ _
    simp (decide := true) only [b6, okCs_nil, okCs_cons, okC_asg, okC_own, okC_stIx, okC_aug, okC_app, okC_ex, okC_ret, okC_retN, okC_ite, okC_for, okE_c, okE_no, okE_v, okE_pk, okE_g, okE_bin, okE_neg, okE_cmp, okE_chain, okE_and, okE_or, okE_not, okE_ite, okE_isi, okE_b1, okE_b2, okE_bm, okE_call, okE_ix, okE_sl, okE_tup, okE_lst, okE_dct, okE_new, okE_lc, okEs_nil, okEs_cons, onVal_val, onOwn_own, onO_some, onO_none, onO_map, onB_bl, onCell_lst, onCell_dct, onInts_int, okO_ok, okE_attr, okE_meth, okE_make, okE_getd, okE_orv, okE_popK, okE_popL, okC_appR, okC_stAt, onNon_non, List.getElem?_cons_zero, List.getElem?_cons_succ, List.set_cons_zero, List.set_cons_succ, isNo, boundC, l_tup, itemsOf]
    have e : goL (lineC k (linesC k) ifs) ls = some (x, y) := e
    have key : ∀ (ls : List D) (x y : Nat) (acc : Int) (s : Slot) (d0 : D), (∀ d ∈ ls, good k d) → goL (lineC k (linesC k) ifs) ls = some (x, y) →
        okS (forL (forF T (callN T m) (.one 2) [.ite (.cmp .eq (.ix (.v 2) (.c (.int 0))) (.c (.str "if"))) [.aug 1 (.bin .add (.call 6 [(.ix (.v 2) (.c (.int 2)))]) (.call 6 [(.ix (.v 2) (.c (.int 3)))]))] []]) ls [.val d0, .val (.int acc), s] h) (fun Γ h' => ∃ s, Γ = [.val d0, .val (.int (acc + x - ls.length)), s] ∧ h' = h) (fun _ _ => False) := by
      intro ls
      induction ls with
      | nil =>
        intro x y acc s d0 _ e
        cases e
        exact ⟨s, by simp, rfl⟩
      | cons d ds ihl =>
        intro x y acc s d0 hd e
        obtain ⟨a, b, a', b', e1, e2, rfl, rfl⟩ := goL_cons e
        have hgd := hd d List.mem_cons_self
        refine for_cons ?_
        rw [okS_forF]
        have fin : ∀ (acc' : Int) (s : Slot), acc' = acc + a - 1 → okS (forL (forF T (callN T m) (.one 2) [.ite (.cmp .eq (.ix (.v 2) (.c (.int 0))) (.c (.str "if"))) [.aug 1 (.bin .add (.call 6 [(.ix (.v 2) (.c (.int 2)))]) (.call 6 [(.ix (.v 2) (.c (.int 3)))]))] []]) ds [.val d0, .val (.int acc'), s] h) (fun Γ h' => ∃ s, Γ = [.val d0, .val (.int (acc + (a + a' : Nat) - (d :: ds).length)), s] ∧ h' = h) (fun _ _ => False) := fun acc' s ea => by
          refine (ihl a' b' acc' s d0 (fun x hx => hd x (List.mem_cons_of_mem _ hx)) e2).mono (fun Γ h' ⟨s, q1, q2⟩ => ⟨s, ?_, q2⟩) fun _ _ q => q
          rw [q1, ea]
          have : acc + (a : Int) - 1 + a' - ds.length = acc + ((a + a' : Nat) : Int) - ((d :: ds).length : Int) := by
            simp only [List.length_cons]
            omega
          rw [this]
        have hin : ∀ w : Str, (("if" : Str) == w) = false → ∀ l, d = .tup (.str w :: l) → a = 1 → onO (setTg (.one 2) d [.val d0, .val (.int acc), s]) fun Γ => okCs T (callN T m) [.ite (.cmp .eq (.ix (.v 2) (.c (.int 0))) (.c (.str "if"))) [.aug 1 (.bin .add (.call 6 [(.ix (.v 2) (.c (.int 2)))]) (.call 6 [(.ix (.v 2) (.c (.int 3)))]))] []] Γ h (fun Γ h' => okS (forL (forF T (callN T m) (.one 2) [.ite (.cmp .eq (.ix (.v 2) (.c (.int 0))) (.c (.str "if"))) [.aug 1 (.bin .add (.call 6 [(.ix (.v 2) (.c (.int 2)))]) (.call 6 [(.ix (.v 2) (.c (.int 3)))]))] []]) ds Γ h') (fun Γ h' => ∃ s, Γ = [.val d0, .val (.int (acc + (a + a' : Nat) - (d :: ds).length)), s] ∧ h' = h) (fun _ _ => False)) (fun _ _ => False) := fun w hw l ed ea => by
          subst ed
          simp (decide := true) only [setTg, okCs_nil, okCs_cons, okC_asg, okC_own, okC_stIx, okC_aug, okC_app, okC_ex, okC_ret, okC_retN, okC_ite, okC_for, okE_c, okE_no, okE_v, okE_pk, okE_g, okE_bin, okE_neg, okE_cmp, okE_chain, okE_and, okE_or, okE_not, okE_ite, okE_isi, okE_b1, okE_b2, okE_bm, okE_call, okE_ix, okE_sl, okE_tup, okE_lst, okE_dct, okE_new, okE_lc, okEs_nil, okEs_cons, onVal_val, onOwn_own, onO_some, onO_none, onO_map, onB_bl, onCell_lst, onCell_dct, onInts_int, okO_ok, okE_attr, okE_meth, okE_make, okE_getd, okE_orv, okE_popK, okE_popL, okC_appR, okC_stAt, onNon_non, List.getElem?_cons_zero, List.getElem?_cons_succ, List.set_cons_zero, List.set_cons_succ, isNo, boundC, ix_tup, at0, c_eqS, hw]
          simp only [Bool.false_eq_true, if_false]
          exact fin acc _ (by subst ea; omega)
        rcases line_cases e1 with ⟨q | q, _, ea, _⟩ | ⟨q, r, ed, _, _, ea, _⟩ | ⟨q, r, ed, _, _, ea, _⟩ | ⟨q, r, ed, _, _, ea, _⟩ | ⟨q, r, t, x, y, x', y', ed, _, _, s1, s2, ea, _⟩
        · exact hin "end" (by decide +kernel) _ q ea
        · exact hin "drop" (by decide +kernel) _ q ea
        · exact hin "get" (by decide +kernel) _ ed ea
        · exact hin "put" (by decide +kernel) _ ed ea
        · exact hin "let" (by decide +kernel) _ ed ea
        · subst ed
          cases k with
          | zero => exact (good0 hgd).elim
          | succ j =>
            obtain ⟨_, hp⟩ := good_tup hgd
            have c1 := fun h => ih r (good_mono (hp r (by simp))) (ifs + 1) x y s1 m h (by omega)
            have c2 := fun h => ih t (good_mono (hp t (by simp))) (ifs + 1) x' y' s2 m h (by omega)
            have q1 : (("if" : Str) == "if") = true := by decide +kernel
            simp (decide := true) only [setTg, okCs_nil, okCs_cons, okC_asg, okC_own, okC_stIx, okC_aug, okC_app, okC_ex, okC_ret, okC_retN, okC_ite, okC_for, okE_c, okE_no, okE_v, okE_pk, okE_g, okE_bin, okE_neg, okE_cmp, okE_chain, okE_and, okE_or, okE_not, okE_ite, okE_isi, okE_b1, okE_b2, okE_bm, okE_call, okE_ix, okE_sl, okE_tup, okE_lst, okE_dct, okE_new, okE_lc, okEs_nil, okEs_cons, onVal_val, onOwn_own, onO_some, onO_none, onO_map, onB_bl, onCell_lst, onCell_dct, onInts_int, okO_ok, okE_attr, okE_meth, okE_make, okE_getd, okE_orv, okE_popK, okE_popL, okC_appR, okC_stAt, onNon_non, List.getElem?_cons_zero, List.getElem?_cons_succ, List.set_cons_zero, List.set_cons_succ, isNo, boundC, ix_tup, at0, at2, at3, c_eqS, q1, c1, c2, b_add]
            simp only [if_true]
            exact fin _ _ (by omega)
    refine (key ls x y ls.length .no (.tup ls) hd e).mono (fun Γ h' ⟨s, q1, q2⟩ => ?_) fun _ _ q => q.elim
    subst q1 q2
    simp (decide := true) only [okCs_nil, okCs_cons, okC_asg, okC_own, okC_stIx, okC_aug, okC_app, okC_ex, okC_ret, okC_retN, okC_ite, okC_for, okE_c, okE_no, okE_v, okE_pk, okE_g, okE_bin, okE_neg, okE_cmp, okE_chain, okE_and, okE_or, okE_not, okE_ite, okE_isi, okE_b1, okE_b2, okE_bm, okE_call, okE_ix, okE_sl, okE_tup, okE_lst, okE_dct, okE_new, okE_lc, okEs_nil, okEs_cons, onVal_val, onOwn_own, onO_some, onO_none, onO_map, onB_bl, onCell_lst, onCell_dct, onInts_int, okO_ok, okE_attr, okE_meth, okE_make, okE_getd, okE_orv, okE_popK, okE_popL, okC_appR, okC_stAt, onNon_non, List.getElem?_cons_zero, List.getElem?_cons_succ, List.set_cons_zero, List.set_cons_succ, isNo, boundC]
    refine ⟨?_, trivial⟩
    congr 1
    omega
def bdA : List CS := [.ite (.cmp .eq (.ix (.v 2) (.c (.int 0))) (.c (.str "if"))) [.aug 1 (.bin .add (.call 7 [(.ix (.v 2) (.c (.int 2)))]) (.call 7 [(.ix (.v 2) (.c (.int 3)))]))] [.ite (.cmp .isin (.ix (.v 2) (.c (.int 0))) (.tup [(.c (.str "get")), (.c (.str "put"))])) [.aug 1 (.c (.int 1))] []]]
theorem count_asked : ∀ (k : Nat) (d : D), good k d → ∀ (ifs : Int) (x y : Nat), linesC k ifs d = some (x, y) → ∀ (n : Nat) (h : List Cell), k + 2 ≤ n → callN T n 7 [d] h = some (.ok (.int y) h) := by
  intro k
  induction k with
  | zero => intro d hg ifs x y e; cases e
  | succ k ih =>
    intro d hg ifs x y e n h hn
    obtain ⟨m, rfl⟩ : ∃ m, n = m + 1 := ⟨n - 1, by omega⟩
    cases d <;> first | (cases e; done) | skip
    rename_i ls
    obtain ⟨hz, hd⟩ := good_tup hg
    refine ok_eq (ok_call (n := m) (F := ⟨1, 3, b7⟩) Base.f7 rfl ?_)
    show okCs T (callN T m) b7 [.val (.tup ls), .no, .no] h _ _
    simp (decide := true) only [b7, okCs_nil, okCs_cons, okC_asg, okC_own, okC_stIx, okC_aug, okC_app, okC_ex, okC_ret, okC_retN, okC_ite, okC_for, okE_c, okE_no, okE_v, okE_pk, okE_g, okE_bin, okE_neg, okE_cmp, okE_chain, okE_and, okE_or, okE_not, okE_ite, okE_isi, okE_b1, okE_b2, okE_bm, okE_call, okE_ix, okE_sl, okE_tup, okE_lst, okE_dct, okE_new, okE_lc, okEs_nil, okEs_cons, onVal_val, onOwn_own, onO_some, onO_none, onO_map, onB_bl, onCell_lst, onCell_dct, onInts_int, okO_ok, okE_attr, okE_meth, okE_make, okE_getd, okE_orv, okE_popK, okE_popL, okC_appR, okC_stAt, onNon_non, List.getElem?_cons_zero, List.getElem?_cons_succ, List.set_cons_zero, List.set_cons_succ, isNo, boundC, itemsOf]
    have e : goL (lineC k (linesC k) ifs) ls = some (x, y) := e
    have key : ∀ (ls : List D) (x y : Nat) (acc : Int) (s : Slot) (d0 : D), (∀ d ∈ ls, good k d) → goL (lineC k (linesC k) ifs) ls = some (x, y) →
        okS (forL (forF T (callN T m) (.one 2) bdA) ls [.val d0, .val (.int acc), s] h) (fun Γ h' => ∃ s, Γ = [.val d0, .val (.int (acc + y)), s] ∧ h' = h) (fun _ _ => False) := by
      intro ls
      induction ls with
      | nil =>
        intro x y acc s d0 _ e
        cases e
        exact ⟨s, by simp, rfl⟩
      | cons d ds ihl =>
        intro x y acc s d0 hd e
        obtain ⟨a, b, a', b', e1, e2, rfl, rfl⟩ := goL_cons e
        have hgd := hd d List.mem_cons_self
        refine for_cons ?_
        rw [okS_forF]
        have fin : ∀ (acc' : Int) (s : Slot), acc' = acc + b → okS (forL (forF T (callN T m) (.one 2) bdA) ds [.val d0, .val (.int acc'), s] h) (fun Γ h' => ∃ s, Γ = [.val d0, .val (.int (acc + (b + b' : Nat))), s] ∧ h' = h) (fun _ _ => False) := fun acc' s ea => by
          refine (ihl a' b' acc' s d0 (fun x hx => hd x (List.mem_cons_of_mem _ hx)) e2).mono (fun Γ h' ⟨s, q1, q2⟩ => ⟨s, ?_, q2⟩) fun _ _ q => q
          rw [q1, ea]
          have : acc + (b : Int) + b' = acc + ((b + b' : Nat) : Int) := by omega
          rw [this]
        have hin : ∀ w : Str, (("if" : Str) == w) = false → ∀ l, d = .tup (.str w :: l) → b = (if inS ["get", "put"] (.str w) = true then 1 else 0) → onO (setTg (.one 2) d [.val d0, .val (.int acc), s]) fun Γ => okCs T (callN T m) bdA Γ h (fun Γ h' => okS (forL (forF T (callN T m) (.one 2) bdA) ds Γ h') (fun Γ h' => ∃ s, Γ = [.val d0, .val (.int (acc + (b + b' : Nat))), s] ∧ h' = h) (fun _ _ => False)) (fun _ _ => False) := fun w hw l ed ea => by
          subst ed
          simp (decide := true) only [bdA, setTg, okCs_nil, okCs_cons, okC_asg, okC_own, okC_stIx, okC_aug, okC_app, okC_ex, okC_ret, okC_retN, okC_ite, okC_for, okE_c, okE_no, okE_v, okE_pk, okE_g, okE_bin, okE_neg, okE_cmp, okE_chain, okE_and, okE_or, okE_not, okE_ite, okE_isi, okE_b1, okE_b2, okE_bm, okE_call, okE_ix, okE_sl, okE_tup, okE_lst, okE_dct, okE_new, okE_lc, okEs_nil, okEs_cons, onVal_val, onOwn_own, onO_some, onO_none, onO_map, onB_bl, onCell_lst, onCell_dct, onInts_int, okO_ok, okE_attr, okE_meth, okE_make, okE_getd, okE_orv, okE_popK, okE_popL, okC_appR, okC_stAt, onNon_non, List.getElem?_cons_zero, List.getElem?_cons_succ, List.set_cons_zero, List.set_cons_succ, isNo, boundC, ix_tup, at0, c_eqS, hw, c_inGP]
          simp only [Bool.false_eq_true, if_false]
          refine ⟨by decide, ?_⟩
          by_cases q : inS ["get", "put"] (.str w) = true
          · rw [if_pos q] at ea
            rw [if_pos q]
            exact fin (acc + 1) _ (by subst ea; rfl)
          · rw [if_neg q] at ea
            rw [if_neg q]
            exact fin acc _ (by subst ea; omega)
        rcases line_cases e1 with ⟨q | q, _, _, eb⟩ | ⟨q, r, ed, _, _, _, eb⟩ | ⟨q, r, ed, _, _, _, eb⟩ | ⟨q, r, ed, _, _, _, eb⟩ | ⟨q, r, t, x, y, x', y', ed, _, _, s1, s2, _, eb⟩
        · exact hin "end" (by decide +kernel) _ q (by rw [eb, if_neg (by decide +kernel)])
        · exact hin "drop" (by decide +kernel) _ q (by rw [eb, if_neg (by decide +kernel)])
        · exact hin "get" (by decide +kernel) _ ed (by rw [eb, if_pos (by decide +kernel)])
        · exact hin "put" (by decide +kernel) _ ed (by rw [eb, if_pos (by decide +kernel)])
        · exact hin "let" (by decide +kernel) _ ed (by rw [eb, if_neg (by decide +kernel)])
        · subst ed
          cases k with
          | zero => exact (good0 hgd).elim
          | succ j =>
            obtain ⟨_, hp⟩ := good_tup hgd
            have c1 := fun h => ih r (good_mono (hp r (by simp))) (ifs + 1) x y s1 m h (by omega)
            have c2 := fun h => ih t (good_mono (hp t (by simp))) (ifs + 1) x' y' s2 m h (by omega)
            have q1 : (("if" : Str) == "if") = true := by decide +kernel
            simp (decide := true) only [bdA, setTg, okCs_nil, okCs_cons, okC_asg, okC_own, okC_stIx, okC_aug, okC_app, okC_ex, okC_ret, okC_retN, okC_ite, okC_for, okE_c, okE_no, okE_v, okE_pk, okE_g, okE_bin, okE_neg, okE_cmp, okE_chain, okE_and, okE_or, okE_not, okE_ite, okE_isi, okE_b1, okE_b2, okE_bm, okE_call, okE_ix, okE_sl, okE_tup, okE_lst, okE_dct, okE_new, okE_lc, okEs_nil, okEs_cons, onVal_val, onOwn_own, onO_some, onO_none, onO_map, onB_bl, onCell_lst, onCell_dct, onInts_int, okO_ok, okE_attr, okE_meth, okE_make, okE_getd, okE_orv, okE_popK, okE_popL, okC_appR, okC_stAt, onNon_non, List.getElem?_cons_zero, List.getElem?_cons_succ, List.set_cons_zero, List.set_cons_succ, isNo, boundC, ix_tup, at0, at2, at3, c_eqS, q1, c1, c2, b_add]
            simp only [if_true]
            exact fin _ _ (by omega)
    refine (key ls x y 0 .no (.tup ls) hd e).mono (fun Γ h' ⟨s, q1, q2⟩ => ?_) fun _ _ q => q.elim
    subst q1 q2
    simp (decide := true) only [okCs_nil, okCs_cons, okC_asg, okC_own, okC_stIx, okC_aug, okC_app, okC_ex, okC_ret, okC_retN, okC_ite, okC_for, okE_c, okE_no, okE_v, okE_pk, okE_g, okE_bin, okE_neg, okE_cmp, okE_chain, okE_and, okE_or, okE_not, okE_ite, okE_isi, okE_b1, okE_b2, okE_bm, okE_call, okE_ix, okE_sl, okE_tup, okE_lst, okE_dct, okE_new, okE_lc, okEs_nil, okEs_cons, onVal_val, onOwn_own, onO_some, onO_none, onO_map, onB_bl, onCell_lst, onCell_dct, onInts_int, okO_ok, okE_attr, okE_meth, okE_make, okE_getd, okE_orv, okE_popK, okE_popL, okC_appR, okC_stAt, onNon_non, List.getElem?_cons_zero, List.getElem?_cons_succ, List.set_cons_zero, List.set_cons_succ, isNo, boundC]
    refine ⟨?_, trivial⟩
    congr 1
    omega
/-- a good program -/
def progB (k : Nat) (d : D) : Bool := match linesC k 0 d with
  | some (x, y) => decide (1 ≤ x) && decide (x ≤ 16) && decide (y ≤ 8)
  | none => false
theorem is_program (k : Nat) (d : D) (hg : good k d) (n : Nat) (h : List Cell) (hn : 2 * k + 7 ≤ n) : callN T n 8 [d] h = some (.ok (.bl (progB k d)) h) := by
  obtain ⟨m, rfl⟩ : ∃ m, n = m + 1 := ⟨n - 1, by omega⟩
  refine ok_eq (ok_call (n := m) (F := ⟨1, 1, b8⟩) Base.f8 rfl ?_)
  show okCs T (callN T m) b8 [.val d] h _ _
  simp (decide := true) only [b8, okCs_nil, okCs_cons, okC_asg, okC_own, okC_stIx, okC_aug, okC_app, okC_ex, okC_ret, okC_retN, okC_ite, okC_for, okE_c, okE_no, okE_v, okE_pk, okE_g, okE_bin, okE_neg, okE_cmp, okE_chain, okE_and, okE_or, okE_not, okE_ite, okE_isi, okE_b1, okE_b2, okE_bm, okE_call, okE_ix, okE_sl, okE_tup, okE_lst, okE_dct, okE_new, okE_lc, okEs_nil, okEs_cons, onVal_val, onOwn_own, onO_some, onO_none, onO_map, onB_bl, onCell_lst, onCell_dct, onInts_int, okO_ok, okE_attr, okE_meth, okE_make, okE_getd, okE_orv, okE_popK, okE_popL, okC_appR, okC_stAt, onNon_non, List.getElem?_cons_zero, List.getElem?_cons_succ, List.set_cons_zero, List.set_cons_succ, isNo, boundC, are_lines k d hg 0 m h (by omega), G8, G9]
  cases e : linesC k 0 d with
  | none => simp [progB, e]
  | some p =>
    obtain ⟨x, y⟩ := p
    have c1 := fun h => count_lines (T := T) k d hg 0 x y e m h (by omega)
    have c2 := fun h => count_asked (T := T) k d hg 0 x y e m h (by omega)
    simp (decide := true) only [Option.isSome, c1, c2, okO_ok, c_le, onO_some, onB_bl, progB, e]
    by_cases q1 : 1 ≤ x <;> by_cases q2 : x ≤ 16 <;> by_cases q3 : y ≤ 8 <;> simp [q1, q2, q3] <;> omega
end DL

set_option linter.all false
set_option Elab.async false
set_option maxRecDepth 100000
set_option maxHeartbeats 4000000
namespace DL
open PySem DC
variable {T : Tb} [Base T]
theorem okCs_step {c : Call} {s : CS} {ss : List CS} {Γ Γ' : List Slot} {h h' : List Cell} {N : List Slot → List Cell → Prop} {R : D → List Cell → Prop} (g : okC T c s Γ h (fun Γ1 h1 => Γ1 = Γ' ∧ h1 = h') (fun _ _ => False)) (k : okCs T c ss Γ' h' N R) : okCs T c (s :: ss) Γ h N R := by
  rw [okCs_cons]
  unfold okC at g ⊢
  refine g.mono (fun Γ1 h1 q => ?_) fun _ _ q => q.elim
  obtain ⟨rfl, rfl⟩ := q
  exact k
theorem okCs_out {c : Call} {s : CS} {ss : List CS} {Γ : List Slot} {h : List Cell} {N : List Slot → List Cell → Prop} {R : D → List Cell → Prop} (g : okC T c s Γ h (fun _ _ => False) R) : okCs T c (s :: ss) Γ h N R := by
  rw [okCs_cons]
  unfold okC at g ⊢
  exact g.mono (fun _ _ q => q.elim) fun _ _ q => q
theorem eq_tnil {h : List Cell} {l : List D} : cmpD .eq h (.tup l) (.tup []) = some (.bl l.isEmpty) := by
  have : eqH h (.tup l) (.tup []) = some l.isEmpty := by
    unfold eqH
    rw [if_pos (by show min (D.tup l).depth 1 ≤ 100; omega)]
    cases l <;> simp [eqD, eqZ]
  unfold cmpD
  simp only [this, Option.map]
/-- the state's cell -/
def stOk (c : Option Cell) : Prop := ∃ a b d : Int, c = some (.lst [.int a, .int b, .int d])
theorem ix_ref {h : List Cell} {s : Nat} {ds : List D} {k : Int} (e : h[s]? = some (.lst ds)) : ixD h (.ref s) (.int k) = L2.atI ds k := by
  unfold ixD
  simp only [dctOf, e, seqOf]
  rfl
theorem stix_ref {h : List Cell} {s : Nat} {a b d : Int} {v : D} (e : h[s]? = some (.lst [.int a, .int b, .int d])) : stIxD h (.ref s) (.int 1) v = some (h.set s (.lst [.int a, v, .int d])) := by
  unfold stIxD
  simp only [e]
  rfl
theorem set_get {h : List Cell} {s : Nat} {c c' : Cell} (e : h[s]? = some c) : (h.set s c')[s]? = some c' := by
  rw [List.getElem?_set_self (List.getElem?_eq_some_iff.mp e).1]
theorem b_mod {h : List Cell} {a b : Int} (hb : 0 < b) : binD .mod h (.int a) (.int b) = some (.int (a % b)) := by
  unfold binD
  simp [hb]
theorem b_fdiv {h : List Cell} {a b : Int} (hb : 0 < b) (h2 : b < 2 ^ 64) : binD .fdiv h (.int a) (.int b) = some (.int (a / b)) := by
  unfold binD
  simp only
  rw [if_pos ⟨hb, h2⟩]
theorem b_mul {h : List Cell} {a b : Int} (hb : (intFits a || intFits b) = true) : binD .mul h (.int a) (.int b) = some (.int (a * b)) := by
  show (if (intFits a || intFits b) = true then some (D.int (a * b)) else none) = _
  rw [if_pos hb]
theorem fits_mod {a b : Int} (hb : 0 < b) (h2 : b < 2 ^ 64) : intFits (a % b) = true := by
  have h1 := Int.emod_nonneg a (Int.ne_of_gt hb)
  have h3 := Int.emod_lt_of_pos a hb
  unfold intFits
  simp only [Bool.and_eq_true, decide_eq_true_eq]
  omega
theorem law_next {h : List Cell} {s : Nat} (hs : stOk h[s]?) {size : Int} (h1 : 0 < size) (h2 : size < 2 ^ 64) {n : Nat} (hn : 1 ≤ n) : okO (callN T n 10 [.ref s, .int size] h) fun r h' => ∃ (i : Int) (c : Cell), r = .int i ∧ 0 ≤ i ∧ i < size ∧ h' = h.set s c ∧ stOk (some c) := by
  obtain ⟨m, rfl⟩ : ∃ m, n = m + 1 := ⟨n - 1, by omega⟩
  obtain ⟨a, b, d, e⟩ := hs
  refine ok_call (n := m) (F := ⟨2, 4, b10⟩) Base.f10 rfl ?_
  show okCs T (callN T m) b10 [.val (.ref s), .val (.int size), .no, .no] h _ _
  by_cases ha : a = 0
  · refine okCs_out ?_
    simp (decide := true) only [okC_ite, okE_cmp, okE_ix, okE_v, okE_c, List.getElem?_cons_zero, List.getElem?_cons_succ, onVal_val, onO_some, onB_bl, ix_ref e, at0, c_eq, ha, if_true]
    refine okCs_step (Γ' := [.val (.ref s), .val (.int size), .no, .val (.int (b % size))]) (h' := h) (by simp (decide := true) [okCs_nil, okCs_cons, okC_asg, okC_own, okC_stIx, okC_aug, okC_app, okC_ex, okC_ret, okC_retN, okC_ite, okC_for, okE_c, okE_no, okE_v, okE_pk, okE_g, okE_bin, okE_neg, okE_cmp, okE_chain, okE_and, okE_or, okE_not, okE_ite, okE_isi, okE_b1, okE_b2, okE_bm, okE_call, okE_ix, okE_sl, okE_tup, okE_lst, okE_dct, okE_new, okE_lc, okEs_nil, okEs_cons, onVal_val, onOwn_own, onO_some, onO_none, onO_map, onB_bl, onCell_lst, onCell_dct, onInts_int, okO_ok, okE_attr, okE_meth, okE_make, okE_getd, okE_orv, okE_popK, okE_popL, okC_appR, okC_stAt, onNon_non, List.getElem?_cons_zero, List.getElem?_cons_succ, List.set_cons_zero, List.set_cons_succ, isNo, boundC, ix_ref e, at1, b_mod h1]) ?_
    refine okCs_step (Γ' := [.val (.ref s), .val (.int size), .no, .val (.int (b % size))]) (h' := h.set s (.lst [.int a, .int (b / size), .int d])) (by simp (decide := true) [okCs_nil, okCs_cons, okC_asg, okC_own, okC_stIx, okC_aug, okC_app, okC_ex, okC_ret, okC_retN, okC_ite, okC_for, okE_c, okE_no, okE_v, okE_pk, okE_g, okE_bin, okE_neg, okE_cmp, okE_chain, okE_and, okE_or, okE_not, okE_ite, okE_isi, okE_b1, okE_b2, okE_bm, okE_call, okE_ix, okE_sl, okE_tup, okE_lst, okE_dct, okE_new, okE_lc, okEs_nil, okEs_cons, onVal_val, onOwn_own, onO_some, onO_none, onO_map, onB_bl, onCell_lst, onCell_dct, onInts_int, okO_ok, okE_attr, okE_meth, okE_make, okE_getd, okE_orv, okE_popK, okE_popL, okC_appR, okC_stAt, onNon_non, List.getElem?_cons_zero, List.getElem?_cons_succ, List.set_cons_zero, List.set_cons_succ, isNo, boundC, ix_ref e, at1, b_fdiv h1 h2, stix_ref e]) ?_
    simp only [okCs_nil, okCs_cons, okC_asg, okC_own, okC_stIx, okC_aug, okC_app, okC_ex, okC_ret, okC_retN, okC_ite, okC_for, okE_c, okE_no, okE_v, okE_pk, okE_g, okE_bin, okE_neg, okE_cmp, okE_chain, okE_and, okE_or, okE_not, okE_ite, okE_isi, okE_b1, okE_b2, okE_bm, okE_call, okE_ix, okE_sl, okE_tup, okE_lst, okE_dct, okE_new, okE_lc, okEs_nil, okEs_cons, onVal_val, onOwn_own, onO_some, onO_none, onO_map, onB_bl, onCell_lst, onCell_dct, onInts_int, okO_ok, okE_attr, okE_meth, okE_make, okE_getd, okE_orv, okE_popK, okE_popL, okC_appR, okC_stAt, onNon_non, List.getElem?_cons_zero, List.getElem?_cons_succ, List.set_cons_zero, List.set_cons_succ, isNo, boundC]
    exact ⟨b % size, _, rfl, Int.emod_nonneg b (Int.ne_of_gt h1), Int.emod_lt_of_pos b h1, rfl, a, b / size, d, rfl⟩
  · refine okCs_step (Γ' := [.val (.ref s), .val (.int size), .no, .no]) (h' := h) (by simp (decide := true) [okCs_nil, okCs_cons, okC_asg, okC_own, okC_stIx, okC_aug, okC_app, okC_ex, okC_ret, okC_retN, okC_ite, okC_for, okE_c, okE_no, okE_v, okE_pk, okE_g, okE_bin, okE_neg, okE_cmp, okE_chain, okE_and, okE_or, okE_not, okE_ite, okE_isi, okE_b1, okE_b2, okE_bm, okE_call, okE_ix, okE_sl, okE_tup, okE_lst, okE_dct, okE_new, okE_lc, okEs_nil, okEs_cons, onVal_val, onOwn_own, onO_some, onO_none, onO_map, onB_bl, onCell_lst, onCell_dct, onInts_int, okO_ok, okE_attr, okE_meth, okE_make, okE_getd, okE_orv, okE_popK, okE_popL, okC_appR, okC_stAt, onNon_non, List.getElem?_cons_zero, List.getElem?_cons_succ, List.set_cons_zero, List.set_cons_succ, isNo, boundC, ix_ref e, at0, c_eq, ha]) ?_
    have f1 : (intFits b || intFits 48271) = true := by
      rw [show intFits 48271 = true by decide, Bool.or_true]
    have e2 := set_get (c' := .lst [.int a, .int ((b * 48271 + d) % 2147483647), .int d]) e
    refine okCs_step (Γ' := [.val (.ref s), .val (.int size), .no, .no]) (h' := h.set s (.lst [.int a, .int ((b * 48271 + d) % 2147483647), .int d])) (by simp (decide := true) [okCs_nil, okCs_cons, okC_asg, okC_own, okC_stIx, okC_aug, okC_app, okC_ex, okC_ret, okC_retN, okC_ite, okC_for, okE_c, okE_no, okE_v, okE_pk, okE_g, okE_bin, okE_neg, okE_cmp, okE_chain, okE_and, okE_or, okE_not, okE_ite, okE_isi, okE_b1, okE_b2, okE_bm, okE_call, okE_ix, okE_sl, okE_tup, okE_lst, okE_dct, okE_new, okE_lc, okEs_nil, okEs_cons, onVal_val, onOwn_own, onO_some, onO_none, onO_map, onB_bl, onCell_lst, onCell_dct, onInts_int, okO_ok, okE_attr, okE_meth, okE_make, okE_getd, okE_orv, okE_popK, okE_popL, okC_appR, okC_stAt, onNon_non, List.getElem?_cons_zero, List.getElem?_cons_succ, List.set_cons_zero, List.set_cons_succ, isNo, boundC, ix_ref e, at1, at2, b_mul f1, b_add, b_mod (show (0 : Int) < 2147483647 by decide), stix_ref e]) ?_
    generalize hx : (b * 48271 + d) % 2147483647 = x at e2
    have f2 : (intFits x || intFits x) = true := by
      rw [← hx, fits_mod (by decide) (by decide)]
      rfl
    refine okCs_step (Γ' := [.val (.ref s), .val (.int size), .val (.int (x * x % 2147483629)), .no]) (h' := h.set s (.lst [.int a, .int x, .int d])) (by simp (decide := true) [okCs_nil, okCs_cons, okC_asg, okC_own, okC_stIx, okC_aug, okC_app, okC_ex, okC_ret, okC_retN, okC_ite, okC_for, okE_c, okE_no, okE_v, okE_pk, okE_g, okE_bin, okE_neg, okE_cmp, okE_chain, okE_and, okE_or, okE_not, okE_ite, okE_isi, okE_b1, okE_b2, okE_bm, okE_call, okE_ix, okE_sl, okE_tup, okE_lst, okE_dct, okE_new, okE_lc, okEs_nil, okEs_cons, onVal_val, onOwn_own, onO_some, onO_none, onO_map, onB_bl, onCell_lst, onCell_dct, onInts_int, okO_ok, okE_attr, okE_meth, okE_make, okE_getd, okE_orv, okE_popK, okE_popL, okC_appR, okC_stAt, onNon_non, List.getElem?_cons_zero, List.getElem?_cons_succ, List.set_cons_zero, List.set_cons_succ, isNo, boundC, ix_ref e2, at1, b_mul f2, b_mod (show (0 : Int) < 2147483629 by decide)]) ?_
    generalize hy : x * x % 2147483629 = y
    have f3 : (intFits y || intFits y) = true := by
      rw [← hy, fits_mod (by decide) (by decide)]
      rfl
    simp (decide := true) only [okCs_nil, okCs_cons, okC_asg, okC_own, okC_stIx, okC_aug, okC_app, okC_ex, okC_ret, okC_retN, okC_ite, okC_for, okE_c, okE_no, okE_v, okE_pk, okE_g, okE_bin, okE_neg, okE_cmp, okE_chain, okE_and, okE_or, okE_not, okE_ite, okE_isi, okE_b1, okE_b2, okE_bm, okE_call, okE_ix, okE_sl, okE_tup, okE_lst, okE_dct, okE_new, okE_lc, okEs_nil, okEs_cons, onVal_val, onOwn_own, onO_some, onO_none, onO_map, onB_bl, onCell_lst, onCell_dct, onInts_int, okO_ok, okE_attr, okE_meth, okE_make, okE_getd, okE_orv, okE_popK, okE_popL, okC_appR, okC_stAt, onNon_non, List.getElem?_cons_zero, List.getElem?_cons_succ, List.set_cons_zero, List.set_cons_succ, isNo, boundC, b_mul f3, b_mod (show (0 : Int) < 2147483587 by decide), b_fdiv (show (0 : Int) < 7 by decide) (show (7 : Int) < 2 ^ 64 by decide), b_mod h1]
    exact ⟨_, _, rfl, Int.emod_nonneg _ (Int.ne_of_gt h1), Int.emod_lt_of_pos _ h1, rfl, a, x, d, rfl⟩
theorem l_scr {h : List Cell} {ds : List D} : b1D .len h (.scr ds) = some (.int ds.length) := rfl
theorem ix_scr {h : List Cell} {ds : List D} {k : Int} : ixD h (.scr ds) (.int k) = L2.atI ds k := rfl
theorem abs_i {h : List Cell} {i : Int} : b1D .abs h (.int i) = some (.int (if i < 0 then -i else i)) := rfl
theorem at_some {ds : List D} {k : Int} (h1 : 0 ≤ k) (h2 : k < ds.length) : ∃ j : Nat, (j : Int) = k ∧ ∃ hj : j < ds.length, L2.atI ds k = some ds[j] := by
  refine ⟨k.toNat, by omega, by omega, ?_⟩
  unfold L2.atI L2.ixN
  rw [if_pos h1, if_pos h2]
  exact List.getElem?_eq_getElem (by omega)
theorem law_state {h : List Cell} {ns : List Int} {k : Int} (h0 : 0 ≤ k) (hz : ns.length ≤ 63) {n : Nat} (hn : 1 ≤ n) : okO (callN T n 9 [.scr (ns.map .int), .int k] h) fun r h' => ∃ c, r = .ref h.length ∧ h' = h ++ [c] ∧ stOk (some c) := by
  obtain ⟨m, rfl⟩ : ∃ m, n = m + 1 := ⟨n - 1, by omega⟩
  refine ok_call (n := m) (F := ⟨2, 4, b9⟩) Base.f9 rfl ?_
  show okCs T (callN T m) b9 [.val (.scr (ns.map .int)), .val (.int k), .no, .no] h _ _
  have fi : ∀ x : Int, (intFits 2 || intFits x) = true := fun x => by rw [show intFits 2 = true by decide]; rfl
  refine okCs_step (Γ' := [.val (.scr (ns.map .int)), .val (.int k), .val (.int (1 + 2 * k)), .no]) (h' := h) (by simp (decide := true) [okCs_nil, okCs_cons, okC_asg, okC_own, okC_stIx, okC_aug, okC_app, okC_ex, okC_ret, okC_retN, okC_ite, okC_for, okE_c, okE_no, okE_v, okE_pk, okE_g, okE_bin, okE_neg, okE_cmp, okE_chain, okE_and, okE_or, okE_not, okE_ite, okE_isi, okE_b1, okE_b2, okE_bm, okE_call, okE_ix, okE_sl, okE_tup, okE_lst, okE_dct, okE_new, okE_lc, okEs_nil, okEs_cons, onVal_val, onOwn_own, onO_some, onO_none, onO_map, onB_bl, onCell_lst, onCell_dct, onInts_int, okO_ok, okE_attr, okE_meth, okE_make, okE_getd, okE_orv, okE_popK, okE_popL, okC_appR, okC_stAt, onNon_non, List.getElem?_cons_zero, List.getElem?_cons_succ, List.set_cons_zero, List.set_cons_succ, isNo, boundC, b_mul (fi k), b_add]) ?_
  have hc : ∃ z : Int, okC T (callN T m) (.ite (.cmp .gt (.b1 .len (.v 0)) (.c (.int 0))) [.asg 2 (.bin .add (.ix (.v 0) (.bin .mod (.v 1) (.b1 .len (.v 0)))) (.bin .mul (.c (.int 2)) (.bin .fdiv (.v 1) (.b1 .len (.v 0)))))] []) [.val (.scr (ns.map .int)), .val (.int k), .val (.int (1 + 2 * k)), .no] h (fun Γ1 h1 => Γ1 = [.val (.scr (ns.map .int)), .val (.int k), .val (.int z), .no] ∧ h1 = h) (fun _ _ => False) := by
    by_cases hl : (0 : Int) < ns.length
    · have hm := Int.emod_nonneg k (Int.ne_of_gt hl)
      have hm2 := Int.emod_lt_of_pos k hl
      obtain ⟨j, ej, hj, e⟩ := at_some (ds := ns.map .int) (k := k % ns.length) hm (by rw [List.length_map]; exact hm2)
      rw [List.getElem_map] at e
      have hj' : j < ns.length := by simpa using hj
      refine ⟨ns[j] + 2 * (k / ns.length), ?_⟩
      simp (decide := true) only [okCs_nil, okCs_cons, okC_asg, okC_own, okC_stIx, okC_aug, okC_app, okC_ex, okC_ret, okC_retN, okC_ite, okC_for, okE_c, okE_no, okE_v, okE_pk, okE_g, okE_bin, okE_neg, okE_cmp, okE_chain, okE_and, okE_or, okE_not, okE_ite, okE_isi, okE_b1, okE_b2, okE_bm, okE_call, okE_ix, okE_sl, okE_tup, okE_lst, okE_dct, okE_new, okE_lc, okEs_nil, okEs_cons, onVal_val, onOwn_own, onO_some, onO_none, onO_map, onB_bl, onCell_lst, onCell_dct, onInts_int, okO_ok, okE_attr, okE_meth, okE_make, okE_getd, okE_orv, okE_popK, okE_popL, okC_appR, okC_stAt, onNon_non, List.getElem?_cons_zero, List.getElem?_cons_succ, List.set_cons_zero, List.set_cons_succ, isNo, boundC, l_scr, List.length_map, c_gt, hl, b_mod hl, ix_scr, e, b_fdiv hl (show (ns.length : Int) < 2 ^ 64 by omega), b_mul (fi _), b_add]
      simp
    · refine ⟨1 + 2 * k, ?_⟩
      simp (decide := true) only [okCs_nil, okCs_cons, okC_asg, okC_own, okC_stIx, okC_aug, okC_app, okC_ex, okC_ret, okC_retN, okC_ite, okC_for, okE_c, okE_no, okE_v, okE_pk, okE_g, okE_bin, okE_neg, okE_cmp, okE_chain, okE_and, okE_or, okE_not, okE_ite, okE_isi, okE_b1, okE_b2, okE_bm, okE_call, okE_ix, okE_sl, okE_tup, okE_lst, okE_dct, okE_new, okE_lc, okEs_nil, okEs_cons, onVal_val, onOwn_own, onO_some, onO_none, onO_map, onB_bl, onCell_lst, onCell_dct, onInts_int, okO_ok, okE_attr, okE_meth, okE_make, okE_getd, okE_orv, okE_popK, okE_popL, okC_appR, okC_stAt, onNon_non, List.getElem?_cons_zero, List.getElem?_cons_succ, List.set_cons_zero, List.set_cons_succ, isNo, boundC, l_scr, List.length_map, c_gt, hl]
      simp
  obtain ⟨z, hc⟩ := hc
  refine okCs_step hc ?_
  generalize hs : (if z < 0 then -z else z) / 2 = st
  refine okCs_step (Γ' := [.val (.scr (ns.map .int)), .val (.int k), .val (.int z), .val (.int st)]) (h' := h) (by simp (decide := true) [okCs_nil, okCs_cons, okC_asg, okC_own, okC_stIx, okC_aug, okC_app, okC_ex, okC_ret, okC_retN, okC_ite, okC_for, okE_c, okE_no, okE_v, okE_pk, okE_g, okE_bin, okE_neg, okE_cmp, okE_chain, okE_and, okE_or, okE_not, okE_ite, okE_isi, okE_b1, okE_b2, okE_bm, okE_call, okE_ix, okE_sl, okE_tup, okE_lst, okE_dct, okE_new, okE_lc, okEs_nil, okEs_cons, onVal_val, onOwn_own, onO_some, onO_none, onO_map, onB_bl, onCell_lst, onCell_dct, onInts_int, okO_ok, okE_attr, okE_meth, okE_make, okE_getd, okE_orv, okE_popK, okE_popL, okC_appR, okC_stAt, onNon_non, List.getElem?_cons_zero, List.getElem?_cons_succ, List.set_cons_zero, List.set_cons_succ, isNo, boundC, abs_i, b_fdiv (show (0 : Int) < 2 by decide) (show (2 : Int) < 2 ^ 64 by decide), hs]) ?_
  have hd : ∃ w : Int, okC T (callN T m) (.ite (.cmp .eq (.bin .mod (.v 2) (.c (.int 2))) (.c (.int 1))) [.asg 3 (.bin .mod (.bin .add (.bin .add (.bin .add (.bin .mul (.bin .mod (.v 3) (.c (.int 2147483647))) (.c (.int 48271))) (.bin .mul (.c (.int 7919)) (.v 1))) (.b1 .len (.v 0))) (.c (.int 11))) (.c (.int 2147483647)))] []) [.val (.scr (ns.map .int)), .val (.int k), .val (.int z), .val (.int st)] h (fun Γ1 h1 => Γ1 = [.val (.scr (ns.map .int)), .val (.int k), .val (.int z), .val (.int w)] ∧ h1 = h) (fun _ _ => False) := by
    by_cases hq : z % 2 = 1
    · refine ⟨(st % 2147483647 * 48271 + 7919 * k + ns.length + 11) % 2147483647, ?_⟩
      have f1 : ∀ x : Int, (intFits x || intFits 48271) = true := fun x => by rw [show intFits 48271 = true by decide, Bool.or_true]
      have f2 : ∀ x : Int, (intFits 7919 || intFits x) = true := fun x => by rw [show intFits 7919 = true by decide]; rfl
      simp (decide := true) only [okCs_nil, okCs_cons, okC_asg, okC_own, okC_stIx, okC_aug, okC_app, okC_ex, okC_ret, okC_retN, okC_ite, okC_for, okE_c, okE_no, okE_v, okE_pk, okE_g, okE_bin, okE_neg, okE_cmp, okE_chain, okE_and, okE_or, okE_not, okE_ite, okE_isi, okE_b1, okE_b2, okE_bm, okE_call, okE_ix, okE_sl, okE_tup, okE_lst, okE_dct, okE_new, okE_lc, okEs_nil, okEs_cons, onVal_val, onOwn_own, onO_some, onO_none, onO_map, onB_bl, onCell_lst, onCell_dct, onInts_int, okO_ok, okE_attr, okE_meth, okE_make, okE_getd, okE_orv, okE_popK, okE_popL, okC_appR, okC_stAt, onNon_non, List.getElem?_cons_zero, List.getElem?_cons_succ, List.set_cons_zero, List.set_cons_succ, isNo, boundC, b_mod (show (0 : Int) < 2 by decide), c_eq, hq, b_mod (show (0 : Int) < 2147483647 by decide), b_mul (f1 _), b_mul (f2 _), b_add, l_scr, List.length_map]
      simp
    · refine ⟨st, ?_⟩
      simp (decide := true) only [okCs_nil, okCs_cons, okC_asg, okC_own, okC_stIx, okC_aug, okC_app, okC_ex, okC_ret, okC_retN, okC_ite, okC_for, okE_c, okE_no, okE_v, okE_pk, okE_g, okE_bin, okE_neg, okE_cmp, okE_chain, okE_and, okE_or, okE_not, okE_ite, okE_isi, okE_b1, okE_b2, okE_bm, okE_call, okE_ix, okE_sl, okE_tup, okE_lst, okE_dct, okE_new, okE_lc, okEs_nil, okEs_cons, onVal_val, onOwn_own, onO_some, onO_none, onO_map, onB_bl, onCell_lst, onCell_dct, onInts_int, okO_ok, okE_attr, okE_meth, okE_make, okE_getd, okE_orv, okE_popK, okE_popL, okC_appR, okC_stAt, onNon_non, List.getElem?_cons_zero, List.getElem?_cons_succ, List.set_cons_zero, List.set_cons_succ, isNo, boundC, b_mod (show (0 : Int) < 2 by decide), c_eq, hq]
      simp
  obtain ⟨w, hd⟩ := hd
  refine okCs_step hd ?_
  simp (decide := true) only [okCs_nil, okCs_cons, okC_asg, okC_own, okC_stIx, okC_aug, okC_app, okC_ex, okC_ret, okC_retN, okC_ite, okC_for, okE_c, okE_no, okE_v, okE_pk, okE_g, okE_bin, okE_neg, okE_cmp, okE_chain, okE_and, okE_or, okE_not, okE_ite, okE_isi, okE_b1, okE_b2, okE_bm, okE_call, okE_ix, okE_sl, okE_tup, okE_lst, okE_dct, okE_new, okE_lc, okEs_nil, okEs_cons, onVal_val, onOwn_own, onO_some, onO_none, onO_map, onB_bl, onCell_lst, onCell_dct, onInts_int, okO_ok, okE_attr, okE_meth, okE_make, okE_getd, okE_orv, okE_popK, okE_popL, okC_appR, okC_stAt, onNon_non, List.getElem?_cons_zero, List.getElem?_cons_succ, List.set_cons_zero, List.set_cons_succ, isNo, boundC, b_mod (show (0 : Int) < 2 by decide), b_add, newCell]
  exact ⟨(show (3 : Nat) ≤ 16777216 by decide), _, trivial, rfl, _, _, _, rfl⟩
/-- only the state's cell is another, and it is a state -/
structure Upd (s : Nat) (h h' : List Cell) : Prop where
  st : stOk h'[s]?
  len : h'.length = h.length
  oth : ∀ j, j ≠ s → h'[j]? = h[j]?
theorem Upd.refl {s : Nat} {h : List Cell} (hs : stOk h[s]?) : Upd s h h := ⟨hs, rfl, fun _ _ => rfl⟩
theorem Upd.trans {s : Nat} {h h1 h2 : List Cell} (a : Upd s h h1) (b : Upd s h1 h2) : Upd s h h2 := ⟨b.st, b.len.trans a.len, fun j hj => (b.oth j hj).trans (a.oth j hj)⟩
theorem law_nextU {h : List Cell} {s : Nat} (hs : stOk h[s]?) {size : Int} (h1 : 0 < size) (h2 : size < 2 ^ 64) {n : Nat} (hn : 1 ≤ n) : okO (callN T n 10 [.ref s, .int size] h) fun r h' => ∃ i : Int, r = .int i ∧ 0 ≤ i ∧ i < size ∧ Upd s h h' := by
  refine (law_next hs h1 h2 hn).mono fun r h' ⟨i, c, e1, e2, e3, e4, e5⟩ => ⟨i, e1, e2, e3, ?_⟩
  obtain ⟨a, b, d, e⟩ := hs
  subst e4
  refine ⟨?_, by simp, fun j hj => List.getElem?_set_ne fun z => hj z.symm⟩
  rw [set_get e]
  exact e5
structure NmOk (names : List D) : Prop where
  ne : names ≠ []
  le : names.length ≤ 5
  lab : ∀ d ∈ names, labelB d = true
theorem lab_str {d : D} (h : labelB d = true) : ∃ z, d = .str z := by
  cases d <;> first | exact ⟨_, rfl⟩ | (exact absurd h (by simp [labelB, keyB]))
theorem NmOk.at {names : List D} (o : NmOk names) {i : Int} (h1 : 0 ≤ i) (h2 : i < names.length) : ∃ d, L2.atI names i = some d ∧ labelB d = true ∧ d ∈ names := by
  obtain ⟨j, _, hj, e⟩ := at_some h1 h2
  exact ⟨_, e, o.lab _ (List.getElem_mem hj), List.getElem_mem hj⟩
theorem good_atom {d : D} (h : match d with | .tup _ => False | .lst _ => False | .ref _ => False | .scr _ => False | _ => True) (k : Nat) : good k d := by
  cases d <;> first | exact h.elim | (unfold good; trivial)
theorem good_lab {d : D} (h : labelB d = true) (k : Nat) : good k d := by
  obtain ⟨z, rfl⟩ := lab_str h
  exact good_atom trivial k
theorem good_mk {k : Nat} {ds : List D} (hz : ds.length ≤ 1000) (h : ∀ d ∈ ds, good k d) : good (k + 1) (.tup ds) := by
  unfold good
  exact ⟨hz, h⟩
/-- good, with room for one part more in each -/
def slim : Nat → D → Prop
  | k, .tup ds => match k with
    | 0 => False
    | k + 1 => ds.length ≤ 999 ∧ ∀ d ∈ ds, slim k d
  | k, .lst ds => match k with
    | 0 => False
    | k + 1 => ds.length ≤ 999 ∧ ∀ d ∈ ds, slim k d
  | _, .ref _ => False
  | _, .scr _ => False
  | _, _ => True
theorem slim_atom {d : D} (h : match d with | .tup _ => False | .lst _ => False | .ref _ => False | .scr _ => False | _ => True) (k : Nat) : slim k d := by
  cases d <;> first | exact h.elim | (unfold slim; trivial)
theorem slim_lab {d : D} (h : labelB d = true) (k : Nat) : slim k d := by
  obtain ⟨z, rfl⟩ := lab_str h
  exact slim_atom trivial k
theorem slim_mk {k : Nat} {ds : List D} (hz : ds.length ≤ 999) (h : ∀ d ∈ ds, slim k d) : slim (k + 1) (.tup ds) := by
  unfold slim
  exact ⟨hz, h⟩
theorem slim.good : ∀ {k : Nat} {d : D}, slim k d → good k d
  | 0, d, h => by
    cases d <;> first | (unfold DL.good; trivial) | (unfold slim at h; exact h.elim)
  | k + 1, d, h => by
    cases d <;> first | (unfold DL.good; trivial) | (unfold slim at h; exact h.elim) | skip
    all_goals
      unfold slim at h
      unfold DL.good
      exact ⟨by omega, fun d hd => (h.2 d hd).good⟩
/-! ### sums and rows, told as data -/
inductive Sm where
  | num (v : Int) | box (x : Str) | op (s : Str) (a b : Sm)
def Sm.toD : Sm → D
  | .num v => .tup [.str "number", .int v]
  | .box x => .tup [.str "box", .str x]
  | .op s a b => .tup [.str s, a.toD, b.toD]
def Sm.ok (names : List D) : Sm → Prop
  | .num v => 0 ≤ v ∧ v < 1000
  | .box x => D.str x ∈ names
  | .op s a b => s ∈ signW ∧ a.ok names ∧ b.ok names
def Sm.dp : Sm → Nat
  | .op _ a b => 1 + max a.dp b.dp
  | _ => 1
def Sm.okd (names : List D) (s : Sm) : Prop := s.ok names ∧ s.dp ≤ 4
inductive Ln where
  | get (b k : Str) | put (k : Str) (s : Sm) | lt (b : Str) (s : Sm) | iff (s : Sm) (y n : List Ln) | fin (w : Str)
mutual
def Ln.toD : Ln → D
  | .get b k => .tup [.str "get", .str b, .str k]
  | .put k s => .tup [.str "put", .str k, s.toD]
  | .lt b s => .tup [.str "let", .str b, s.toD]
  | .iff s y n => .tup [.str "if", s.toD, .tup (toDs y), .tup (toDs n)]
  | .fin w => .tup [.str w]
def toDs : List Ln → List D
  | [] => []
  | l :: ls => l.toD :: toDs ls
end
mutual
def Ln.ok (names : List D) : Ln → Prop
  | .get b k => D.str b ∈ names ∧ D.str k ∈ names
  | .put k s => D.str k ∈ names ∧ s.okd names
  | .lt b s => D.str b ∈ names ∧ s.okd names
  | .iff s y n => s.okd names ∧ oks names y ∧ oks names n
  | .fin w => w = "end" ∨ w = "drop"
def oks (names : List D) : List Ln → Prop
  | [] => True
  | l :: ls => l.ok names ∧ oks names ls
end
mutual
/-- how many rows -/
def Ln.sz : Ln → Nat
  | .iff _ y n => 1 + szs y + szs n
  | _ => 1
def szs : List Ln → Nat
  | [] => 0
  | l :: ls => l.sz + szs ls
end
theorem toDs_app : ∀ {a b : List Ln}, toDs (a ++ b) = toDs a ++ toDs b
  | [], b => rfl
  | l :: a, b => by
    rw [List.cons_append, toDs, toDs_app, toDs, List.cons_append]
theorem oks_app {names : List D} : ∀ {a b : List Ln}, oks names a → oks names b → oks names (a ++ b)
  | [], b, _, h => h
  | l :: a, b, h1, h2 => by
    rw [List.cons_append]
    unfold oks at h1 ⊢
    exact ⟨h1.1, oks_app h1.2 h2⟩
theorem szs_app : ∀ {a b : List Ln}, szs (a ++ b) = szs a + szs b
  | [], b => by simp [szs]
  | l :: a, b => by
    rw [List.cons_append, szs, szs, szs_app]
    omega
theorem toDs_len : ∀ {a : List Ln}, (toDs a).length = a.length
  | [] => rfl
  | l :: a => by
    rw [toDs, List.length_cons, List.length_cons, toDs_len]
theorem mem_inS {ss : List Str} {z : Str} (h : inS ss (.str z) = true) : z ∈ ss := by
  have h : (ss.any fun s => s == z) = true := h
  rw [List.any_eq_true] at h
  obtain ⟨x, hx, e⟩ := h
  rw [← eq_of_beq e]
  exact hx
theorem law_sum_gen : ∀ (deep : Nat), 1 ≤ deep → ∀ (h : List Cell) (s : Nat) (names : List D), stOk h[s]? → NmOk names → ∀ (n : Nat), deep + 2 ≤ n → okO (callN T n 12 [.ref s, .lst names, .int deep] h) fun r h' => (∀ K, deep ≤ K → slim K r ∧ 0 < sumD K r ∧ sumD K r ≤ deep) ∧ Upd s h h' ∧ ∃ sm : Sm, r = sm.toD ∧ sm.ok names ∧ sm.dp ≤ deep
  | 0, h0, _, _, _, _, _, _, _ => absurd h0 (by omega)
  | deep + 1, _, h, s, names, hs, hn, n, hm => by
    obtain ⟨m, rfl⟩ : ∃ m, n = m + 1 := ⟨n - 1, by omega⟩
    refine ok_call (n := m) (F := ⟨3, 6, b12⟩) Base.f12 rfl ?_
    show okCs T (callN T m) b12 [.val (.ref s), .val (.lst names), .val (.int ((deep + 1 : Nat) : Int)), .no, .no, .no] h _ _
    unfold b12
    rw [okCs_cons]
    simp only [okC_asg, okE_call, okEs_cons, okEs_nil, okE_v, okE_c, List.getElem?_cons_zero, onVal_val]
    refine (law_nextU hs (by decide) (by decide) (by omega)).mono fun r h1 ⟨way, e, w1, w2, U1⟩ => ?_
    subst e
    simp only [List.set_cons_succ, List.set_cons_zero]
    have two : ∀ {K : Nat} {a b : D}, deep + 1 ≤ K → (∀ k, slim k a) → (∀ k, slim k b) → (isS "number" a && valueB b || isS "box" a && labelB b) = true → slim K (.tup [a, b]) ∧ 0 < sumD K (.tup [a, b]) ∧ sumD K (.tup [a, b]) ≤ deep + 1 := fun {K a b} hK ga gb hv => by
      obtain ⟨k, rfl⟩ : ∃ k, K = k + 1 := ⟨K - 1, by omega⟩
      refine ⟨slim_mk (by simp) fun d hd => ?_, ?_⟩
      · simp only [List.mem_cons, List.not_mem_nil, or_false] at hd
        rcases hd with rfl | rfl
        · exact ga k
        · exact gb k
      · have : sumD (k + 1) (.tup [a, b]) = 1 := by
          simp only [sumD, hv, if_true]
        omega
    by_cases c1 : ((deep + 1 : Nat) : Int) = 1 ∨ way < 4
    · refine okCs_out ?_
      have cond : okE T (callN T m) (.or (.cmp .eq (.v 2) (.c (.int 1))) (.cmp .lt (.v 3) (.c (.int 4)))) [.val (.ref s), .val (.lst names), .val (.int ((deep + 1 : Nat) : Int)), .val (.int way), .no, .no] h1 (fun d h' => d = .bl true ∧ h' = h1) := by
        simp (decide := true) only [okCs_nil, okCs_cons, okC_asg, okC_own, okC_stIx, okC_aug, okC_app, okC_ex, okC_ret, okC_retN, okC_ite, okC_for, okE_c, okE_no, okE_v, okE_pk, okE_g, okE_bin, okE_neg, okE_cmp, okE_chain, okE_and, okE_or, okE_not, okE_ite, okE_isi, okE_b1, okE_b2, okE_bm, okE_call, okE_ix, okE_sl, okE_tup, okE_lst, okE_dct, okE_new, okE_lc, okEs_nil, okEs_cons, onVal_val, onOwn_own, onO_some, onO_none, onO_map, onB_bl, onCell_lst, onCell_dct, onInts_int, okO_ok, okE_attr, okE_meth, okE_make, okE_getd, okE_orv, okE_popK, okE_popL, okC_appR, okC_stAt, onNon_non, List.getElem?_cons_zero, List.getElem?_cons_succ, List.set_cons_zero, List.set_cons_succ, isNo, boundC, c_eq, c_lt]
        rcases c1 with c1 | c1 <;> by_cases c2 : ((deep + 1 : Nat) : Int) = 1 <;> simp [c1, c2]
      rw [okC_ite]
      refine cond.mono fun d h' ⟨e1, e2⟩ => ?_
      subst e1 e2
      simp only [onB_bl, if_true]
      by_cases c3 : way % 2 = 0
      · refine okCs_out ?_
        simp (decide := true) only [okCs_nil, okCs_cons, okC_asg, okC_own, okC_stIx, okC_aug, okC_app, okC_ex, okC_ret, okC_retN, okC_ite, okC_for, okE_c, okE_no, okE_v, okE_pk, okE_g, okE_bin, okE_neg, okE_cmp, okE_chain, okE_and, okE_or, okE_not, okE_ite, okE_isi, okE_b1, okE_b2, okE_bm, okE_call, okE_ix, okE_sl, okE_tup, okE_lst, okE_dct, okE_new, okE_lc, okEs_nil, okEs_cons, onVal_val, onOwn_own, onO_some, onO_none, onO_map, onB_bl, onCell_lst, onCell_dct, onInts_int, okO_ok, okE_attr, okE_meth, okE_make, okE_getd, okE_orv, okE_popK, okE_popL, okC_appR, okC_stAt, onNon_non, List.getElem?_cons_zero, List.getElem?_cons_succ, List.set_cons_zero, List.set_cons_succ, isNo, boundC, b_mod (show (0 : Int) < 2 by decide), c_eq, c3, l_lst]
        refine (law_nextU U1.st (size := names.length) (by have := hn.ne; cases names with | nil => exact absurd rfl this | cons _ _ => simp only [List.length_cons]; omega) (by have := hn.le; omega) (by omega)).mono fun r h2 ⟨i, e, i1, i2, U2⟩ => ?_
        subst e
        obtain ⟨d, ed, ld, md⟩ := hn.at i1 i2
        simp only [ix_lst, ed, onO_some]
        exact ⟨(show (2 : Nat) ≤ 16777216 by decide), fun K hK => two hK (slim_atom trivial) (slim_lab ld) (by rw [ld, Bool.and_true, Bool.or_eq_true]; exact .inr (by decide +kernel)), U1.trans U2, by obtain ⟨z, rfl⟩ := lab_str ld; exact ⟨.box z, rfl, md, (show 1 ≤ deep + 1 by omega)⟩⟩
      · refine okCs_step (Γ' := [.val (.ref s), .val (.lst names), .val (.int ((deep + 1 : Nat) : Int)), .val (.int way), .no, .no]) (h' := h') (by simp (decide := true) [okCs_nil, okCs_cons, okC_asg, okC_own, okC_stIx, okC_aug, okC_app, okC_ex, okC_ret, okC_retN, okC_ite, okC_for, okE_c, okE_no, okE_v, okE_pk, okE_g, okE_bin, okE_neg, okE_cmp, okE_chain, okE_and, okE_or, okE_not, okE_ite, okE_isi, okE_b1, okE_b2, okE_bm, okE_call, okE_ix, okE_sl, okE_tup, okE_lst, okE_dct, okE_new, okE_lc, okEs_nil, okEs_cons, onVal_val, onOwn_own, onO_some, onO_none, onO_map, onB_bl, onCell_lst, onCell_dct, onInts_int, okO_ok, okE_attr, okE_meth, okE_make, okE_getd, okE_orv, okE_popK, okE_popL, okC_appR, okC_stAt, onNon_non, List.getElem?_cons_zero, List.getElem?_cons_succ, List.set_cons_zero, List.set_cons_succ, isNo, boundC, b_mod (show (0 : Int) < 2 by decide), c_eq, c3]) ?_
        simp only [okCs_cons, okC_ret, okE_tup, okEs_cons, okEs_nil, okE_c, okE_ix, okE_lst, okE_call, okE_v, List.getElem?_cons_zero, onVal_val]
        refine (law_nextU U1.st (size := 4) (by decide) (by decide) (by omega)).mono fun r h2 ⟨i, e, i1, i2, U2⟩ => ?_
        refine (law_nextU U2.st (size := 1000) (by decide) (by decide) (by omega)).mono fun r3 h3 ⟨j, e3, j1, j2, U3⟩ => ?_
        refine ⟨(show (3 : Nat) ≤ 16777216 by decide), ?_⟩
        refine (law_nextU U3.st (size := 3) (by decide) (by decide) (by omega)).mono fun r4 h4 ⟨l, e4, l1, l2, U4⟩ => ?_
        subst e e3 e4
        have U := ((U1.trans U2).trans U3).trans U4
        have nv : ∀ v : Int, 0 ≤ v → v < 1000 → (isS "number" (.str "number") && valueB (.int v) || isS "box" (.str "number") && labelB (.int v)) = true := fun v v1 v2 => by
          rw [Bool.or_eq_true, Bool.and_eq_true]
          exact .inl ⟨by decide +kernel, by simp [valueB, v1, v2]⟩
        have hl : l = 0 ∨ l = 1 ∨ l = 2 := by omega
        rcases hl with rfl | rfl | rfl
        · simp only [ix_lst, at0, onO_some]
          exact ⟨(show (2 : Nat) ≤ 16777216 by decide), fun K hK => two hK (slim_atom trivial) (slim_atom trivial) (nv i i1 (by omega)), U, .num i, rfl, ⟨i1, by omega⟩, (show 1 ≤ deep + 1 by omega)⟩
        · simp only [ix_lst, at1, onO_some]
          exact ⟨(show (2 : Nat) ≤ 16777216 by decide), fun K hK => two hK (slim_atom trivial) (slim_atom trivial) (nv j j1 j2), U, .num j, rfl, ⟨j1, j2⟩, (show 1 ≤ deep + 1 by omega)⟩
        · simp only [ix_lst, at2, onO_some]
          exact ⟨(show (2 : Nat) ≤ 16777216 by decide), fun K hK => two hK (slim_atom trivial) (slim_atom trivial) (nv 999 (by decide) (by decide)), U, .num 999, rfl, ⟨by decide, by decide⟩, (show 1 ≤ deep + 1 by omega)⟩
    · have d1 : 1 ≤ deep := by omega
      have n1 : ¬ ((deep + 1 : Nat) : Int) = 1 := by omega
      have n2 : ¬ way < 4 := by omega
      refine okCs_step (Γ' := [.val (.ref s), .val (.lst names), .val (.int ((deep + 1 : Nat) : Int)), .val (.int way), .no, .no]) (h' := h1) (by
        simp (decide := true) only [okCs_nil, okCs_cons, okC_asg, okC_own, okC_stIx, okC_aug, okC_app, okC_ex, okC_ret, okC_retN, okC_ite, okC_for, okE_c, okE_no, okE_v, okE_pk, okE_g, okE_bin, okE_neg, okE_cmp, okE_chain, okE_and, okE_or, okE_not, okE_ite, okE_isi, okE_b1, okE_b2, okE_bm, okE_call, okE_ix, okE_sl, okE_tup, okE_lst, okE_dct, okE_new, okE_lc, okEs_nil, okEs_cons, onVal_val, onOwn_own, onO_some, onO_none, onO_map, onB_bl, onCell_lst, onCell_dct, onInts_int, okO_ok, okE_attr, okE_meth, okE_make, okE_getd, okE_orv, okE_popK, okE_popL, okC_appR, okC_stAt, onNon_non, List.getElem?_cons_zero, List.getElem?_cons_succ, List.set_cons_zero, List.set_cons_succ, isNo, boundC, c_eq, c_lt, n1, n2]
        simp) ?_
      rw [okCs_cons]
      simp only [okC_asg, okE_ix, okE_lst, okE_call, okEs_cons, okEs_nil, okE_v, okE_c, List.getElem?_cons_zero, onVal_val]
      refine ⟨(show (5 : Nat) ≤ 16777216 by decide), ?_⟩
      refine (law_nextU U1.st (size := 5) (by decide) (by decide) (by omega)).mono fun r h2 ⟨i, e, i1, i2, U2⟩ => ?_
      subst e
      obtain ⟨j, ej, hj, ea⟩ := at_some (ds := [D.str "+", D.str "-", D.str "*", D.str "<", D.str "="]) i1 i2
      have hs : ∃ z : Str, [D.str "+", D.str "-", D.str "*", D.str "<", D.str "="][j] = .str z ∧ inS signW (.str z) = true := by
        have hj : j < 5 := hj
        have : j = 0 ∨ j = 1 ∨ j = 2 ∨ j = 3 ∨ j = 4 := by omega
        rcases this with rfl | rfl | rfl | rfl | rfl <;> exact ⟨_, rfl, by decide +kernel⟩
      obtain ⟨z, ez, hz⟩ := hs
      rw [ez] at ea
      simp only [ix_lst, ea, onO_some, List.set_cons_succ, List.set_cons_zero]
      rw [okCs_cons]
      have ed : ((deep + 1 : Nat) : Int) - 1 = (deep : Int) := by omega
      simp only [okC_asg, okE_call, okEs_cons, okEs_nil, okE_v, okE_c, okE_bin, b_sub, onO_some, List.getElem?_cons_zero, List.getElem?_cons_succ, onVal_val, ed]
      refine (law_sum_gen deep d1 h2 s names U2.st hn m (by omega)).mono fun r3 h3 ⟨g3, U3, sm3, e3, o3, p3⟩ => ?_
      simp only [okCs_cons, okC_ret, okE_tup, okE_call, okEs_cons, okEs_nil, okE_v, okE_c, okE_bin, b_sub, onO_some, List.getElem?_cons_zero, List.getElem?_cons_succ, List.set_cons_succ, List.set_cons_zero, onVal_val, ed]
      refine (law_sum_gen deep d1 h3 s names U3.st hn m (by omega)).mono fun r4 h4 ⟨g4, U4, sm4, e4, o4, p4⟩ => ?_
      refine ⟨(show (3 : Nat) ≤ 16777216 by decide), fun K hK => ?_, ((U1.trans U2).trans U3).trans U4, .op z sm3 sm4, by rw [e3, e4]; rfl, ⟨mem_inS hz, o3, o4⟩, (show 1 + max sm3.dp sm4.dp ≤ deep + 1 by omega)⟩
      obtain ⟨k, rfl⟩ : ∃ k, K = k + 1 := ⟨K - 1, by omega⟩
      obtain ⟨a1, a2, a3⟩ := g3 k (by omega)
      obtain ⟨b1, b2, b3⟩ := g4 k (by omega)
      refine ⟨slim_mk (by simp) fun d hd => ?_, ?_⟩
      · simp only [List.mem_cons, List.not_mem_nil, or_false] at hd
        rcases hd with rfl | rfl | rfl
        · exact slim_atom trivial k
        · exact a1
        · exact b1
      · have : sumD (k + 1) (.tup [.str z, r3, r4]) = 1 + max (sumD k r3) (sumD k r4) := by
          simp only [sumD, hz, a2, b2, decide_true, Bool.and_self, if_true]
        omega
/-- the room's cell: lines and asks that are left -/
def rmCell (L A : Nat) : Cell := .dct [.inr "lines", .inr "asks"] [.int L, .int A]
/-- only the state's cell and the room's are others -/
structure Upd2 (s q : Nat) (h h' : List Cell) (L A : Nat) : Prop where
  st : stOk h'[s]?
  rm : h'[q]? = some (rmCell L A)
  len : h'.length = h.length
  oth : ∀ j, j ≠ s → j ≠ q → h'[j]? = h[j]?
theorem Upd2.trans {s q : Nat} {h h1 h2 : List Cell} {L A L' A' : Nat} (a : Upd2 s q h h1 L A) (b : Upd2 s q h1 h2 L' A') : Upd2 s q h h2 L' A' := ⟨b.st, b.rm, b.len.trans a.len, fun j hj hq => (b.oth j hj hq).trans (a.oth j hj hq)⟩
theorem Upd2.of {s q : Nat} (hsq : s ≠ q) {h h1 h2 : List Cell} {L A : Nat} (a : Upd2 s q h h1 L A) (b : Upd s h1 h2) : Upd2 s q h h2 L A := ⟨b.st, (b.oth q fun z => hsq z.symm).trans a.rm, b.len.trans a.len, fun j hj hq => (b.oth j hj).trans (a.oth j hj hq)⟩
theorem rm_lines {h : List Cell} {q L A : Nat} (e : h[q]? = some (rmCell L A)) : ixD h (.ref q) (.str "lines") = some (.int L) := by
  unfold ixD
  simp only [dctOf, e, rmCell]
  rfl
theorem rm_asks {h : List Cell} {q L A : Nat} (e : h[q]? = some (rmCell L A)) : ixD h (.ref q) (.str "asks") = some (.int A) := by
  unfold ixD
  simp only [dctOf, e, rmCell]
  rfl
theorem rm_setL {h : List Cell} {q L A : Nat} {v : Nat} (e : h[q]? = some (rmCell L A)) : stIxD h (.ref q) (.str "lines") (.int v) = some (h.set q (rmCell v A)) := by
  unfold stIxD
  simp only [e]
  rfl
theorem rm_setA {h : List Cell} {q L A : Nat} {v : Nat} (e : h[q]? = some (rmCell L A)) : stIxD h (.ref q) (.str "asks") (.int v) = some (h.set q (rmCell L v)) := by
  unfold stIxD
  simp only [e]
  rfl
end DL

set_option linter.all false
set_option Elab.async false
set_option maxRecDepth 100000
set_option maxHeartbeats 4000000
namespace DL
open PySem DC
variable {T : Tb} [Base T]
def LinesSpec (T : Tb) (ifs : Nat) : Prop := ∀ (h : List Cell) (s q : Nat) (names : List D) (L A : Nat) (most : Int) (n : Nat), s ≠ q → stOk h[s]? → h[q]? = some (rmCell L A) → NmOk names → 1 ≤ most → most ≤ 17 → 8 + 2 * (3 - ifs) ≤ n →
  okO (callN T n 14 [.ref s, .lst names, .ref q, .int ifs, .int most] h) fun r h' => ∃ L' A' x y, Upd2 s q h h' L' A' ∧ L' + x = L ∧ A' + y = A ∧ (∃ p : List Ln, r = .tup (toDs p) ∧ oks names p ∧ szs p = x) ∧ ∀ K, 6 + 2 * (3 - ifs) ≤ K → slim K r ∧ linesC K ifs r = some (x, y)
def LineSpec (T : Tb) (ifs : Nat) : Prop := ∀ (h : List Cell) (s q : Nat) (names : List D) (L A : Nat) (n : Nat), s ≠ q → stOk h[s]? → h[q]? = some (rmCell (L + 1) A) → NmOk names → 7 + 2 * (3 - ifs) ≤ n →
  okO (callN T n 13 [.ref s, .lst names, .ref q, .int ifs] h) fun r h' => ∃ L' A' x y, Upd2 s q h h' L' A' ∧ L' + x = L + 1 ∧ A' + y = A ∧ (∃ l : Ln, r = l.toD ∧ l.ok names ∧ l.sz = x) ∧ ∀ K, 5 + 2 * (3 - ifs) ≤ K → slim K r ∧ ∀ last, lineC K (linesC K) ifs last r = some (x, y)
theorem Upd2.refl {s q : Nat} {h : List Cell} {L A : Nat} (hs : stOk h[s]?) (e : h[q]? = some (rmCell L A)) : Upd2 s q h h L A := ⟨hs, e, rfl, fun _ _ _ => rfl⟩
theorem Upd2.set {s q : Nat} {h h1 : List Cell} {L A : Nat} (L' A' : Nat) (hsq : s ≠ q) (a : Upd2 s q h h1 L A) : Upd2 s q h (h1.set q (rmCell L' A')) L' A' := ⟨by rw [List.getElem?_set_ne (fun z => hsq z.symm)]; exact a.st, set_get a.rm, by rw [List.length_set]; exact a.len, fun j hj hq => by rw [List.getElem?_set_ne (fun z => hq z.symm)]; exact a.oth j hj hq⟩
theorem law_sum4 {h : List Cell} {s : Nat} {names : List D} (hs : stOk h[s]?) (hn : NmOk names) {n : Nat} (hm : 6 ≤ n) : okO (callN T n 12 [.ref s, .lst names, .int 4] h) fun r h' => (∀ K, 4 ≤ K → slim K r ∧ sumOk K r = true) ∧ Upd s h h' ∧ ∃ sm : Sm, r = sm.toD ∧ sm.okd names := by
  have g := law_sum_gen (T := T) 4 (by decide) h s names hs hn n (by omega)
  refine okO.mono g fun r h' ⟨q, U, V⟩ => ⟨fun K hK => ?_, U, let ⟨sm, e, o, p⟩ := V; ⟨sm, e, o, p⟩⟩
  obtain ⟨a, b, c⟩ := q K hK
  refine ⟨a, ?_⟩
  unfold sumOk
  rw [Bool.and_eq_true, decide_eq_true_eq, decide_eq_true_eq]
  exact ⟨b, by omega⟩
theorem sumE {Γ : List Slot} {h : List Cell} {s : Nat} {names : List D} {m : Nat} {Q : D → List Cell → Prop} (g0 : Γ[0]? = some (.val (.ref s))) (g1 : Γ[1]? = some (.val (.lst names))) (hs : stOk h[s]?) (hn : NmOk names) (hm : 6 ≤ m) (k : ∀ (sm : Sm) h', sm.okd names → (∀ K, 4 ≤ K → slim K sm.toD ∧ sumOk K sm.toD = true) → Upd s h h' → Q sm.toD h') : okE T (callN T m) (.call 12 [(.v 0), (.v 1), (.c (.int 4))]) Γ h Q := by
  simp only [okE_call, okEs_cons, okEs_nil, okE_v, okE_c, g0, g1, onVal_val]
  exact (law_sum4 hs hn hm).mono fun r h' ⟨a, b, sm, e, o⟩ => by subst e; exact k sm h' o a b
theorem pickE {Γ : List Slot} {h : List Cell} {s : Nat} {names : List D} {m : Nat} {Q : D → List Cell → Prop} (g0 : Γ[0]? = some (.val (.ref s))) (g1 : Γ[1]? = some (.val (.lst names))) (hs : stOk h[s]?) (hn : NmOk names) (hm : 1 ≤ m) (k : ∀ (z : Str) h', labelB (.str z) = true → D.str z ∈ names → Upd s h h' → Q (.str z) h') : okE T (callN T m) (.ix (.v 1) (.call 10 [(.v 0), (.b1 .len (.v 1))])) Γ h Q := by
  simp only [okE_ix, okE_call, okEs_cons, okEs_nil, okE_v, okE_b1, g0, g1, onVal_val, l_lst, onO_some]
  refine (law_nextU hs (size := names.length) (by have := hn.ne; cases names with | nil => exact absurd rfl this | cons _ _ => simp only [List.length_cons]; omega) (by have := hn.le; omega) hm).mono fun r h2 ⟨i, e, i1, i2, U2⟩ => ?_
  subst e
  obtain ⟨d, ed, ld, md⟩ := hn.at i1 i2
  obtain ⟨z, rfl⟩ := lab_str ld
  simp only [ix_lst, ed, onO_some]
  exact k z h2 ld md U2
theorem lineC_let {K : Nat} {sub : Int → D → Option (Nat × Nat)} {ifs : Int} {last : Bool} {b c : D} (hb : labelB b = true) (hc : sumOk K c = true) : lineC K sub ifs last (.tup [.str "let", b, c]) = some (1, 0) := by
  have e1 : isS "get" (.str "let") = false := by decide +kernel
  have e2 : inS ["put", "let"] (.str "let") = true := by decide +kernel
  have e3 : isS "put" (.str "let") = false := by decide +kernel
  simp [lineC, e1, e2, e3, hb, hc]
theorem lineC_put {K : Nat} {sub : Int → D → Option (Nat × Nat)} {ifs : Int} {last : Bool} {b c : D} (hb : labelB b = true) (hc : sumOk K c = true) : lineC K sub ifs last (.tup [.str "put", b, c]) = some (1, 1) := by
  have e1 : isS "get" (.str "put") = false := by decide +kernel
  have e2 : inS ["put", "let"] (.str "put") = true := by decide +kernel
  have e3 : isS "put" (.str "put") = true := by decide +kernel
  simp [lineC, e1, e2, e3, hb, hc]
theorem lineC_get {K : Nat} {sub : Int → D → Option (Nat × Nat)} {ifs : Int} {last : Bool} {b c : D} (hb : labelB b = true) (hc : labelB c = true) : lineC K sub ifs last (.tup [.str "get", b, c]) = some (1, 1) := by
  have e1 : isS "get" (.str "get") = true := by decide +kernel
  simp [lineC, e1, hb, hc]
theorem lineC_if {K : Nat} {sub : Int → D → Option (Nat × Nat)} {ifs : Int} {last : Bool} {b c e : D} {x y x' y' : Nat} (hi : ifs < 3) (hb : sumOk K b = true) (hc : sub (ifs + 1) c = some (x, y)) (he : sub (ifs + 1) e = some (x', y')) : lineC K sub ifs last (.tup [.str "if", b, c, e]) = some (1 + x + x', y + y') := by
  have e1 : isS "if" (.str "if") = true := by decide +kernel
  simp [lineC, e1, hb, hc, he, hi]
theorem slim3 {K : Nat} {a b c : D} (ha : slim K a) (hb : slim K b) (hc : slim K c) : slim (K + 1) (.tup [a, b, c]) := slim_mk (by simp) fun d hd => by
  simp only [List.mem_cons, List.not_mem_nil, or_false] at hd
  rcases hd with rfl | rfl | rfl <;> assumption
theorem slim4 {K : Nat} {a b c e : D} (ha : slim K a) (hb : slim K b) (hc : slim K c) (he : slim K e) : slim (K + 1) (.tup [a, b, c, e]) := slim_mk (by simp) fun d hd => by
  simp only [List.mem_cons, List.not_mem_nil, or_false] at hd
  rcases hd with rfl | rfl | rfl | rfl <;> assumption
theorem line_of (ifs : Nat) (hi : ifs ≤ 3) (ih : ifs < 3 → LinesSpec T (ifs + 1)) : LineSpec T ifs := by
  intro h s q names L A n hsq hs hq hn hm
  obtain ⟨m, rfl⟩ : ∃ m, n = m + 1 := ⟨n - 1, by omega⟩
  refine ok_call (n := m) (F := ⟨4, 7, b13⟩) Base.f13 rfl ?_
  show okCs T (callN T m) b13 [.val (.ref s), .val (.lst names), .val (.ref q), .val (.int ifs), .no, .no, .no] h _ _
  unfold b13
  have e1 : ((L + 1 : Nat) : Int) - 1 = (L : Int) := by omega
  refine okCs_step (Γ' := [.val (.ref s), .val (.lst names), .val (.ref q), .val (.int ifs), .no, .no, .no]) (h' := h.set q (rmCell L A)) (by
    simp only [okCs_nil, okCs_cons, okC_asg, okC_own, okC_stIx, okC_aug, okC_app, okC_ex, okC_ret, okC_retN, okC_ite, okC_for, okE_c, okE_no, okE_v, okE_pk, okE_g, okE_bin, okE_neg, okE_cmp, okE_chain, okE_and, okE_or, okE_not, okE_ite, okE_isi, okE_b1, okE_b2, okE_bm, okE_call, okE_ix, okE_sl, okE_tup, okE_lst, okE_dct, okE_new, okE_lc, okEs_nil, okEs_cons, onVal_val, onOwn_own, onO_some, onO_none, onO_map, onB_bl, onCell_lst, onCell_dct, onInts_int, okO_ok, okE_attr, okE_meth, okE_make, okE_getd, okE_orv, okE_popK, okE_popL, okC_appR, okC_stAt, onNon_non, List.getElem?_cons_zero, List.getElem?_cons_succ, List.set_cons_zero, List.set_cons_succ, isNo, boundC, rm_lines hq, b_sub, e1, rm_setL hq]
    exact ⟨trivial, trivial⟩) ?_
  have U0 : Upd2 s q h (h.set q (rmCell L A)) L A := (Upd2.refl hs hq).set L A hsq
  generalize h.set q (rmCell L A) = h1 at U0 ⊢
  rw [okCs_cons]
  simp only [okC_asg, okE_call, okEs_cons, okEs_nil, okE_v, okE_c, List.getElem?_cons_zero, onVal_val]
  refine (law_nextU U0.st (size := 8) (by decide) (by decide) (by omega)).mono fun r h2 ⟨way, e, w1, w2, V⟩ => ?_
  subst e
  simp only [List.set_cons_succ, List.set_cons_zero]
  have U1 := U0.of hsq V
  clear U0 V
  by_cases c1 : 5 < way ∧ ifs < 3
  · refine okCs_out ?_
    have cond : okE T (callN T m) (.and (.cmp .gt (.v 4) (.c (.int 5))) (.cmp .lt (.v 3) (.c (.int 3)))) [.val (.ref s), .val (.lst names), .val (.ref q), .val (.int ifs), .val (.int way), .no, .no] h2 (fun d h' => d = .bl true ∧ h' = h2) := by
      have c2 : (ifs : Int) < 3 := by omega
      simp (decide := true) [okCs_nil, okCs_cons, okC_asg, okC_own, okC_stIx, okC_aug, okC_app, okC_ex, okC_ret, okC_retN, okC_ite, okC_for, okE_c, okE_no, okE_v, okE_pk, okE_g, okE_bin, okE_neg, okE_cmp, okE_chain, okE_and, okE_or, okE_not, okE_ite, okE_isi, okE_b1, okE_b2, okE_bm, okE_call, okE_ix, okE_sl, okE_tup, okE_lst, okE_dct, okE_new, okE_lc, okEs_nil, okEs_cons, onVal_val, onOwn_own, onO_some, onO_none, onO_map, onB_bl, onCell_lst, onCell_dct, onInts_int, okO_ok, okE_attr, okE_meth, okE_make, okE_getd, okE_orv, okE_popK, okE_popL, okC_appR, okC_stAt, onNon_non, List.getElem?_cons_zero, List.getElem?_cons_succ, List.set_cons_zero, List.set_cons_succ, isNo, boundC, c_gt, c_lt, c1.1, c2]
    rw [okC_ite]
    refine cond.mono fun d h' ⟨e1, e2⟩ => ?_
    subst e1 e2
    have ei : (ifs : Int) + 1 = ((ifs + 1 : Nat) : Int) := by omega
    simp only [onB_bl, if_true]
    rw [okCs_cons]
    simp only [okC_asg, okE_call, okEs_cons, okEs_nil, okE_v, okE_c, okE_bin, List.getElem?_cons_zero, List.getElem?_cons_succ, onVal_val, b_add, onO_some, ei]
    refine (ih c1.2 h' s q names L A 5 m hsq U1.st U1.rm hn (by decide) (by decide) (by omega)).mono fun r3 h3 ⟨L3, A3, x3, y3, U3, eL3, eA3, ⟨p3, e3, o3, z3⟩, g3⟩ => ?_
    subst e3
    simp only [List.set_cons_succ, List.set_cons_zero]
    simp only [okCs_cons, okC_ret, okE_tup, okEs_cons, okEs_nil, okE_c]
    refine sumE rfl rfl U3.st hn (by omega) fun r4 h4 o4 g4 U4 => ?_
    have U5 := U3.of hsq U4
    simp only [okE_call, okEs_cons, okEs_nil, okE_v, okE_c, okE_bin, List.getElem?_cons_zero, List.getElem?_cons_succ, onVal_val, b_add, onO_some, ei]
    refine (ih c1.2 h4 s q names L3 A3 4 m hsq U5.st U5.rm hn (by decide) (by decide) (by omega)).mono fun r6 h6 ⟨L6, A6, x6, y6, U6, eL6, eA6, ⟨p6, e6, o6, z6⟩, g6⟩ => ?_
    subst e6
    refine ⟨(show (4 : Nat) ≤ 16777216 by decide), L6, A6, 1 + x3 + x6, y3 + y6, (U1.trans U5).trans U6, by omega, by omega, ⟨.iff r4 p3 p6, rfl, ⟨o4, o3, o6⟩, by show 1 + szs p3 + szs p6 = _; omega⟩, fun K hK => ?_⟩
    obtain ⟨k, rfl⟩ : ∃ k, K = k + 1 := ⟨K - 1, by omega⟩
    refine ⟨slim4 (slim_atom trivial k) (g4 k (by omega)).1 (g3 k (by omega)).1 (g6 k (by omega)).1, fun last => ?_⟩
    refine lineC_if (by omega) (g4 (k + 1) (by omega)).2 ?_ ?_
    · rw [ei]
      exact (g3 (k + 1) (by omega)).2
    · rw [ei]
      exact (g6 (k + 1) (by omega)).2
  · have cond : okE T (callN T m) (.and (.cmp .gt (.v 4) (.c (.int 5))) (.cmp .lt (.v 3) (.c (.int 3)))) [.val (.ref s), .val (.lst names), .val (.ref q), .val (.int ifs), .val (.int way), .no, .no] h2 (fun d h' => d = .bl false ∧ h' = h2) := by
      simp (decide := true) only [okCs_nil, okCs_cons, okC_asg, okC_own, okC_stIx, okC_aug, okC_app, okC_ex, okC_ret, okC_retN, okC_ite, okC_for, okE_c, okE_no, okE_v, okE_pk, okE_g, okE_bin, okE_neg, okE_cmp, okE_chain, okE_and, okE_or, okE_not, okE_ite, okE_isi, okE_b1, okE_b2, okE_bm, okE_call, okE_ix, okE_sl, okE_tup, okE_lst, okE_dct, okE_new, okE_lc, okEs_nil, okEs_cons, onVal_val, onOwn_own, onO_some, onO_none, onO_map, onB_bl, onCell_lst, onCell_dct, onInts_int, okO_ok, okE_attr, okE_meth, okE_make, okE_getd, okE_orv, okE_popK, okE_popL, okC_appR, okC_stAt, onNon_non, List.getElem?_cons_zero, List.getElem?_cons_succ, List.set_cons_zero, List.set_cons_succ, isNo, boundC, c_gt, c_lt]
      by_cases c2 : 5 < way
      · have c3 : ¬ (ifs : Int) < 3 := by omega
        simp [c2, c3]
      · simp [c2]
    refine okCs_step (Γ' := [.val (.ref s), .val (.lst names), .val (.ref q), .val (.int ifs), .val (.int way), .no, .no]) (h' := h2) (by
      rw [okC_ite]
      refine cond.mono fun d h' ⟨e1, e2⟩ => ?_
      subst e1 e2
      simp only [onB_bl, Bool.false_eq_true, if_false, okCs_nil]
      exact ⟨trivial, trivial⟩) ?_
    rw [okCs_cons, okC_asg]
    refine pickE rfl rfl U1.st hn (by omega) fun nm h3 ln mn U3 => ?_
    have U4 := U1.of hsq U3
    clear U1 U3 cond
    simp only [List.set_cons_succ, List.set_cons_zero]
    by_cases c2 : 5 ≤ way ∨ A = 0
    · refine okCs_out ?_
      have cond : okE T (callN T m) (.or (.cmp .eq (.v 4) (.c (.int 5))) (.or (.cmp .gt (.v 4) (.c (.int 5))) (.cmp .eq (.ix (.v 2) (.c (.str "asks"))) (.c (.int 0))))) [.val (.ref s), .val (.lst names), .val (.ref q), .val (.int ifs), .val (.int way), .val (.str nm), .no] h3 (fun d h' => d = .bl true ∧ h' = h3) := by
        simp (decide := true) only [okCs_nil, okCs_cons, okC_asg, okC_own, okC_stIx, okC_aug, okC_app, okC_ex, okC_ret, okC_retN, okC_ite, okC_for, okE_c, okE_no, okE_v, okE_pk, okE_g, okE_bin, okE_neg, okE_cmp, okE_chain, okE_and, okE_or, okE_not, okE_ite, okE_isi, okE_b1, okE_b2, okE_bm, okE_call, okE_ix, okE_sl, okE_tup, okE_lst, okE_dct, okE_new, okE_lc, okEs_nil, okEs_cons, onVal_val, onOwn_own, onO_some, onO_none, onO_map, onB_bl, onCell_lst, onCell_dct, onInts_int, okO_ok, okE_attr, okE_meth, okE_make, okE_getd, okE_orv, okE_popK, okE_popL, okC_appR, okC_stAt, onNon_non, List.getElem?_cons_zero, List.getElem?_cons_succ, List.set_cons_zero, List.set_cons_succ, isNo, boundC, c_gt, c_eq, rm_asks U4.rm]
        by_cases d1 : way = 5 <;> by_cases d2 : 5 < way <;> by_cases d3 : (A : Int) = 0 <;> simp [d1, d2, d3] <;> omega
      rw [okC_ite]
      refine cond.mono fun d h' ⟨e1, e2⟩ => ?_
      subst e1 e2
      simp only [onB_bl, if_true]
      simp only [okCs_cons, okC_ret, okE_tup, okEs_cons, okEs_nil, okE_c, okE_v, List.getElem?_cons_zero, List.getElem?_cons_succ, onVal_val]
      refine sumE rfl rfl U4.st hn (by omega) fun r5 h5 o5 g5 U5 => ?_
      refine ⟨(show (3 : Nat) ≤ 16777216 by decide), L, A, 1, 0, U4.of hsq U5, by omega, by omega, ⟨.lt nm r5, rfl, ⟨mn, o5⟩, rfl⟩, fun K hK => ?_⟩
      obtain ⟨k, rfl⟩ : ∃ k, K = k + 1 := ⟨K - 1, by omega⟩
      exact ⟨slim3 (slim_atom trivial k) (slim_lab ln k) (g5 k (by omega)).1, fun last => lineC_let ln (g5 (k + 1) (by omega)).2⟩
    · have cond : okE T (callN T m) (.or (.cmp .eq (.v 4) (.c (.int 5))) (.or (.cmp .gt (.v 4) (.c (.int 5))) (.cmp .eq (.ix (.v 2) (.c (.str "asks"))) (.c (.int 0))))) [.val (.ref s), .val (.lst names), .val (.ref q), .val (.int ifs), .val (.int way), .val (.str nm), .no] h3 (fun d h' => d = .bl false ∧ h' = h3) := by
        have d1 : ¬ way = 5 := by omega
        have d2 : ¬ 5 < way := by omega
        have d3 : ¬ (A : Int) = 0 := by omega
        simp (decide := true) only [okCs_nil, okCs_cons, okC_asg, okC_own, okC_stIx, okC_aug, okC_app, okC_ex, okC_ret, okC_retN, okC_ite, okC_for, okE_c, okE_no, okE_v, okE_pk, okE_g, okE_bin, okE_neg, okE_cmp, okE_chain, okE_and, okE_or, okE_not, okE_ite, okE_isi, okE_b1, okE_b2, okE_bm, okE_call, okE_ix, okE_sl, okE_tup, okE_lst, okE_dct, okE_new, okE_lc, okEs_nil, okEs_cons, onVal_val, onOwn_own, onO_some, onO_none, onO_map, onB_bl, onCell_lst, onCell_dct, onInts_int, okO_ok, okE_attr, okE_meth, okE_make, okE_getd, okE_orv, okE_popK, okE_popL, okC_appR, okC_stAt, onNon_non, List.getElem?_cons_zero, List.getElem?_cons_succ, List.set_cons_zero, List.set_cons_succ, isNo, boundC, c_gt, c_eq, rm_asks U4.rm]
        simp [d1, d2]
        omega
      refine okCs_step (Γ' := [.val (.ref s), .val (.lst names), .val (.ref q), .val (.int ifs), .val (.int way), .val (.str nm), .no]) (h' := h3) (by
        rw [okC_ite]
        refine cond.mono fun d h' ⟨e1, e2⟩ => ?_
        subst e1 e2
        simp only [onB_bl, Bool.false_eq_true, if_false, okCs_nil]
        exact ⟨trivial, trivial⟩) ?_
      obtain ⟨B, rfl⟩ : ∃ B, A = B + 1 := ⟨A - 1, by omega⟩
      have e2 : ((B + 1 : Nat) : Int) - 1 = (B : Int) := by omega
      refine okCs_step (Γ' := [.val (.ref s), .val (.lst names), .val (.ref q), .val (.int ifs), .val (.int way), .val (.str nm), .no]) (h' := h3.set q (rmCell L B)) (by
        simp only [okCs_nil, okCs_cons, okC_asg, okC_own, okC_stIx, okC_aug, okC_app, okC_ex, okC_ret, okC_retN, okC_ite, okC_for, okE_c, okE_no, okE_v, okE_pk, okE_g, okE_bin, okE_neg, okE_cmp, okE_chain, okE_and, okE_or, okE_not, okE_ite, okE_isi, okE_b1, okE_b2, okE_bm, okE_call, okE_ix, okE_sl, okE_tup, okE_lst, okE_dct, okE_new, okE_lc, okEs_nil, okEs_cons, onVal_val, onOwn_own, onO_some, onO_none, onO_map, onB_bl, onCell_lst, onCell_dct, onInts_int, okO_ok, okE_attr, okE_meth, okE_make, okE_getd, okE_orv, okE_popK, okE_popL, okC_appR, okC_stAt, onNon_non, List.getElem?_cons_zero, List.getElem?_cons_succ, List.set_cons_zero, List.set_cons_succ, isNo, boundC, rm_asks U4.rm, b_sub, e2, rm_setA U4.rm]
        exact ⟨trivial, trivial⟩) ?_
      have U5 := U4.set L B hsq
      generalize h3.set q (rmCell L B) = h4 at U5 ⊢
      by_cases c3 : way < 3
      · refine okCs_out ?_
        simp only [okC_ite, okE_cmp, okE_v, okE_c, List.getElem?_cons_zero, List.getElem?_cons_succ, onVal_val, c_lt, onO_some, c3, decide_true, onB_bl, if_true]
        simp only [okCs_cons, okC_ret, okE_tup, okEs_cons, okEs_nil, okE_c, okE_v, List.getElem?_cons_zero, List.getElem?_cons_succ, onVal_val]
        refine pickE rfl rfl U5.st hn (by omega) fun r6 h6 g6 m6 U6 => ?_
        refine ⟨(show (3 : Nat) ≤ 16777216 by decide), L, B, 1, 1, U5.of hsq U6, by omega, by omega, ⟨.get nm r6, rfl, ⟨mn, m6⟩, rfl⟩, fun K hK => ?_⟩
        obtain ⟨k, rfl⟩ : ∃ k, K = k + 1 := ⟨K - 1, by omega⟩
        exact ⟨slim3 (slim_atom trivial k) (slim_lab ln k) (slim_lab g6 k), fun last => lineC_get ln g6⟩
      · refine okCs_step (Γ' := [.val (.ref s), .val (.lst names), .val (.ref q), .val (.int ifs), .val (.int way), .val (.str nm), .no]) (h' := h4) (by
          simp only [okC_ite, okE_cmp, okE_v, okE_c, List.getElem?_cons_zero, List.getElem?_cons_succ, onVal_val, c_lt, onO_some, c3, decide_false, onB_bl, Bool.false_eq_true, if_false, okCs_nil]
          exact ⟨trivial, trivial⟩) ?_
        simp only [okCs_cons, okC_ret, okE_tup, okEs_cons, okEs_nil, okE_c, okE_v, List.getElem?_cons_zero, List.getElem?_cons_succ, onVal_val]
        refine sumE rfl rfl U5.st hn (by omega) fun r6 h6 o6 g6 U6 => ?_
        refine ⟨(show (3 : Nat) ≤ 16777216 by decide), L, B, 1, 1, U5.of hsq U6, by omega, by omega, ⟨.put nm r6, rfl, ⟨mn, o6⟩, rfl⟩, fun K hK => ?_⟩
        obtain ⟨k, rfl⟩ : ∃ k, K = k + 1 := ⟨K - 1, by omega⟩
        exact ⟨slim3 (slim_atom trivial k) (slim_lab ln k) (g6 k (by omega)).1, fun last => lineC_put ln (g6 (k + 1) (by omega)).2⟩
theorem goL_put {f : Bool → D → Option (Nat × Nat)} {d : D} {ds : List D} {a b a' b' : Nat} (e1 : f ds.isEmpty d = some (a, b)) (e2 : goL f ds = some (a', b')) : goL f (d :: ds) = some (a + a', b + b') := by
  rw [goL, e1, e2]
/-- what the loop of _law_lines has kept so far -/
structure Kept (names : List D) (ifs : Nat) (x y : Nat) (acc : List D) : Prop where
  ln : ∃ p : List Ln, acc = toDs p ∧ oks names p ∧ szs p = x
  gd : ∀ K, 5 + 2 * (3 - ifs) ≤ K → ∀ d ∈ acc, slim K d
  go : ∀ K, 5 + 2 * (3 - ifs) ≤ K → ∀ tail a b, goL (lineC K (linesC K) ifs) tail = some (a, b) → goL (lineC K (linesC K) ifs) (acc ++ tail) = some (x + a, y + b)
theorem Kept.nil {names : List D} {ifs : Nat} : Kept names ifs 0 0 [] := ⟨⟨[], rfl, trivial, rfl⟩, fun _ _ _ h => absurd h List.not_mem_nil, fun K _ tail a b e => by simpa using e⟩
theorem Kept.snoc {names : List D} {ifs x y a b : Nat} {acc : List D} {d : D} (o : Kept names ifs x y acc) (hl : ∃ l : Ln, d = l.toD ∧ l.ok names ∧ l.sz = a) (h : ∀ K, 5 + 2 * (3 - ifs) ≤ K → slim K d ∧ ∀ last, lineC K (linesC K) ifs last d = some (a, b)) : Kept names ifs (x + a) (y + b) (acc ++ [d]) := by
  obtain ⟨p, e1, e2, e3⟩ := o.ln
  obtain ⟨l, f1, f2, f3⟩ := hl
  refine ⟨⟨p ++ [l], by rw [toDs_app, e1, f1]; rfl, oks_app e2 ⟨f2, trivial⟩, by rw [szs_app, e3, ← f3]; rfl⟩, fun K hK d' hd => ?_, fun K hK tail a' b' e => ?_⟩
  · rcases List.mem_append.mp hd with q | q
    · exact o.gd K hK d' q
    · rw [List.mem_singleton.mp q]
      exact (h K hK).1
  · rw [List.append_assoc, List.singleton_append, o.go K hK (d :: tail) (a + a') (b + b') (goL_put ((h K hK).2 _) e), Nat.add_assoc, Nat.add_assoc]
theorem Kept.lnT {names : List D} {ifs x y : Nat} {acc : List D} (o : Kept names ifs x y acc) : ∃ p : List Ln, D.tup acc = .tup (toDs p) ∧ oks names p ∧ szs p = x := by
  obtain ⟨p, e1, e2, e3⟩ := o.ln
  exact ⟨p, by rw [e1], e2, e3⟩
theorem Kept.fin {names : List D} {ifs x y : Nat} {acc : List D} (o : Kept names ifs x y acc) (hl : acc.length ≤ 999) (K : Nat) (hK : 6 + 2 * (3 - ifs) ≤ K) : slim K (.tup acc) ∧ linesC K ifs (.tup acc) = some (x, y) := by
  obtain ⟨k, rfl⟩ : ∃ k, K = k + 1 := ⟨K - 1, by omega⟩
  refine ⟨slim_mk hl (o.gd k (by omega)), ?_⟩
  have := o.go k (by omega) [] 0 0 rfl
  rw [List.append_nil] at this
  exact this
theorem Kept.last {names : List D} {ifs x y : Nat} {acc : List D} {w : Str} (hw : w = "end" ∨ w = "drop") (o : Kept names ifs x y acc) (hl : acc.length ≤ 998) (K : Nat) (hK : 6 + 2 * (3 - ifs) ≤ K) : slim K (.tup (acc ++ [.tup [.str w]])) ∧ linesC K ifs (.tup (acc ++ [.tup [.str w]])) = some (x + 1, y) := by
  obtain ⟨k, rfl⟩ : ∃ k, K = k + 1 := ⟨K - 1, by omega⟩
  refine ⟨slim_mk (by rw [List.length_append]; simp only [List.length_singleton]; omega) fun d hd => ?_, ?_⟩
  · rcases List.mem_append.mp hd with q | q
    · exact o.gd k (by omega) d q
    · rw [List.mem_singleton.mp q]
      obtain ⟨j, rfl⟩ : ∃ j, k = j + 1 := ⟨k - 1, by omega⟩
      refine slim_mk (by simp) fun e he => ?_
      rw [List.mem_singleton.mp he]
      exact slim_atom trivial j
  · have e1 : (isS "end" (.str w) || isS "drop" (.str w)) = true := by rcases hw with rfl | rfl <;> decide +kernel
    exact o.go k (by omega) [.tup [.str w]] 1 0 (by simp [goL, lineC, e1])
theorem tup_lst {h : List Cell} {ds : List D} : b1D .tuple h (.lst ds) = some (.tup ds) := rfl
theorem lines_of (ifs : Nat) (il : LineSpec T ifs) : LinesSpec T ifs := by
  intro h s q names L A most n hsq hs hq hn m1 m2 hm
  obtain ⟨m, rfl⟩ : ∃ m, n = m + 1 := ⟨n - 1, by omega⟩
  refine ok_call (n := m) (F := ⟨5, 7, b14⟩) Base.f14 rfl ?_
  show okCs T (callN T m) b14 [.val (.ref s), .val (.lst names), .val (.ref q), .val (.int ifs), .val (.int most), .no, .no] h _ _
  unfold b14
  refine okCs_step (Γ' := [.val (.ref s), .val (.lst names), .val (.ref q), .val (.int ifs), .val (.int most), .own (.lst []), .no]) (h' := h) (by
    simp only [okCs_nil, okCs_cons, okC_asg, okC_own, okC_stIx, okC_aug, okC_app, okC_ex, okC_ret, okC_retN, okC_ite, okC_for, okE_c, okE_no, okE_v, okE_pk, okE_g, okE_bin, okE_neg, okE_cmp, okE_chain, okE_and, okE_or, okE_not, okE_ite, okE_isi, okE_b1, okE_b2, okE_bm, okE_call, okE_ix, okE_sl, okE_tup, okE_lst, okE_dct, okE_new, okE_lc, okEs_nil, okEs_cons, onVal_val, onOwn_own, onO_some, onO_none, onO_map, onB_bl, onCell_lst, onCell_dct, onInts_int, okO_ok, okE_attr, okE_meth, okE_make, okE_getd, okE_orv, okE_popK, okE_popL, okC_appR, okC_stAt, onNon_non, List.getElem?_cons_zero, List.getElem?_cons_succ, List.set_cons_zero, List.set_cons_succ, isNo, boundC]
    exact ⟨(show (0 : Nat) ≤ 16777216 by decide), trivial, trivial⟩) ?_
  rw [okCs_cons, okC_for]
  simp only [okEs_cons, okEs_nil, okE_call, okE_v, okE_c, List.getElem?_cons_zero, List.getElem?_cons_succ, onVal_val]
  refine (law_nextU hs (size := most) (by omega) (by omega) (by omega)).mono fun r h1 ⟨i, e, i1, i2, V⟩ => ?_
  subst e
  have ei : itemsOf .range1 h1 [.int i] = some ((List.range i.toNat).map fun (j : Nat) => .int (j : Int)) := by
    simp only [itemsOf]
    rw [if_pos (by omega)]
  simp only [ei, onO_some]
  have U1 : Upd2 s q h h1 L A := (Upd2.refl hs hq).of hsq V
  clear V ei
  refine for_inv (fun j Γ h' => ∃ L' A' x y acc s6, Γ = [.val (.ref s), .val (.lst names), .val (.ref q), .val (.int ifs), .val (.int most), .own (.lst acc), s6] ∧ Upd2 s q h h' L' A' ∧ L' + x = L ∧ A' + y = A ∧ acc.length ≤ j ∧ Kept names ifs x y acc) (i := 0) ⟨L, A, 0, 0, [], .no, rfl, U1, rfl, rfl, Nat.le_refl _, Kept.nil⟩ ?_ ?_
  · rintro j d Γ h2 ed ⟨L2, A2, x2, y2, acc, s6, rfl, U2, eL, eA, hl, kp⟩
    have hj : j < 17 := by
      have := (List.getElem?_eq_some_iff.mp ed).1
      rw [List.length_map, List.length_range] at this
      omega
    rw [okS_forF]
    simp only [setTg, List.set_cons_succ, List.set_cons_zero, onO_some, okCs_cons, okCs_nil, okC_ite, okE_cmp, okE_ix, okE_v, okE_c, List.getElem?_cons_zero, List.getElem?_cons_succ, onVal_val, rm_lines U2.rm, c_gt, onB_bl]
    match L2, U2, eL with
    | 0, U2, eL =>
      rw [if_neg (by simp)]
      exact ⟨0, A2, x2, y2, acc, _, rfl, U2, eL, eA, by omega, kp⟩
    | L3 + 1, U2, eL =>
      rw [if_pos (by rw [decide_eq_true_eq]; omega)]
      simp only [okC_app, List.getElem?_cons_zero, List.getElem?_cons_succ, onOwn_own, okE_call, okEs_cons, okEs_nil, okE_v, onVal_val]
      refine (il h2 s q names L3 A2 m hsq U2.st U2.rm hn (by omega)).mono fun r h4 ⟨L4, A4, x4, y4, U4, eL4, eA4, l4, g4⟩ => ?_
      refine ⟨(show acc.length < 16777216 by omega), L4, A4, x2 + x4, y2 + y4, acc ++ [r], _, rfl, U2.trans U4, by omega, by omega, ?_, kp.snoc l4 g4⟩
      rw [List.length_append, List.length_singleton]
      omega
  · rintro Γ h2 ⟨L2, A2, x2, y2, acc, s6, rfl, U2, eL, eA, hl, kp⟩
    have hl : acc.length ≤ 17 := by
      rw [List.length_map, List.length_range] at hl
      omega
    by_cases c1 : L2 = 0
    · subst c1
      refine okCs_step (Γ' := [.val (.ref s), .val (.lst names), .val (.ref q), .val (.int ifs), .val (.int most), .own (.lst acc), s6]) (h' := h2) (by
        simp only [okC_ite, okE_and, okE_cmp, okE_ix, okE_v, okE_c, List.getElem?_cons_zero, List.getElem?_cons_succ, onVal_val, rm_lines U2.rm, c_gt, onB_bl, onO_some]
        rw [if_neg (by simp)]
        simp only [onB_bl, Bool.false_eq_true, if_false, okCs_nil]
        exact ⟨trivial, trivial⟩) ?_
      simp only [okCs_cons, okC_ret, okE_b1, okE_pk, List.getElem?_cons_zero, List.getElem?_cons_succ, onOwn_own, Cell.toD, tup_lst, onO_some]
      exact ⟨0, A2, x2, y2, U2, eL, eA, kp.lnT, kp.fin (by omega)⟩
    · obtain ⟨L3, rfl⟩ : ∃ L3, L2 = L3 + 1 := ⟨L2 - 1, by omega⟩
      rw [okCs_cons]
      simp only [okC_ite, okE_and, okE_cmp, okE_ix, okE_v, okE_c, List.getElem?_cons_zero, List.getElem?_cons_succ, onVal_val, rm_lines U2.rm, c_gt, onB_bl, onO_some]
      rw [if_pos (by rw [decide_eq_true_eq]; omega)]
      simp only [okE_call, okEs_cons, okEs_nil, okE_v, okE_c, List.getElem?_cons_zero, onVal_val]
      refine (law_nextU U2.st (size := 6) (by decide) (by decide) (by omega)).mono fun r h4 ⟨w, e, w1, w2, V⟩ => ?_
      subst e
      have U4 := U2.of hsq V
      simp only [c_eq, onO_some, onB_bl]
      by_cases c2 : w = 0
      · rw [if_pos (by rw [decide_eq_true_eq]; exact c2)]
        have e1 : ((L3 + 1 : Nat) : Int) - 1 = (L3 : Int) := by omega
        refine okCs_step (Γ' := [.val (.ref s), .val (.lst names), .val (.ref q), .val (.int ifs), .val (.int most), .own (.lst acc), s6]) (h' := h4.set q (rmCell L3 A2)) (by
          simp only [okCs_nil, okCs_cons, okC_asg, okC_own, okC_stIx, okC_aug, okC_app, okC_ex, okC_ret, okC_retN, okC_ite, okC_for, okE_c, okE_no, okE_v, okE_pk, okE_g, okE_bin, okE_neg, okE_cmp, okE_chain, okE_and, okE_or, okE_not, okE_ite, okE_isi, okE_b1, okE_b2, okE_bm, okE_call, okE_ix, okE_sl, okE_tup, okE_lst, okE_dct, okE_new, okE_lc, okEs_nil, okEs_cons, onVal_val, onOwn_own, onO_some, onO_none, onO_map, onB_bl, onCell_lst, onCell_dct, onInts_int, okO_ok, okE_attr, okE_meth, okE_make, okE_getd, okE_orv, okE_popK, okE_popL, okC_appR, okC_stAt, onNon_non, List.getElem?_cons_zero, List.getElem?_cons_succ, List.set_cons_zero, List.set_cons_succ, isNo, boundC, rm_lines U4.rm, b_sub, e1, rm_setL U4.rm]
          exact ⟨trivial, trivial⟩) ?_
        have U5 := U4.set L3 A2 hsq
        generalize h4.set q (rmCell L3 A2) = h5 at U5 ⊢
        simp only [okCs_cons, okCs_nil, okC_app, okE_ix, okE_lst, okE_tup, okE_c, okE_v, okE_call, okEs_cons, okEs_nil, List.getElem?_cons_zero, List.getElem?_cons_succ, onVal_val, onOwn_own]
        refine ⟨(show (1 : Nat) ≤ 16777216 by decide), (show (1 : Nat) ≤ 16777216 by decide), (show (2 : Nat) ≤ 16777216 by decide), ?_⟩
        refine (law_nextU U5.st (size := 2) (by decide) (by decide) (by omega)).mono fun r h6 ⟨z, e, z1, z2, V⟩ => ?_
        subst e
        have U6 := U5.of hsq V
        have hz : z = 0 ∨ z = 1 := by omega
        have fin : ∀ w : Str, (w = "end" ∨ w = "drop") → acc.length < maxLen ∧ okC T (callN T m) (.ret (.b1 .tuple (.pk 5))) (List.set [.val (.ref s), .val (.lst names), .val (.ref q), .val (.int ifs), .val (.int most), .own (.lst acc), s6] 5 (.own (.lst (acc ++ [.tup [.str w]])))) h6 (fun _ h' => ∃ L' A' x y, Upd2 s q h h' L' A' ∧ L' + x = L ∧ A' + y = A ∧ (∃ p : List Ln, D.non = .tup (toDs p) ∧ oks names p ∧ szs p = x) ∧ ∀ K, 6 + 2 * (3 - ifs) ≤ K → slim K D.non ∧ linesC K ifs .non = some (x, y)) (fun r h' => ∃ L' A' x y, Upd2 s q h h' L' A' ∧ L' + x = L ∧ A' + y = A ∧ (∃ p : List Ln, r = .tup (toDs p) ∧ oks names p ∧ szs p = x) ∧ ∀ K, 6 + 2 * (3 - ifs) ≤ K → slim K r ∧ linesC K ifs r = some (x, y)) := fun w hw => by
          refine ⟨(show acc.length < 16777216 by omega), ?_⟩
          simp only [List.set_cons_succ, List.set_cons_zero]
          simp only [okC_ret, okE_b1, okE_pk, List.getElem?_cons_zero, List.getElem?_cons_succ, onOwn_own, Cell.toD, tup_lst, onO_some]
          refine ⟨L3, A2, x2 + 1, y2, U6, by omega, eA, ?_, kp.last hw (by omega)⟩
          obtain ⟨p, e1, e2, e3⟩ := kp.ln
          exact ⟨p ++ [.fin w], by rw [toDs_app, e1]; rfl, oks_app (b := [.fin w]) e2 ⟨hw, trivial⟩, by rw [szs_app, e3]; rfl⟩
        rcases hz with rfl | rfl
        · simp only [ix_lst, at0, onO_some]
          exact fin "end" (.inl rfl)
        · simp only [ix_lst, at1, onO_some]
          exact fin "drop" (.inr rfl)
      · rw [if_neg (by rw [decide_eq_true_eq]; exact c2)]
        simp only [okCs_nil, okCs_cons, okC_ret, okE_b1, okE_pk, List.getElem?_cons_zero, List.getElem?_cons_succ, onOwn_own, Cell.toD, tup_lst, onO_some]
        exact ⟨L3 + 1, A2, x2, y2, U4, eL, eA, kp.lnT, kp.fin (by omega)⟩
theorem lines_all : ∀ j ifs : Nat, ifs + j = 3 → LinesSpec T ifs
  | 0, ifs, e => lines_of ifs (line_of ifs (by omega) fun h => absurd h (by omega))
  | j + 1, ifs, e => lines_of ifs (line_of ifs (by omega) fun _ => lines_all j (ifs + 1) (by omega))
/-- a program, and what is not one -/
theorem law_lines0 {h : List Cell} {s q : Nat} {names : List D} {L A : Nat} {n : Nat} (hsq : s ≠ q) (hs : stOk h[s]?) (hq : h[q]? = some (rmCell L A)) (hn : NmOk names) (hm : 14 ≤ n) :
    okO (callN T n 14 [.ref s, .lst names, .ref q, .int 0, .int 17] h) fun r h' => ∃ L' A' x y, Upd2 s q h h' L' A' ∧ L' + x = L ∧ A' + y = A ∧ (∃ p : List Ln, r = .tup (toDs p) ∧ oks names p ∧ szs p = x) ∧ ∀ K, 12 ≤ K → slim K r ∧ linesC K 0 r = some (x, y) :=
  lines_all 3 0 rfl h s q names L A 17 n hsq hs hq hn (by decide) (by decide) (by omega)
end DL

set_option linter.all false
set_option Elab.async false
set_option maxRecDepth 100000
set_option maxHeartbeats 4000000
namespace DL
open PySem DC
variable {T : Tb} [Base T]
theorem lc_all {f : D → List Cell → Out (Option D)} {P : D → Prop} {h : List Cell} : ∀ {ds : List D}, (∀ d ∈ ds, okO (f d h) fun y h' => (∃ r, y = some r ∧ P r) ∧ h' = h) → okO (lcL f ds h) fun ys h' => h' = h ∧ ys.length = ds.length ∧ ∀ y ∈ ys, P y
  | [], _ => ⟨rfl, rfl, fun _ q => absurd q List.not_mem_nil⟩
  | d :: ds, hf => by
    rw [lcL, okO_bnd]
    refine (hf d List.mem_cons_self).mono fun y h' ⟨⟨r, e, p⟩, e2⟩ => ?_
    subst e e2
    rw [okO_bnd]
    refine (lc_all (f := f) (P := P) (h := h') fun x hx => hf x (List.mem_cons_of_mem _ hx)).mono fun ys h' ⟨e2, l, q⟩ => ?_
    subst e2
    refine ⟨rfl, by simp [l], fun y hy => ?_⟩
    rcases List.mem_cons.mp hy with rfl | hy
    · exact p
    · exact q y hy
abbrev abc : Str := "abcdefghijklmnopqrstuvwxyz"
theorem at_abc : ∀ i : Fin 26, L2.atI abc.cps.toList ((i.val : Nat) : Int) = some (97 + i.val) := by decide +kernel
theorem ix_abc {h : List Cell} {i : Nat} (hi : i < 26) : ixD h (.str abc) (.int (i : Int)) = some (.str ⟨#[97 + i]⟩) := by
  unfold ixD
  simp only [dctOf]
  rw [at_abc ⟨i, hi⟩]
  rfl
def item1 (sh k : Nat) : Option D := mulD [] (.str ⟨#[97 + sh]⟩) (.int (1 + (k : Int)))
def okIt (o : Option D) : Bool := match o with
  | some d => labelB d
  | none => false
theorem item1_ok : ∀ sh : Fin 26, ∀ k : Fin 4, okIt (item1 sh.val k.val) = true := by decide +kernel
def base (sh lg : Nat) : Str := PySem.Txt.join "" ((List.range lg).map fun k => ⟨#[97 + (sh + 7 * k) % 26]⟩)
def item2 (sh lg pl k : Nat) : Option D := (addD [] (.str ⟨(cut (base sh lg).cps.toList none (some (pl : Int))).toArray⟩) (.str ⟨#[97 + (sh + 5 + 3 * k) % 26]⟩)).bind fun x => addD [] x (.str ⟨(cut (base sh lg).cps.toList (some ((pl : Int) + 1)) none).toArray⟩)
theorem item2_ok : ∀ sh : Fin 26, ∀ lg : Fin 5, ∀ pl : Fin lg.val, ∀ k : Fin 5, okIt (item2 sh.val lg.val pl.val k.val) = true := by decide +kernel
theorem okIt_some {o : Option D} (h : okIt o = true) : ∃ d, o = some d ∧ labelB d = true := by
  cases o with
  | none => cases h
  | some d => exact ⟨d, rfl, h⟩
theorem items_r1 {h : List Cell} {n : Nat} (hn : n ≤ 1000) : itemsOf .range1 h [.int (n : Int)] = some ((List.range n).map fun (j : Nat) => .int (j : Int)) := by
  simp only [itemsOf]
  rw [if_pos (by omega)]
  rfl
theorem strs_map {α : Type} {g : α → Str} : ∀ {l : List α}, strsOf (l.map fun x => .str (g x)) = some (l.map g)
  | [] => rfl
  | a :: l => by
    rw [List.map_cons, strsOf, strs_map]
    rfl
theorem sum_ones {α : Type} {g : α → Nat} : ∀ {l : List α}, (∀ x ∈ l, g x = 1) → (l.map g).sum = l.length
  | [], _ => rfl
  | a :: l, h => by
    rw [List.map_cons, List.sum_cons, h a List.mem_cons_self, sum_ones fun x hx => h x (List.mem_cons_of_mem _ hx), List.length_cons, Nat.add_comm]
theorem join_base {h : List Cell} {sh lg : Nat} (hl : lg < 5) : bmD .join h (.str "") (.lst ((List.range lg).map fun k => .str ⟨#[97 + (sh + 7 * k) % 26]⟩)) = some (.str (base sh lg)) := by
  show (strsOf ((List.range lg).map fun k => D.str ⟨#[97 + (sh + 7 * k) % 26]⟩)).bind _ = _
  rw [strs_map (g := fun k => (⟨#[97 + (sh + 7 * k) % 26]⟩ : Str))]
  show (if _ then _ else _) = _
  rw [if_pos]
  · rfl
  · rw [List.map_map, show ((List.range lg).map ((fun (x : Str) => x.length) ∘ fun k => (⟨#[97 + (sh + 7 * k) % 26]⟩ : Str))).sum = (List.range lg).length from sum_ones fun _ _ => rfl]
    simp only [List.length_map, List.length_range]
    show lg + lg * 0 ≤ 16777216
    omega
theorem mem_range {d : D} {n : Nat} (h : d ∈ (List.range n).map fun (j : Nat) => D.int (j : Int)) : ∃ j : Nat, j < n ∧ d = .int j := by
  obtain ⟨j, hj, rfl⟩ := List.mem_map.mp h
  exact ⟨j, List.mem_range.mp hj, rfl⟩
theorem nm_ok {ys : List D} {n : Nat} (h1 : 1 ≤ n) (h5 : n ≤ 5) (hl : ys.length = n) (h : ∀ y ∈ ys, labelB y = true) : NmOk ys := ⟨fun e => by rw [e] at hl; simp only [List.length_nil] at hl; omega, by omega, h⟩
theorem law_keys {h : List Cell} {s : Nat} {size : Int} (hs : stOk h[s]?) (h1 : 1 ≤ size) (h5 : size ≤ 5) {n : Nat} (hn : 2 ≤ n) : okO (callN T n 11 [.ref s, .int size] h) fun r h' => (∃ names, r = .lst names ∧ NmOk names) ∧ Upd s h h' := by
  obtain ⟨m, rfl⟩ : ∃ m, n = m + 1 := ⟨n - 1, by omega⟩
  obtain ⟨sz, rfl⟩ : ∃ sz : Nat, size = sz := ⟨size.toNat, by omega⟩
  refine ok_call (n := m) (F := ⟨2, 8, b11⟩) Base.f11 rfl ?_
  show okCs T (callN T m) b11 [.val (.ref s), .val (.int sz), .no, .no, .no, .no, .no, .no] h _ _
  unfold b11
  refine okCs_step (Γ' := [.val (.ref s), .val (.int sz), .val (.str abc), .no, .no, .no, .no, .no]) (h' := h) (by
    simp only [okCs_nil, okCs_cons, okC_asg, okC_own, okC_stIx, okC_aug, okC_app, okC_ex, okC_ret, okC_retN, okC_ite, okC_for, okE_c, okE_no, okE_v, okE_pk, okE_g, okE_bin, okE_neg, okE_cmp, okE_chain, okE_and, okE_or, okE_not, okE_ite, okE_isi, okE_b1, okE_b2, okE_bm, okE_call, okE_ix, okE_sl, okE_tup, okE_lst, okE_dct, okE_new, okE_lc, okEs_nil, okEs_cons, onVal_val, onOwn_own, onO_some, onO_none, onO_map, onB_bl, onCell_lst, onCell_dct, onInts_int, okO_ok, okE_attr, okE_meth, okE_make, okE_getd, okE_orv, okE_popK, okE_popL, okC_appR, okC_stAt, onNon_non, List.getElem?_cons_zero, List.getElem?_cons_succ, List.set_cons_zero, List.set_cons_succ, isNo, boundC]
    exact ⟨trivial, trivial⟩) ?_
  rw [okCs_cons]
  simp only [okC_asg, okE_call, okEs_cons, okEs_nil, okE_v, okE_c, List.getElem?_cons_zero, onVal_val]
  refine (law_nextU hs (size := 26) (by decide) (by decide) (by omega)).mono fun r h2 ⟨sh, e, w1, w2, U1⟩ => ?_
  subst e
  obtain ⟨sh, rfl⟩ : ∃ n : Nat, sh = n := ⟨sh.toNat, by omega⟩
  have w2 : sh < 26 := by omega
  simp only [List.set_cons_succ, List.set_cons_zero]
  rw [okCs_cons]
  simp only [okC_ite, okE_and, okE_cmp, okE_call, okEs_cons, okEs_nil, okE_v, okE_c, List.getElem?_cons_zero, List.getElem?_cons_succ, onVal_val]
  refine (law_nextU U1.st (size := 4) (by decide) (by decide) (by omega)).mono fun r h3 ⟨b, e, b1, b2, U2⟩ => ?_
  subst e
  have U := U1.trans U2
  clear U1 U2
  simp only [c_eq, c_lt, onO_some, onB_bl]
  have pass : okCs T (callN T m) [.asg 4 (.bin .add (.c (.int 1)) (.call 10 [(.v 0), (.c (.int 4))])),
    .asg 5 (.call 10 [(.v 0), (.v 4)]),
    .asg 6 (.bm .join (.c (.str "")) (.lc .range1 [(.v 4)] (.one 7) [7] (.c (.bl true)) (.ix (.v 2) (.bin .mod (.bin .add (.v 3) (.bin .mul (.c (.int 7)) (.v 7))) (.c (.int 26)))))),
    .ret (.lc .range1 [(.v 1)] (.one 7) [7] (.c (.bl true)) (.bin .add (.bin .add (.sl (.v 6) .no (.v 5)) (.ix (.v 2) (.bin .mod (.bin .add (.bin .add (.v 3) (.c (.int 5))) (.bin .mul (.c (.int 3)) (.v 7))) (.c (.int 26))))) (.sl (.v 6) (.bin .add (.v 5) (.c (.int 1))) .no)))] [.val (.ref s), .val (.int sz), .val (.str abc), .val (.int sh), .no, .no, .no, .no] h3 (fun _ h' => (∃ names, D.non = .lst names ∧ NmOk names) ∧ Upd s h h') (fun r h' => (∃ names, r = .lst names ∧ NmOk names) ∧ Upd s h h') := by
    rw [okCs_cons]
    simp only [okC_asg, okE_bin, okE_call, okEs_cons, okEs_nil, okE_v, okE_c, List.getElem?_cons_zero, List.getElem?_cons_succ, onVal_val]
    refine (law_nextU U.st (size := 4) (by decide) (by decide) (by omega)).mono fun r h4 ⟨lg, e, l1, l2, U2⟩ => ?_
    subst e
    have U4 := U.trans U2
    obtain ⟨lg, hlg, hl0, hl5⟩ : ∃ n : Nat, 1 + lg = n ∧ 0 < n ∧ n < 5 := ⟨(1 + lg).toNat, by omega, by omega, by omega⟩
    simp only [b_add, onO_some, hlg, List.set_cons_succ, List.set_cons_zero]
    clear hlg l1 l2 U2
    rw [okCs_cons]
    simp only [okC_asg, okE_call, okEs_cons, okEs_nil, okE_v, okE_c, List.getElem?_cons_zero, List.getElem?_cons_succ, onVal_val]
    refine (law_nextU U4.st (size := lg) (by omega) (by omega) (by omega)).mono fun r h5 ⟨pl, e, p1, p2, U5⟩ => ?_
    subst e
    have U6 := U4.trans U5
    obtain ⟨pl, rfl⟩ : ∃ n : Nat, pl = n := ⟨pl.toNat, by omega⟩
    have p2 : pl < lg := by omega
    simp only [List.set_cons_succ, List.set_cons_zero]
    have f7 : ∀ x : Int, (intFits 7 || intFits x) = true := fun x => by rw [show intFits 7 = true by decide]; rfl
    have f3 : ∀ x : Int, (intFits 3 || intFits x) = true := fun x => by rw [show intFits 3 = true by decide]; rfl
    refine okCs_step (Γ' := [.val (.ref s), .val (.int sz), .val (.str abc), .val (.int sh), .val (.int lg), .val (.int pl), .val (.str (base sh lg)), .no]) (h' := h5) ?_ ?_
    · have e : lcL (lcF1 T (callN T m) (.one 7) [7] (.c (.bl true)) (.ix (.v 2) (.bin .mod (.bin .add (.v 3) (.bin .mul (.c (.int 7)) (.v 7))) (.c (.int 26)))) [.val (.ref s), .val (.int sz), .val (.str abc), .val (.int sh), .val (.int lg), .val (.int pl), .no, .no]) ((List.range lg).map fun (j : Nat) => .int (j : Int)) h5 = some (.ok (((List.range lg).map fun (j : Nat) => D.int (j : Int)).map fun d => match d with | .int i => .str ⟨#[97 + (sh + 7 * i.toNat) % 26]⟩ | _ => .non) h5) :=
        lc_pure fun d hd => by
          obtain ⟨j, hj, rfl⟩ := mem_range hd
          have e1 : ((sh : Int) + 7 * (j : Int)) % 26 = ((((sh + 7 * j) % 26 : Nat)) : Int) := by omega
          rw [okO_lcF1]
          simp (decide := true) only [okCs_nil, okCs_cons, okC_asg, okC_own, okC_stIx, okC_aug, okC_app, okC_ex, okC_ret, okC_retN, okC_ite, okC_for, okE_c, okE_no, okE_v, okE_pk, okE_g, okE_bin, okE_neg, okE_cmp, okE_chain, okE_and, okE_or, okE_not, okE_ite, okE_isi, okE_b1, okE_b2, okE_bm, okE_call, okE_ix, okE_sl, okE_tup, okE_lst, okE_dct, okE_new, okE_lc, okEs_nil, okEs_cons, onVal_val, onOwn_own, onO_some, onO_none, onO_map, onB_bl, onCell_lst, onCell_dct, onInts_int, okO_ok, okE_attr, okE_meth, okE_make, okE_getd, okE_orv, okE_popK, okE_popL, okC_appR, okC_stAt, onNon_non, List.getElem?_cons_zero, List.getElem?_cons_succ, List.set_cons_zero, List.set_cons_succ, isNo, boundC, setTg, wipeS, b_mul (f7 _), b_add, b_mod (show (0 : Int) < 26 by decide), e1, ix_abc (Nat.mod_lt (sh + 7 * j) (show 0 < 26 by decide)), if_true]
          exact ⟨rfl, trivial⟩
      rw [List.map_map] at e
      have e2 : ((fun (d : D) => match d with | .int i => D.str ⟨#[97 + (sh + 7 * i.toNat) % 26]⟩ | _ => .non) ∘ fun (j : Nat) => D.int (j : Int)) = fun (k : Nat) => D.str ⟨#[97 + (sh + 7 * k) % 26]⟩ := rfl
      rw [e2] at e
      simp (decide := true) only [okCs_nil, okCs_cons, okC_asg, okC_own, okC_stIx, okC_aug, okC_app, okC_ex, okC_ret, okC_retN, okC_ite, okC_for, okE_c, okE_no, okE_v, okE_pk, okE_g, okE_bin, okE_neg, okE_cmp, okE_chain, okE_and, okE_or, okE_not, okE_ite, okE_isi, okE_b1, okE_b2, okE_bm, okE_call, okE_ix, okE_sl, okE_tup, okE_lst, okE_dct, okE_new, okE_lc, okEs_nil, okEs_cons, onVal_val, onOwn_own, onO_some, onO_none, onO_map, onB_bl, onCell_lst, onCell_dct, onInts_int, okO_ok, okE_attr, okE_meth, okE_make, okE_getd, okE_orv, okE_popK, okE_popL, okC_appR, okC_stAt, onNon_non, List.getElem?_cons_zero, List.getElem?_cons_succ, List.set_cons_zero, List.set_cons_succ, isNo, boundC, items_r1 (show lg ≤ 1000 by omega), e, join_base hl5]
      refine ⟨rfl, ?_, trivial⟩
      rw [List.length_map, List.length_range]
      show lg ≤ 16777216
      omega
    · simp only [okCs_cons, okC_ret, okE_lc, okEs_cons, okEs_nil, okE_v, List.getElem?_cons_zero, List.getElem?_cons_succ, onVal_val, items_r1 (show sz ≤ 1000 by omega), onO_some]
      refine ⟨rfl, ?_⟩
      refine (lc_all (P := fun d => labelB d = true) fun d hd => ?_).mono fun ys h' ⟨e, l, q⟩ => ?_
      · obtain ⟨j, hj, rfl⟩ := mem_range hd
        have e1 : ((sh : Int) + 5 + 3 * (j : Int)) % 26 = ((((sh + 5 + 3 * j) % 26 : Nat)) : Int) := by omega
        obtain ⟨r, er, lr⟩ := okIt_some (item2_ok ⟨sh, w2⟩ ⟨lg, hl5⟩ ⟨pl, p2⟩ ⟨j, by omega⟩)
        unfold item2 at er
        rw [okO_lcF1]
        simp (decide := true) only [okCs_nil, okCs_cons, okC_asg, okC_own, okC_stIx, okC_aug, okC_app, okC_ex, okC_ret, okC_retN, okC_ite, okC_for, okE_c, okE_no, okE_v, okE_pk, okE_g, okE_bin, okE_neg, okE_cmp, okE_chain, okE_and, okE_or, okE_not, okE_ite, okE_isi, okE_b1, okE_b2, okE_bm, okE_call, okE_ix, okE_sl, okE_tup, okE_lst, okE_dct, okE_new, okE_lc, okEs_nil, okEs_cons, onVal_val, onOwn_own, onO_some, onO_none, onO_map, onB_bl, onCell_lst, onCell_dct, onInts_int, okO_ok, okE_attr, okE_meth, okE_make, okE_getd, okE_orv, okE_popK, okE_popL, okC_appR, okC_stAt, onNon_non, List.getElem?_cons_zero, List.getElem?_cons_succ, List.set_cons_zero, List.set_cons_succ, isNo, boundC, setTg, wipeS, b_mul (f3 _), b_add, b_mod (show (0 : Int) < 26 by decide), e1, ix_abc (Nat.mod_lt (sh + 5 + 3 * j) (show 0 < 26 by decide)), if_true, slI]
        obtain ⟨x, ex, ey⟩ := Option.bind_eq_some_iff.mp er
        have ex : binD .add h5 (.str ⟨(cut (base sh lg).cps.toList none (some (pl : Int))).toArray⟩) (.str ⟨#[97 + (sh + 5 + 3 * j) % 26]⟩) = some x := ex
        have hx : ∃ z, x = .str z := by
          have ex : strCat _ _ = some x := ex
          unfold strCat at ex
          split at ex
          · cases ex
            exact ⟨_, rfl⟩
          · cases ex
        obtain ⟨z, rfl⟩ := hx
        have ey : binD .add h5 (.str z) (.str ⟨(cut (base sh lg).cps.toList (some ((pl : Int) + 1)) none).toArray⟩) = some r := ey
        simp only [ex, ey, onO_some]
        exact ⟨⟨r, rfl, lr⟩, trivial⟩
      · subst e
        rw [List.length_map, List.length_range] at l
        exact ⟨by rw [l]; show sz ≤ 16777216; omega, ⟨ys, rfl, nm_ok (by omega) (by omega) l q⟩, U6⟩
  by_cases c1 : b = 0
  · rw [if_pos (by rw [decide_eq_true_eq]; exact c1)]
    by_cases c2 : (sz : Int) < 5
    · rw [if_pos (by rw [decide_eq_true_eq]; exact c2)]
      simp only [okCs_cons, okC_ret, okE_lc, okEs_cons, okEs_nil, okE_v, List.getElem?_cons_zero, List.getElem?_cons_succ, onVal_val, items_r1 (show sz ≤ 1000 by omega), onO_some]
      refine ⟨rfl, ?_⟩
      refine (lc_all (P := fun d => labelB d = true) fun d hd => ?_).mono fun ys h' ⟨e, l, q⟩ => ?_
      · obtain ⟨j, hj, rfl⟩ := mem_range hd
        obtain ⟨r, er, lr⟩ := okIt_some (item1_ok ⟨sh, w2⟩ ⟨j, by omega⟩)
        have er : binD .mul h3 (.str ⟨#[97 + sh]⟩) (.int (1 + (j : Int))) = some r := er
        rw [okO_lcF1]
        simp (decide := true) only [okCs_nil, okCs_cons, okC_asg, okC_own, okC_stIx, okC_aug, okC_app, okC_ex, okC_ret, okC_retN, okC_ite, okC_for, okE_c, okE_no, okE_v, okE_pk, okE_g, okE_bin, okE_neg, okE_cmp, okE_chain, okE_and, okE_or, okE_not, okE_ite, okE_isi, okE_b1, okE_b2, okE_bm, okE_call, okE_ix, okE_sl, okE_tup, okE_lst, okE_dct, okE_new, okE_lc, okEs_nil, okEs_cons, onVal_val, onOwn_own, onO_some, onO_none, onO_map, onB_bl, onCell_lst, onCell_dct, onInts_int, okO_ok, okE_attr, okE_meth, okE_make, okE_getd, okE_orv, okE_popK, okE_popL, okC_appR, okC_stAt, onNon_non, List.getElem?_cons_zero, List.getElem?_cons_succ, List.set_cons_zero, List.set_cons_succ, isNo, boundC, setTg, wipeS, b_add, ix_abc w2, er, if_true]
        exact ⟨⟨r, rfl, lr⟩, trivial⟩
      · subst e
        rw [List.length_map, List.length_range] at l
        exact ⟨by rw [l]; show sz ≤ 16777216; omega, ⟨ys, rfl, nm_ok (by omega) (by omega) l q⟩, U⟩
    · rw [if_neg (by rw [decide_eq_true_eq]; exact c2)]
      rw [okCs_nil]
      exact pass
  · rw [if_neg (by rw [decide_eq_true_eq]; exact c1)]
    rw [if_neg (by decide), okCs_nil]
    exact pass
theorem progB_of {K : Nat} {d : D} {x y : Nat} (e : linesC K 0 d = some (x, y)) (h1 : 1 ≤ x) (h2 : x ≤ 16) (h3 : y ≤ 8) : progB K d = true := by
  unfold progB
  rw [e]
  simp [h1, h2, h3]
theorem linesC_tup {K : Nat} {d : D} {x y : Nat} (e : linesC (K + 1) 0 d = some (x, y)) : ∃ ds, d = .tup ds ∧ (ds ≠ [] → 1 ≤ x) := by
  cases d <;> first | (cases e; done) | skip
  rename_i ds
  refine ⟨ds, rfl, fun hne => ?_⟩
  cases ds with
  | nil => exact absurd rfl hne
  | cons d ds =>
    obtain ⟨a, b, a', b', e1, e2, rfl, rfl⟩ := goL_cons (show goL (lineC K (linesC K) 0) (d :: ds) = some (x, y) from e)
    rcases line_cases e1 with ⟨_, _, ea, _⟩ | ⟨q, r, ed, _, _, ea, _⟩ | ⟨q, r, ed, _, _, ea, _⟩ | ⟨q, r, ed, _, _, ea, _⟩ | ⟨q, r, t, x, y, x', y', ed, _, _, s1, s2, ea, _⟩ <;> omega
theorem law_program {h : List Cell} {s : Nat} {names : List D} (hs : stOk h[s]?) (hn : NmOk names) {n : Nat} (hm : 15 ≤ n) :
    okO (callN T n 15 [.ref s, .lst names] h) fun r h' => (∃ p : List Ln, r = .tup (toDs p) ∧ oks names p ∧ 1 ≤ szs p ∧ szs p ≤ 16) ∧ (∀ K, 12 ≤ K → slim K r ∧ progB K r = true) ∧ stOk h'[s]? ∧ ∀ j, j ≠ s → j < h.length → h'[j]? = h[j]? := by
  obtain ⟨m, rfl⟩ : ∃ m, n = m + 1 := ⟨n - 1, by omega⟩
  refine ok_call (n := m) (F := ⟨2, 4, b15⟩) Base.f15 rfl ?_
  show okCs T (callN T m) b15 [.val (.ref s), .val (.lst names), .no, .no] h _ _
  unfold b15
  refine okCs_step (Γ' := [.val (.ref s), .val (.lst names), .val (.ref h.length), .no]) (h' := h ++ [rmCell 16 8]) (by
    simp only [okCs_nil, okCs_cons, okC_asg, okC_own, okC_stIx, okC_aug, okC_app, okC_ex, okC_ret, okC_retN, okC_ite, okC_for, okE_c, okE_no, okE_v, okE_pk, okE_g, okE_bin, okE_neg, okE_cmp, okE_chain, okE_and, okE_or, okE_not, okE_ite, okE_isi, okE_b1, okE_b2, okE_bm, okE_call, okE_ix, okE_sl, okE_tup, okE_lst, okE_dct, okE_new, okE_lc, okEs_nil, okEs_cons, onVal_val, onOwn_own, onO_some, onO_none, onO_map, onB_bl, onCell_lst, onCell_dct, onInts_int, okO_ok, okE_attr, okE_meth, okE_make, okE_getd, okE_orv, okE_popK, okE_popL, okC_appR, okC_stAt, onNon_non, List.getElem?_cons_zero, List.getElem?_cons_succ, List.set_cons_zero, List.set_cons_succ, isNo, boundC, newCell]
    exact ⟨trivial, rfl⟩) ?_
  have hlt : s < h.length := by
    obtain ⟨a, b, d, e⟩ := hs
    exact (List.getElem?_eq_some_iff.mp e).1
  have hs1 : stOk (h ++ [rmCell 16 8])[s]? := by
    rw [List.getElem?_append_left hlt]
    exact hs
  have hq1 : (h ++ [rmCell 16 8])[h.length]? = some (rmCell 16 8) := by simp
  have hk1 : ∀ j, j < h.length → (h ++ [rmCell 16 8])[j]? = h[j]? := fun j hj => List.getElem?_append_left hj
  generalize h ++ [rmCell 16 8] = h1 at hs1 hq1 hk1 ⊢
  rw [okCs_cons]
  simp only [okC_asg, okE_call, okEs_cons, okEs_nil, okE_v, okE_c, List.getElem?_cons_zero, List.getElem?_cons_succ, onVal_val]
  refine (law_lines0 (show s ≠ h.length by omega) hs1 hq1 hn (show 14 ≤ m by omega)).mono fun r h2 ⟨L, A, x, y, U, eL, eA, ⟨p, ep, op, zp⟩, g⟩ => ?_
  have kp : ∀ j, j ≠ s → j < h.length → h2[j]? = h[j]? := fun j hj hl => (U.oth j hj (by omega)).trans (hk1 j hl)
  simp only [List.set_cons_succ, List.set_cons_zero]
  obtain ⟨ds, ed, hx⟩ := linesC_tup (K := 11) (g 12 (Nat.le_refl _)).2
  subst ed
  injection ep with ep
  rw [okCs_cons]
  simp only [okC_ite, okE_cmp, okE_v, okE_tup, okEs_nil, List.getElem?_cons_zero, List.getElem?_cons_succ, onVal_val, eq_tnil, onO_some, onB_bl]
  refine ⟨(show (0 : Nat) ≤ 16777216 by decide), ?_⟩
  cases ds with
  | nil =>
    rw [if_pos (show ([] : List D).isEmpty = true from rfl)]
    obtain ⟨nm, nms, en⟩ : ∃ nm nms, names = nm :: nms := by
      have := hn.ne
      cases names with
      | nil => exact absurd rfl this
      | cons a b => exact ⟨a, b, rfl⟩
    have ln := hn.lab nm (by rw [en]; exact List.mem_cons_self)
    subst en
    simp only [okCs_cons, okC_ret, okE_tup, okEs_cons, okEs_nil, okE_c, okE_ix, okE_v, List.getElem?_cons_zero, List.getElem?_cons_succ, onVal_val, ix_lst, at0, onO_some]
    refine ⟨(show (2 : Nat) ≤ 16777216 by decide), (show (3 : Nat) ≤ 16777216 by decide), (show (1 : Nat) ≤ 16777216 by decide), ?_, fun K hK => ?_, U.st, kp⟩
    · obtain ⟨z, rfl⟩ := lab_str ln
      exact ⟨[.put z (.num 1)], rfl, ⟨⟨List.mem_cons_self, ⟨by decide, by decide⟩, (show 1 ≤ 4 by decide)⟩, trivial⟩, (show 1 ≤ 1 from Nat.le_refl 1), (show 1 ≤ 16 by decide)⟩
    obtain ⟨k, rfl⟩ : ∃ k, K = k + 4 := ⟨K - 4, by omega⟩
    have s1 : ∀ k, slim (k + 1) (.tup [.str "number", .int 1]) := fun k => slim_mk (by simp) fun d hd => by
      simp only [List.mem_cons, List.not_mem_nil, or_false] at hd
      rcases hd with rfl | rfl <;> exact slim_atom trivial k
    refine ⟨slim_mk (by simp) fun d hd => ?_, ?_⟩
    · rw [List.mem_singleton.mp hd]
      exact slim3 (slim_atom trivial _) (slim_lab ln _) (s1 (k + 1))
    · have e1 : sumOk (k + 3) (.tup [.str "number", .int 1]) = true := by
        have : (isS "number" (.str "number") && valueB (.int 1) || isS "box" (.str "number") && labelB (.int 1)) = true := by decide +kernel
        simp [sumOk, sumD, this]
      refine progB_of (x := 1) (y := 1) ?_ (by decide) (by decide) (by decide)
      show goL (lineC (k + 3) (linesC (k + 3)) 0) [_] = _
      simp only [goL, lineC_put ln e1]
  | cons d ds =>
    rw [if_neg (by simp)]
    simp only [okCs_cons, okCs_nil, okC_ret, okE_v, List.getElem?_cons_zero, List.getElem?_cons_succ, onVal_val]
    exact ⟨⟨p, by rw [ep], op, by have := hx (by simp); omega, by omega⟩, fun K hK => ⟨(g K hK).1, progB_of (g K hK).2 (hx (by simp)) (by omega) (by omega)⟩, U.st, kp⟩
end DL

set_option linter.all false
set_option Elab.async false
set_option maxRecDepth 100000
set_option maxHeartbeats 4000000
namespace K82
open PySem PySem.Spec PyProof.Rows L2 DC
/-- the i-th statement of the program -/
def top (i : Nat) : Stmt := PySem.Challenge.pw_dealcourt_k82_whole_played_alone.main.body.getD i (.Pass ⟨0, 0, 0, 0⟩)
/-- is_key -/
def b0 : List CS := [.ret (.and (.isi .str (.v 0)) (.and (.chain .le .le (.c (.int 1)) (.b1 .len (.v 0)) (.g 1)) (.b1 .all (.lc .text [(.v 0)] (.one 1) [1] (.c (.bl true)) (.cmp .isin (.v 1) (.g 0))))))]
def d0 : FD := ⟨"is_key", "is_key", (top 3), ["thing", "sign"], ["thing"], b0⟩
/-- is_label -/
def b1 : List CS := [.ret (.and (.call 0 [(.v 0)]) (.cmp .notin (.v 0) (.g 2)))]
def d1 : FD := ⟨"is_label", "is_label", (top 13), ["thing"], ["thing"], b1⟩
/-- is_value -/
def b2 : List CS := [.ret (.and (.isi .int (.v 0)) (.and (.not (.isi .bool (.v 0))) (.chain .le .lt (.c (.int 0)) (.v 0) (.g 3))))]
def d2 : FD := ⟨"is_value", "is_value", (top 14), ["thing"], ["thing"], b2⟩
/-- is_sum -/
def b3 : List CS := [.ite (.or (.not (.isi .tuple (.v 0))) (.cmp .lt (.v 1) (.c (.int 1)))) [.ret (.c (.bl false))] [],
    .ite (.cmp .eq (.b1 .len (.v 0)) (.c (.int 2))) [.ret (.or (.and (.cmp .eq (.ix (.v 0) (.c (.int 0))) (.c (.str "number"))) (.call 2 [(.ix (.v 0) (.c (.int 1)))])) (.and (.cmp .eq (.ix (.v 0) (.c (.int 0))) (.c (.str "box"))) (.call 1 [(.ix (.v 0) (.c (.int 1)))])))] [],
    .ret (.and (.cmp .eq (.b1 .len (.v 0)) (.c (.int 3))) (.and (.cmp .isin (.ix (.v 0) (.c (.int 0))) (.g 4)) (.and (.call 3 [(.ix (.v 0) (.c (.int 1))), (.bin .sub (.v 1) (.c (.int 1)))]) (.call 3 [(.ix (.v 0) (.c (.int 2))), (.bin .sub (.v 1) (.c (.int 1)))]))))]
def d3 : FD := ⟨"is_sum", "is_sum", (top 15), ["thing", "left"], ["thing", "left"], b3⟩
/-- is_line -/
def b4 : List CS := [.ite (.not (.isi .tuple (.v 0))) [.ret (.c (.bl false))] [],
    .ite (.cmp .eq (.b1 .len (.v 0)) (.c (.int 3))) [.ite (.cmp .eq (.ix (.v 0) (.c (.int 0))) (.c (.str "get"))) [.ret (.and (.call 1 [(.ix (.v 0) (.c (.int 1)))]) (.call 1 [(.ix (.v 0) (.c (.int 2)))]))] [],
    .ret (.and (.cmp .isin (.ix (.v 0) (.c (.int 0))) (.tup [(.c (.str "put")), (.c (.str "let"))])) (.and (.call 1 [(.ix (.v 0) (.c (.int 1)))]) (.call 3 [(.ix (.v 0) (.c (.int 2))), (.g 5)])))] [],
    .ite (.cmp .eq (.b1 .len (.v 0)) (.c (.int 4))) [.asg 2 (.and (.cmp .eq (.ix (.v 0) (.c (.int 0))) (.c (.str "if"))) (.and (.cmp .lt (.v 1) (.g 6)) (.call 3 [(.ix (.v 0) (.c (.int 1))), (.g 5)]))),
    .ret (.and (.v 2) (.and (.call 5 [(.ix (.v 0) (.c (.int 2))), (.bin .add (.v 1) (.c (.int 1)))]) (.call 5 [(.ix (.v 0) (.c (.int 3))), (.bin .add (.v 1) (.c (.int 1)))])))] [],
    .ret (.cmp .isin (.v 0) (.g 7))]
def d4 : FD := ⟨"is_line", "is_line", (top 16), ["thing", "ifs", "good"], ["thing", "ifs"], b4⟩
/-- are_lines -/
def b5 : List CS := [.ite (.or (.not (.isi .tuple (.v 0))) (.not (.b1 .all (.lc .seq [(.v 0)] (.one 2) [2] (.c (.bl true)) (.call 4 [(.v 2), (.v 1)]))))) [.ret (.c (.bl false))] [],
    .ret (.b1 .all (.lc .seq [(.sl (.v 0) .no (.neg (.c (.int 1))))] (.one 2) [2] (.c (.bl true)) (.cmp .notin (.v 2) (.g 7))))]
def d5 : FD := ⟨"are_lines", "are_lines", (top 17), ["thing", "ifs", "one"], ["thing", "ifs"], b5⟩
/-- count_lines -/
def b6 : List CS := [.asg 1 (.b1 .len (.v 0)),
    .for_ .seq [(.v 0)] (.one 2) [.ite (.cmp .eq (.ix (.v 2) (.c (.int 0))) (.c (.str "if"))) [.aug 1 (.bin .add (.call 6 [(.ix (.v 2) (.c (.int 2)))]) (.call 6 [(.ix (.v 2) (.c (.int 3)))]))] []],
    .ret (.v 1)]
def d6 : FD := ⟨"count_lines", "count_lines", (top 18), ["lines", "found", "line"], ["lines"], b6⟩
/-- count_asked -/
def b7 : List CS := [.asg 1 (.c (.int 0)),
    .for_ .seq [(.v 0)] (.one 2) [.ite (.cmp .eq (.ix (.v 2) (.c (.int 0))) (.c (.str "if"))) [.aug 1 (.bin .add (.call 7 [(.ix (.v 2) (.c (.int 2)))]) (.call 7 [(.ix (.v 2) (.c (.int 3)))]))] [.ite (.cmp .isin (.ix (.v 2) (.c (.int 0))) (.tup [(.c (.str "get")), (.c (.str "put"))])) [.aug 1 (.c (.int 1))] []]],
    .ret (.v 1)]
def d7 : FD := ⟨"count_asked", "count_asked", (top 19), ["lines", "found", "line"], ["lines"], b7⟩
/-- is_program -/
def b8 : List CS := [.ite (.not (.call 5 [(.v 0), (.c (.int 0))])) [.ret (.c (.bl false))] [],
    .ret (.and (.chain .le .le (.c (.int 1)) (.call 6 [(.v 0)]) (.g 9)) (.cmp .le (.call 7 [(.v 0)]) (.g 8)))]
def d8 : FD := ⟨"is_program", "is_program", (top 20), ["thing"], ["thing"], b8⟩
/-- _law_state -/
def b9 : List CS := [.asg 2 (.bin .add (.c (.int 1)) (.bin .mul (.c (.int 2)) (.v 1))),
    .ite (.cmp .gt (.b1 .len (.v 0)) (.c (.int 0))) [.asg 2 (.bin .add (.ix (.v 0) (.bin .mod (.v 1) (.b1 .len (.v 0)))) (.bin .mul (.c (.int 2)) (.bin .fdiv (.v 1) (.b1 .len (.v 0)))))] [],
    .asg 3 (.bin .fdiv (.b1 .abs (.v 2)) (.c (.int 2))),
    .ite (.cmp .eq (.bin .mod (.v 2) (.c (.int 2))) (.c (.int 1))) [.asg 3 (.bin .mod (.bin .add (.bin .add (.bin .add (.bin .mul (.bin .mod (.v 3) (.c (.int 2147483647))) (.c (.int 48271))) (.bin .mul (.c (.int 7919)) (.v 1))) (.b1 .len (.v 0))) (.c (.int 11))) (.c (.int 2147483647)))] [],
    .ret (.new (.lst [(.bin .mod (.v 2) (.c (.int 2))), (.v 3), (.bin .add (.v 1) (.c (.int 1)))]))]
def d9 : FD := ⟨"_law_state", "_law_state", (top 25), ["_law_script", "_law_k", "_law_cell", "_law_start"], ["_law_script", "_law_k"], b9⟩
/-- _law_next -/
def b10 : List CS := [.ite (.cmp .eq (.ix (.v 0) (.c (.int 0))) (.c (.int 0))) [.asg 3 (.bin .mod (.ix (.v 0) (.c (.int 1))) (.v 1)),
    .stIx (.v 0) (.c (.int 1)) (.bin .fdiv (.ix (.v 0) (.c (.int 1))) (.v 1)),
    .ret (.v 3)] [],
    .stIx (.v 0) (.c (.int 1)) (.bin .mod (.bin .add (.bin .mul (.ix (.v 0) (.c (.int 1))) (.c (.int 48271))) (.ix (.v 0) (.c (.int 2)))) (.c (.int 2147483647))),
    .asg 2 (.bin .mod (.bin .mul (.ix (.v 0) (.c (.int 1))) (.ix (.v 0) (.c (.int 1)))) (.c (.int 2147483629))),
    .ret (.bin .mod (.bin .fdiv (.bin .mod (.bin .mul (.v 2) (.v 2)) (.c (.int 2147483587))) (.c (.int 7))) (.v 1))]
def d10 : FD := ⟨"_law_next", "_law_next", (top 26), ["_law_state_here", "_law_size", "_law_mixed", "_law_digit"], ["_law_state_here", "_law_size"], b10⟩
/-- _law_keys -/
def b11 : List CS := [.asg 2 (.c (.str "abcdefghijklmnopqrstuvwxyz")),
    .asg 3 (.call 10 [(.v 0), (.c (.int 26))]),
    .ite (.and (.cmp .eq (.call 10 [(.v 0), (.c (.int 4))]) (.c (.int 0))) (.cmp .lt (.v 1) (.c (.int 5)))) [.ret (.lc .range1 [(.v 1)] (.one 7) [7] (.c (.bl true)) (.bin .mul (.ix (.v 2) (.v 3)) (.bin .add (.c (.int 1)) (.v 7))))] [],
    .asg 4 (.bin .add (.c (.int 1)) (.call 10 [(.v 0), (.c (.int 4))])),
    .asg 5 (.call 10 [(.v 0), (.v 4)]),
    .asg 6 (.bm .join (.c (.str "")) (.lc .range1 [(.v 4)] (.one 7) [7] (.c (.bl true)) (.ix (.v 2) (.bin .mod (.bin .add (.v 3) (.bin .mul (.c (.int 7)) (.v 7))) (.c (.int 26)))))),
    .ret (.lc .range1 [(.v 1)] (.one 7) [7] (.c (.bl true)) (.bin .add (.bin .add (.sl (.v 6) .no (.v 5)) (.ix (.v 2) (.bin .mod (.bin .add (.bin .add (.v 3) (.c (.int 5))) (.bin .mul (.c (.int 3)) (.v 7))) (.c (.int 26))))) (.sl (.v 6) (.bin .add (.v 5) (.c (.int 1))) .no)))]
def d11 : FD := ⟨"_law_keys", "_law_keys", (top 27), ["_law_state_here", "_law_size", "_law_letters", "_law_shift", "_law_long", "_law_place", "_law_base", "_law_k"], ["_law_state_here", "_law_size"], b11⟩
/-- _law_sum -/
def b12 : List CS := [.asg 3 (.call 10 [(.v 0), (.c (.int 6))]),
    .ite (.or (.cmp .eq (.v 2) (.c (.int 1))) (.cmp .lt (.v 3) (.c (.int 4)))) [.ite (.cmp .eq (.bin .mod (.v 3) (.c (.int 2))) (.c (.int 0))) [.ret (.tup [(.c (.str "box")), (.ix (.v 1) (.call 10 [(.v 0), (.b1 .len (.v 1))]))])] [],
    .ret (.tup [(.c (.str "number")), (.ix (.lst [(.call 10 [(.v 0), (.c (.int 4))]), (.call 10 [(.v 0), (.c (.int 1000))]), (.c (.int 999))]) (.call 10 [(.v 0), (.c (.int 3))]))])] [],
    .asg 4 (.ix (.lst [(.c (.str "+")), (.c (.str "-")), (.c (.str "*")), (.c (.str "<")), (.c (.str "="))]) (.call 10 [(.v 0), (.c (.int 5))])),
    .asg 5 (.call 12 [(.v 0), (.v 1), (.bin .sub (.v 2) (.c (.int 1)))]),
    .ret (.tup [(.v 4), (.v 5), (.call 12 [(.v 0), (.v 1), (.bin .sub (.v 2) (.c (.int 1)))])])]
def d12 : FD := ⟨"_law_sum", "_law_sum", (top 28), ["_law_state_here", "_law_names", "_law_deep", "_law_way", "_law_sign", "_law_one"], ["_law_state_here", "_law_names", "_law_deep"], b12⟩
/-- _law_line -/
def b13 : List CS := [.stIx (.v 2) (.c (.str "lines")) (.bin .sub (.ix (.v 2) (.c (.str "lines"))) (.c (.int 1))),
    .asg 4 (.call 10 [(.v 0), (.c (.int 8))]),
    .ite (.and (.cmp .gt (.v 4) (.c (.int 5))) (.cmp .lt (.v 3) (.c (.int 3)))) [.asg 6 (.call 14 [(.v 0), (.v 1), (.v 2), (.bin .add (.v 3) (.c (.int 1))), (.c (.int 5))]),
    .ret (.tup [(.c (.str "if")), (.call 12 [(.v 0), (.v 1), (.c (.int 4))]), (.v 6), (.call 14 [(.v 0), (.v 1), (.v 2), (.bin .add (.v 3) (.c (.int 1))), (.c (.int 4))])])] [],
    .asg 5 (.ix (.v 1) (.call 10 [(.v 0), (.b1 .len (.v 1))])),
    .ite (.or (.cmp .eq (.v 4) (.c (.int 5))) (.or (.cmp .gt (.v 4) (.c (.int 5))) (.cmp .eq (.ix (.v 2) (.c (.str "asks"))) (.c (.int 0))))) [.ret (.tup [(.c (.str "let")), (.v 5), (.call 12 [(.v 0), (.v 1), (.c (.int 4))])])] [],
    .stIx (.v 2) (.c (.str "asks")) (.bin .sub (.ix (.v 2) (.c (.str "asks"))) (.c (.int 1))),
    .ite (.cmp .lt (.v 4) (.c (.int 3))) [.ret (.tup [(.c (.str "get")), (.v 5), (.ix (.v 1) (.call 10 [(.v 0), (.b1 .len (.v 1))]))])] [],
    .ret (.tup [(.c (.str "put")), (.v 5), (.call 12 [(.v 0), (.v 1), (.c (.int 4))])])]
def d13 : FD := ⟨"_law_line", "_law_line", (top 29), ["_law_state_here", "_law_names", "_law_room", "_law_ifs", "_law_way", "_law_name", "_law_one"], ["_law_state_here", "_law_names", "_law_room", "_law_ifs"], b13⟩
/-- _law_lines -/
def b14 : List CS := [.own 5 (.lst []),
    .for_ .range1 [(.call 10 [(.v 0), (.v 4)])] (.one 6) [.ite (.cmp .gt (.ix (.v 2) (.c (.str "lines"))) (.c (.int 0))) [.app 5 (.call 13 [(.v 0), (.v 1), (.v 2), (.v 3)])] []],
    .ite (.and (.cmp .gt (.ix (.v 2) (.c (.str "lines"))) (.c (.int 0))) (.cmp .eq (.call 10 [(.v 0), (.c (.int 6))]) (.c (.int 0)))) [.stIx (.v 2) (.c (.str "lines")) (.bin .sub (.ix (.v 2) (.c (.str "lines"))) (.c (.int 1))),
    .app 5 (.ix (.lst [(.tup [(.c (.str "end"))]), (.tup [(.c (.str "drop"))])]) (.call 10 [(.v 0), (.c (.int 2))]))] [],
    .ret (.b1 .tuple (.pk 5))]
def d14 : FD := ⟨"_law_lines", "_law_lines", (top 30), ["_law_state_here", "_law_names", "_law_room", "_law_ifs", "_law_most", "_law_lines_here", "_law_k"], ["_law_state_here", "_law_names", "_law_room", "_law_ifs", "_law_most"], b14⟩
/-- _law_program -/
def b15 : List CS := [.asg 2 (.new (.dct [(.inr "lines"), (.inr "asks")] [(.c (.int 16)), (.c (.int 8))])),
    .asg 3 (.call 14 [(.v 0), (.v 1), (.v 2), (.c (.int 0)), (.c (.int 17))]),
    .ite (.cmp .eq (.v 3) (.tup [])) [.ret (.tup [(.tup [(.c (.str "put")), (.ix (.v 1) (.c (.int 0))), (.tup [(.c (.str "number")), (.c (.int 1))])])])] [],
    .ret (.v 3)]
def d15 : FD := ⟨"_law_program", "_law_program", (top 31), ["_law_state_here", "_law_names", "_law_room", "_law_lines_here"], ["_law_state_here", "_law_names"], b15⟩
/-- worth -/
def b16 : List CS := [.ite (.cmp .eq (.ix (.v 0) (.c (.int 0))) (.c (.str "number"))) [.ret (.ix (.v 0) (.c (.int 1)))] [],
    .ite (.cmp .eq (.ix (.v 0) (.c (.int 0))) (.c (.str "box"))) [.ret (.getd (.v 1) (.ix (.v 0) (.c (.int 1))) (.c (.int 0)))] [],
    .asg 2 (.call 16 [(.ix (.v 0) (.c (.int 1))), (.v 1)]),
    .asg 3 (.call 16 [(.ix (.v 0) (.c (.int 2))), (.v 1)]),
    .ite (.cmp .eq (.ix (.v 0) (.c (.int 0))) (.c (.str "+"))) [.ret (.bin .mod (.bin .add (.v 2) (.v 3)) (.g 3))] [],
    .ite (.cmp .eq (.ix (.v 0) (.c (.int 0))) (.c (.str "-"))) [.ret (.bin .mod (.bin .sub (.v 2) (.v 3)) (.g 3))] [],
    .ite (.cmp .eq (.ix (.v 0) (.c (.int 0))) (.c (.str "*"))) [.ret (.bin .mod (.bin .mul (.v 2) (.v 3)) (.g 3))] [],
    .ite (.cmp .eq (.ix (.v 0) (.c (.int 0))) (.c (.str "<"))) [.ret (.b1 .int (.cmp .lt (.v 2) (.v 3)))] [],
    .ret (.b1 .int (.cmp .eq (.v 2) (.v 3)))]
def d16 : FD := ⟨"worth", "worth", (top 21), ["total", "boxes", "one", "other"], ["total", "boxes"], b16⟩
/-- Play.__init__ -/
def b17 : List CS := [.stAt (.v 0) "boxes" (.new (.dct [] [])),
    .stAt (.v 0) "coming" (.b1 .list (.v 1))]
def d17 : FD := ⟨"__init__", "Play.__init__", (inClass (top 22) 0), ["self", "program"], ["self", "program"], b17⟩
/-- Play.asked -/
def b18 : List CS := [.whl (.cmp .ne (.attr (.v 0) "coming") (.lst [])) [.asg 1 (.ix (.attr (.v 0) "coming") (.c (.int 0))),
    .ite (.cmp .eq (.ix (.v 1) (.c (.int 0))) (.c (.str "let"))) [.stIx (.attr (.v 0) "boxes") (.ix (.v 1) (.c (.int 1))) (.call 16 [(.ix (.v 1) (.c (.int 2))), (.attr (.v 0) "boxes")]),
    .stAt (.v 0) "coming" (.sl (.attr (.v 0) "coming") (.c (.int 1)) .no)] [.ite (.cmp .eq (.ix (.v 1) (.c (.int 0))) (.c (.str "if"))) [.asg 2 (.ite (.cmp .eq (.call 16 [(.ix (.v 1) (.c (.int 1))), (.attr (.v 0) "boxes")]) (.c (.int 0))) (.ix (.v 1) (.c (.int 3))) (.ix (.v 1) (.c (.int 2)))),
    .stAt (.v 0) "coming" (.bin .add (.b1 .list (.v 2)) (.sl (.attr (.v 0) "coming") (.c (.int 1)) .no))] [.ite (.cmp .eq (.ix (.v 1) (.c (.int 0))) (.c (.str "put"))) [.ret (.tup [(.c (.str "put")), (.ix (.v 1) (.c (.int 1))), (.call 16 [(.ix (.v 1) (.c (.int 2))), (.attr (.v 0) "boxes")])])] [.ret (.v 1)]]]],
    .ret (.tup [(.c (.str "end"))])]
def d18 : FD := ⟨"asked", "Play.asked", (inClass (top 22) 1), ["self", "line", "side"], ["self"], b18⟩
/-- Play.answered -/
def b19 : List CS := [.asg 2 (.ix (.attr (.v 0) "coming") (.c (.int 0))),
    .ite (.cmp .eq (.ix (.v 2) (.c (.int 0))) (.c (.str "get"))) [.stIx (.attr (.v 0) "boxes") (.ix (.v 2) (.c (.int 1))) (.v 1)] [],
    .stAt (.v 0) "coming" (.sl (.attr (.v 0) "coming") (.c (.int 1)) .no)]
def d19 : FD := ⟨"answered", "Play.answered", (inClass (top 22) 2), ["self", "value", "line"], ["self", "value"], b19⟩
/-- alone -/
def b20 : List CS := [.asg 2 (.new (.b1 .dict (.v 1))),
    .own 3 (.lst []),
    .asg 4 (.make "Play" [(.v 0)]),
    .asg 5 (.meth (.v 4) "asked" []),
    .whl (.cmp .notin (.v 5) (.g 7)) [.ite (.cmp .eq (.ix (.v 5) (.c (.int 0))) (.c (.str "get"))) [.app 3 (.getd (.v 2) (.ix (.v 5) (.c (.int 2))) (.c (.int 0))),
    .ex (.meth (.v 4) "answered" [(.ix (.pk 3) (.neg (.c (.int 1))))])] [.stIx (.v 2) (.ix (.v 5) (.c (.int 1))) (.ix (.v 5) (.c (.int 2))),
    .ex (.meth (.v 4) "answered" [(.c (.int 0))])],
    .asg 5 (.meth (.v 4) "asked" [])],
    .ite (.cmp .eq (.v 5) (.tup [(.c (.str "drop"))])) [.ret (.tup [(.new (.b1 .dict (.v 1))), (.b1 .tuple (.pk 3)), (.c (.str "dropped"))])] [],
    .ret (.tup [(.v 2), (.b1 .tuple (.pk 3)), (.c (.str "kept"))])]
def d20 : FD := ⟨"alone", "alone", (top 23), ["program", "values", "stand", "found", "play", "line"], ["program", "values"], b20⟩
/-- _law_worth -/
def b21 : List CS := [.ite (.cmp .eq (.ix (.v 0) (.c (.int 0))) (.c (.str "number"))) [.ret (.ix (.v 0) (.c (.int 1)))] [],
    .ite (.cmp .eq (.ix (.v 0) (.c (.int 0))) (.c (.str "box"))) [.ret (.getd (.v 1) (.ix (.v 0) (.c (.int 1))) (.c (.int 0)))] [],
    .asg 2 (.call 21 [(.ix (.v 0) (.c (.int 1))), (.v 1)]),
    .asg 3 (.call 21 [(.ix (.v 0) (.c (.int 2))), (.v 1)]),
    .asg 4 (.dct [(.inr "+"), (.inr "-"), (.inr "*"), (.inr "<"), (.inr "=")] [(.bin .add (.v 2) (.v 3)), (.bin .sub (.v 2) (.v 3)), (.bin .mul (.v 2) (.v 3)), (.b1 .int (.cmp .lt (.v 2) (.v 3))), (.b1 .int (.cmp .eq (.v 2) (.v 3)))]),
    .ret (.bin .mod (.ix (.v 4) (.ix (.v 0) (.c (.int 0)))) (.c (.int 1000)))]
def d21 : FD := ⟨"_law_worth", "_law_worth", (top 32), ["_law_total", "_law_boxes", "_law_one", "_law_other", "_law_some"], ["_law_total", "_law_boxes"], b21⟩
/-- _law_gone -/
def b22 : List CS := [.for_ .seq [(.v 0)] (.one 4) [.asg 5 (.c .non),
    .ite (.cmp .eq (.ix (.v 4) (.c (.int 0))) (.c (.str "get"))) [.appR (.v 3) (.getd (.v 2) (.ix (.v 4) (.c (.int 2))) (.c (.int 0))),
    .stIx (.v 1) (.ix (.v 4) (.c (.int 1))) (.ix (.v 3) (.neg (.c (.int 1))))] [.ite (.cmp .eq (.ix (.v 4) (.c (.int 0))) (.c (.str "put"))) [.stIx (.v 2) (.ix (.v 4) (.c (.int 1))) (.call 21 [(.ix (.v 4) (.c (.int 2))), (.v 1)])] [.ite (.cmp .eq (.ix (.v 4) (.c (.int 0))) (.c (.str "let"))) [.stIx (.v 1) (.ix (.v 4) (.c (.int 1))) (.call 21 [(.ix (.v 4) (.c (.int 2))), (.v 1)])] [.ite (.cmp .eq (.ix (.v 4) (.c (.int 0))) (.c (.str "if"))) [.asg 5 (.call 22 [(.ix (.v 4) (.bin .add (.c (.int 2)) (.b1 .int (.cmp .eq (.call 21 [(.ix (.v 4) (.c (.int 1))), (.v 1)]) (.c (.int 0)))))), (.v 1), (.v 2), (.v 3)])] [.asg 5 (.ix (.dct [(.inr "end"), (.inr "drop")] [(.c (.str "kept")), (.c (.str "dropped"))]) (.ix (.v 4) (.c (.int 0))))]]]],
    .ite (.cmp .notN (.v 5) (.c .non)) [.ret (.v 5)] []],
    .ret (.c .non)]
def d22 : FD := ⟨"_law_gone", "_law_gone", (top 33), ["_law_lines_here", "_law_boxes", "_law_stand", "_law_gotten", "_law_line_here", "_law_fate"], ["_law_lines_here", "_law_boxes", "_law_stand", "_law_gotten"], b22⟩
/-- _law_alone -/
def b23 : List CS := [.asg 2 (.new (.b1 .dict (.v 1))),
    .asg 3 (.new (.lst [])),
    .asg 4 (.orv (.call 22 [(.v 0), (.new (.dct [] [])), (.v 2), (.v 3)]) (.c (.str "kept"))),
    .ite (.cmp .eq (.v 4) (.c (.str "dropped"))) [.asg 2 (.new (.b1 .dict (.v 1)))] [],
    .ret (.tup [(.v 2), (.b1 .tuple (.v 3)), (.v 4)])]
def d23 : FD := ⟨"_law_alone", "_law_alone", (top 34), ["_law_program_here", "_law_stand", "_law_more", "_law_gotten", "_law_fate"], ["_law_program_here", "_law_stand"], b23⟩
/-- _law_whole_numbers -/
def b24 : List CS := [.ret (.cmp .eq (.lc .seq [(.b1 .list (.v 0))] (.one 1) [1] (.or (.not (.isi .int (.v 1))) (.isi .bool (.v 1))) (.v 1)) (.lst []))]
def d24 : FD := ⟨"_law_whole_numbers", "_law_whole_numbers", (top 35), ["_law_values", "_law_one"], ["_law_values"], b24⟩
/-- _law_right -/
def b25 : List CS := [.asg 2 (.new (.b1 .dict (.v 1))),
    .asg 3 (.call 23 [(.v 0), (.v 1)]),
    .asg 4 (.call 20 [(.v 0), (.v 2)]),
    .ite (.or (.not (.isi .tuple (.v 4))) (.or (.cmp .ne (.v 4) (.v 3)) (.or (.cmp .ne (.v 2) (.v 1)) (.cmp .notT (.call 8 [(.v 0)]) (.c (.bl true)))))) [.ret (.c (.bl false))] [],
    .ite (.or (.not (.isi .dict (.ix (.v 4) (.c (.int 0))))) (.not (.isi .tuple (.ix (.v 4) (.c (.int 1)))))) [.ret (.c (.bl false))] [],
    .lkd 4 [.ix (.int 0)] (.ite (.or (.not (.call 24 [(.lc .keys [(.ix (.v 4) (.c (.int 0)))] (.one 5) [5] (.c (.bl true)) (.ix (.ix (.v 4) (.c (.int 0))) (.v 5)))])) (.not (.call 24 [(.ix (.v 4) (.c (.int 1)))]))) [.ret (.c (.bl false))] []),
    .stIx (.ix (.v 4) (.c (.int 0))) (.c (.str "zzzz")) (.c (.int 5)),
    .ex (.popK (.ix (.v 4) (.c (.int 0))) (.ix (.b1 .sorted (.ix (.v 4) (.c (.int 0)))) (.c (.int 0)))),
    .ret (.and (.cmp .eq (.call 20 [(.v 0), (.v 2)]) (.v 3)) (.cmp .eq (.v 2) (.v 1)))]
def d25 : FD := ⟨"_law_right", "_law_right", (top 36), ["_law_program_here", "_law_stand", "_law_handed", "_law_due", "_law_told", "_law_key"], ["_law_program_here", "_law_stand"], b25⟩
/-- law -/
def b26 : List CS := [.asg 1 (.call 9 [(.v 0), (.c (.int 0))]),
    .asg 2 (.call 11 [(.v 1), (.bin .add (.c (.int 1)) (.call 10 [(.v 1), (.c (.int 5))]))]),
    .asg 3 (.new (.dct [] [])),
    .for_ .seq [(.sl (.v 2) .no (.call 10 [(.v 1), (.c (.int 6))]))] (.one 4) [.stIx (.v 3) (.v 4) (.ix (.lst [(.call 10 [(.v 1), (.c (.int 1000))]), (.c (.int 999)), (.c (.int 0)), (.c (.int 1))]) (.call 10 [(.v 1), (.c (.int 4))]))],
    .for_ .range1 [(.b2 .max (.c (.int 1)) (.b2 .min (.c (.int 63)) (.b1 .len (.v 0))))] (.one 5) [.asg 6 (.call 15 [(.call 9 [(.v 0), (.v 5)]), (.v 2)]),
    .ite (.not (.call 25 [(.v 6), (.v 3)])) [.ret (.c (.bl false))] [],
    .asg 3 (.ix (.call 23 [(.v 6), (.v 3)]) (.c (.int 0)))],
    .ret (.c (.bl true))]
def d26 : FD := ⟨"law", "law", (top 37), ["_law_script", "_law_state_here", "_law_names", "_law_stand", "_law_name", "_law_k", "_law_program_here"], ["_law_script"], b26⟩
def tab : List FD := [d0, d1, d2, d3, d4, d5, d6, d7, d8, d9, d10, d11, d12, d13, d14, d15, d16, d17, d18, d19, d20, d21, d22, d23, d24, d25, d26]
def gt : GT := [("LETTERS", (.str "abcdefghijklmnopqrstuvwxyz")),
  ("MOST_LETTERS", (.int 4)),
  ("KEPT_WORDS", (.tup [(.str "get"), (.str "put"), (.str "let"), (.str "if"), (.str "else"), (.str "fi"), (.str "end"), (.str "drop")])),
  ("VALUES", (.int 1000)),
  ("SIGNS", (.tup [(.str "+"), (.str "-"), (.str "*"), (.str "<"), (.str "=")])),
  ("DEEPEST", (.int 4)),
  ("MOST_IFS", (.int 3)),
  ("LAST_ONES", (.tup [(.tup [(.str "end")]), (.tup [(.str "drop")])])),
  ("MOST_ASKED", (.int 8)),
  ("MOST_LINES", (.int 16))]
def c0 : CD := ⟨"Play", some 17, [("asked", 18), ("answered", 19)], ["boxes", "coming"]⟩
def cls : List CD := [c0]
abbrev T : Tb := mkT tab gt cls 200
end K82

set_option linter.all false
set_option Elab.async false
set_option maxRecDepth 100000
set_option maxHeartbeats 4000000
/-! DMa: small maps from names to numbers as cells; what a sum is worth. -/
namespace DL
open PySem DC
variable {T : Tb} [Base T]
theorem qa00 : (("number" : Str) == "number") = true := by decide +kernel
theorem qa01 : (("number" : Str) == "box") = false := by decide +kernel
theorem qa02 : (("number" : Str) == "+") = false := by decide +kernel
theorem qa03 : (("number" : Str) == "-") = false := by decide +kernel
theorem qa04 : (("number" : Str) == "*") = false := by decide +kernel
theorem qa05 : (("number" : Str) == "<") = false := by decide +kernel
theorem qa06 : (("number" : Str) == "=") = false := by decide +kernel
theorem qa10 : (("box" : Str) == "number") = false := by decide +kernel
theorem qa11 : (("box" : Str) == "box") = true := by decide +kernel
theorem qa12 : (("box" : Str) == "+") = false := by decide +kernel
theorem qa13 : (("box" : Str) == "-") = false := by decide +kernel
theorem qa14 : (("box" : Str) == "*") = false := by decide +kernel
theorem qa15 : (("box" : Str) == "<") = false := by decide +kernel
theorem qa16 : (("box" : Str) == "=") = false := by decide +kernel
theorem qa20 : (("+" : Str) == "number") = false := by decide +kernel
theorem qa21 : (("+" : Str) == "box") = false := by decide +kernel
theorem qa22 : (("+" : Str) == "+") = true := by decide +kernel
theorem qa23 : (("+" : Str) == "-") = false := by decide +kernel
theorem qa24 : (("+" : Str) == "*") = false := by decide +kernel
theorem qa25 : (("+" : Str) == "<") = false := by decide +kernel
theorem qa26 : (("+" : Str) == "=") = false := by decide +kernel
theorem qa30 : (("-" : Str) == "number") = false := by decide +kernel
theorem qa31 : (("-" : Str) == "box") = false := by decide +kernel
theorem qa32 : (("-" : Str) == "+") = false := by decide +kernel
theorem qa33 : (("-" : Str) == "-") = true := by decide +kernel
theorem qa34 : (("-" : Str) == "*") = false := by decide +kernel
theorem qa35 : (("-" : Str) == "<") = false := by decide +kernel
theorem qa36 : (("-" : Str) == "=") = false := by decide +kernel
theorem qa40 : (("*" : Str) == "number") = false := by decide +kernel
theorem qa41 : (("*" : Str) == "box") = false := by decide +kernel
theorem qa42 : (("*" : Str) == "+") = false := by decide +kernel
theorem qa43 : (("*" : Str) == "-") = false := by decide +kernel
theorem qa44 : (("*" : Str) == "*") = true := by decide +kernel
theorem qa45 : (("*" : Str) == "<") = false := by decide +kernel
theorem qa46 : (("*" : Str) == "=") = false := by decide +kernel
theorem qa50 : (("<" : Str) == "number") = false := by decide +kernel
theorem qa51 : (("<" : Str) == "box") = false := by decide +kernel
theorem qa52 : (("<" : Str) == "+") = false := by decide +kernel
theorem qa53 : (("<" : Str) == "-") = false := by decide +kernel
theorem qa54 : (("<" : Str) == "*") = false := by decide +kernel
theorem qa55 : (("<" : Str) == "<") = true := by decide +kernel
theorem qa56 : (("<" : Str) == "=") = false := by decide +kernel
theorem qa60 : (("=" : Str) == "number") = false := by decide +kernel
theorem qa61 : (("=" : Str) == "box") = false := by decide +kernel
theorem qa62 : (("=" : Str) == "+") = false := by decide +kernel
theorem qa63 : (("=" : Str) == "-") = false := by decide +kernel
theorem qa64 : (("=" : Str) == "*") = false := by decide +kernel
theorem qa65 : (("=" : Str) == "<") = false := by decide +kernel
theorem qa66 : (("=" : Str) == "=") = true := by decide +kernel
theorem qb00 : (("get" : Str) == "get") = true := by decide +kernel
theorem qb01 : (("get" : Str) == "put") = false := by decide +kernel
theorem qb02 : (("get" : Str) == "let") = false := by decide +kernel
theorem qb03 : (("get" : Str) == "if") = false := by decide +kernel
theorem qb04 : (("get" : Str) == "end") = false := by decide +kernel
theorem qb05 : (("get" : Str) == "drop") = false := by decide +kernel
theorem qb10 : (("put" : Str) == "get") = false := by decide +kernel
theorem qb11 : (("put" : Str) == "put") = true := by decide +kernel
theorem qb12 : (("put" : Str) == "let") = false := by decide +kernel
theorem qb13 : (("put" : Str) == "if") = false := by decide +kernel
theorem qb14 : (("put" : Str) == "end") = false := by decide +kernel
theorem qb15 : (("put" : Str) == "drop") = false := by decide +kernel
theorem qb20 : (("let" : Str) == "get") = false := by decide +kernel
theorem qb21 : (("let" : Str) == "put") = false := by decide +kernel
theorem qb22 : (("let" : Str) == "let") = true := by decide +kernel
theorem qb23 : (("let" : Str) == "if") = false := by decide +kernel
theorem qb24 : (("let" : Str) == "end") = false := by decide +kernel
theorem qb25 : (("let" : Str) == "drop") = false := by decide +kernel
theorem qb30 : (("if" : Str) == "get") = false := by decide +kernel
theorem qb31 : (("if" : Str) == "put") = false := by decide +kernel
theorem qb32 : (("if" : Str) == "let") = false := by decide +kernel
theorem qb33 : (("if" : Str) == "if") = true := by decide +kernel
theorem qb34 : (("if" : Str) == "end") = false := by decide +kernel
theorem qb35 : (("if" : Str) == "drop") = false := by decide +kernel
theorem qb40 : (("end" : Str) == "get") = false := by decide +kernel
theorem qb41 : (("end" : Str) == "put") = false := by decide +kernel
theorem qb42 : (("end" : Str) == "let") = false := by decide +kernel
theorem qb43 : (("end" : Str) == "if") = false := by decide +kernel
theorem qb44 : (("end" : Str) == "end") = true := by decide +kernel
theorem qb45 : (("end" : Str) == "drop") = false := by decide +kernel
theorem qb50 : (("drop" : Str) == "get") = false := by decide +kernel
theorem qb51 : (("drop" : Str) == "put") = false := by decide +kernel
theorem qb52 : (("drop" : Str) == "let") = false := by decide +kernel
theorem qb53 : (("drop" : Str) == "if") = false := by decide +kernel
theorem qb54 : (("drop" : Str) == "end") = false := by decide +kernel
theorem qb55 : (("drop" : Str) == "drop") = true := by decide +kernel
abbrev Mp := List (Str × Int)
def mK (m : Mp) : List Key := m.map fun p => .inr p.1
def mV (m : Mp) : List D := m.map fun p => .int p.2
def mpC (m : Mp) : Cell := .dct (mK m) (mV m)
def mget : Mp → Str → Option Int
  | [], _ => none
  | (y, v) :: m, x => if y = x then some v else mget m x
def mg (m : Mp) (x : Str) : Int := (mget m x).getD 0
def mrep : Mp → Str → Int → Mp
  | [], _, _ => []
  | (y, w) :: m, x, v => (y, if y = x then v else w) :: mrep m x v
def mput (m : Mp) (x : Str) (v : Int) : Mp := if (mget m x).isSome then mrep m x v else m ++ [(x, v)]
theorem inr_eq {y x : Str} : ((Sum.inr y : Key) = .inr x) = (y = x) := propext ⟨fun e => by injection e, fun e => by rw [e]⟩
theorem dget_m : ∀ {m : Mp} {x : Str}, dgetL (mK m) (mV m) (.inr x) = (mget m x).map .int
  | [], x => rfl
  | (y, v) :: m, x => by
    show (if (Sum.inr y : Key) = .inr x then some (D.int v) else dgetL (mK m) (mV m) (.inr x)) = _
    rw [dget_m, mget]
    by_cases h : y = x <;> simp [h]
theorem hasK_m : ∀ {m : Mp} {x : Str}, hasK (mK m) (.inr x) = (mget m x).isSome
  | [], x => rfl
  | (y, v) :: m, x => by
    show (decide ((Sum.inr y : Key) = .inr x) || hasK (mK m) (.inr x)) = _
    rw [hasK_m, mget]
    by_cases h : y = x <;> simp [h]
theorem rep_K : ∀ {m : Mp} {x : Str} {v : Int}, mK (mrep m x v) = mK m
  | [], _, _ => rfl
  | (y, w) :: m, x, v => by
    show Sum.inr y :: mK (mrep m x v) = _
    rw [rep_K]
    rfl
theorem dput_m : ∀ {m : Mp} {x : Str} {v : Int}, dputL (mK m) (mV m) (.inr x) (.int v) = mV (mrep m x v)
  | [], _, _ => rfl
  | (y, w) :: m, x, v => by
    show (if (Sum.inr y : Key) = .inr x then D.int v else .int w) :: dputL (mK m) (mV m) (.inr x) (.int v) = _
    rw [dput_m]
    show _ = D.int (if y = x then v else w) :: mV (mrep m x v)
    by_cases h : y = x <;> simp [h]
theorem mK_len {m : Mp} : (mK m).length = m.length := by simp [mK]
theorem put_m {m : Mp} {x : Str} {v : Int} (hl : m.length < maxLen) : putCell (mpC m) (.str x) (.int v) = some (mpC (mput m x v)) := by
  unfold mpC putCell
  simp only [keyOf, mK_len, if_pos hl, hasK_m]
  unfold mput
  cases h : (mget m x).isSome with
  | true =>
    simp only [if_true, dput_m]
    rw [rep_K]
  | false =>
    simp only [Bool.false_eq_true, if_false]
    simp [mK, mV]
/-- the keys once each, among the names; the values whole, not below 0, less than 1000 -/
structure MOk (names : List D) (m : Mp) : Prop where
  nd : (m.map (·.1)).Nodup
  ks : ∀ p ∈ m, D.str p.1 ∈ names
  vs : ∀ p ∈ m, 0 ≤ p.2 ∧ p.2 < 1000
theorem MOk.nil {names : List D} : MOk names [] := ⟨List.nodup_nil, fun _ h => absurd h List.not_mem_nil, fun _ h => absurd h List.not_mem_nil⟩
theorem nd_sub {α : Type} [DecidableEq α] : ∀ {l r : List α}, l.Nodup → (∀ x ∈ l, x ∈ r) → l.length ≤ r.length
  | [], r, _, _ => by simp
  | a :: l, r, h, hs => by
    rw [List.nodup_cons] at h
    have := nd_sub (l := l) (r := r.erase a) h.2 fun x hx => by
      have hne : x ≠ a := fun e => h.1 (e ▸ hx)
      exact (List.mem_erase_of_ne hne).mpr (hs x (List.mem_cons_of_mem _ hx))
    have h2 := List.length_erase_of_mem (hs a List.mem_cons_self)
    have h3 : 0 < r.length := List.length_pos_of_mem (hs a List.mem_cons_self)
    simp only [List.length_cons]
    omega
def strOf : D → Str
  | .str x => x
  | _ => Str.empty
theorem MOk.len {names : List D} {m : Mp} (o : MOk names m) : m.length ≤ names.length := by
  have := nd_sub (r := names.map strOf) o.nd fun x hx => by
    obtain ⟨p, hp, rfl⟩ := List.mem_map.mp hx
    exact List.mem_map.mpr ⟨_, o.ks p hp, rfl⟩
  simpa using this
theorem mget_mem : ∀ {m : Mp} {x : Str} {v : Int}, mget m x = some v → (x, v) ∈ m
  | (y, w) :: m, x, v, h => by
    rw [mget] at h
    split at h
    · rename_i e
      cases h
      rw [e]
      exact List.mem_cons_self
    · exact List.mem_cons_of_mem _ (mget_mem h)
theorem mget_none : ∀ {m : Mp} {x : Str}, (mget m x).isSome = false → x ∉ m.map (·.1)
  | [], x, _ => by simp
  | (y, w) :: m, x, h => by
    rw [mget] at h
    split at h
    · cases h
    · rename_i e
      have := mget_none h
      simp only [List.map_cons, List.mem_cons, not_or]
      exact ⟨fun z => e z.symm, this⟩
theorem mget_of : ∀ {m : Mp} {x : Str}, x ∈ m.map (·.1) → ∃ v, mget m x = some v
  | [], x, h => by simp at h
  | (y, w) :: m, x, h => by
    rw [mget]
    by_cases e : y = x
    · exact ⟨w, by rw [if_pos e]⟩
    · rw [if_neg e]
      simp only [List.map_cons, List.mem_cons] at h
      exact mget_of (h.resolve_left fun z => e z.symm)
theorem MOk.mg {names : List D} {m : Mp} (o : MOk names m) (x : Str) : 0 ≤ mg m x ∧ mg m x < 1000 := by
  unfold DL.mg
  cases h : mget m x with
  | none => exact ⟨by decide, by decide⟩
  | some v => exact o.vs _ (mget_mem h)
theorem rep_fst : ∀ {m : Mp} {x : Str} {v : Int}, (mrep m x v).map (·.1) = m.map (·.1)
  | [], _, _ => rfl
  | (y, w) :: m, x, v => by
    rw [mrep, List.map_cons, rep_fst]
    rfl
theorem rep_mem : ∀ {m : Mp} {x : Str} {v : Int} {p : Str × Int}, p ∈ mrep m x v → (∃ w, (p.1, w) ∈ m) ∧ (p.2 = v ∨ p ∈ m)
  | [], _, _, _, h => absurd h List.not_mem_nil
  | (y, w) :: m, x, v, p, h => by
    rw [mrep] at h
    rcases List.mem_cons.mp h with e | h
    · subst e
      refine ⟨⟨w, List.mem_cons_self⟩, ?_⟩
      by_cases e : y = x
      · exact .inl (by simp [e])
      · exact .inr (by simp [e])
    · obtain ⟨⟨w', h1⟩, h2⟩ := rep_mem h
      exact ⟨⟨w', List.mem_cons_of_mem _ h1⟩, h2.imp id (List.mem_cons_of_mem _)⟩
theorem MOk.put {names : List D} {m : Mp} (o : MOk names m) {x : Str} {v : Int} (hx : D.str x ∈ names) (h0 : 0 ≤ v) (h1 : v < 1000) : MOk names (mput m x v) := by
  unfold mput
  cases h : (mget m x).isSome with
  | true =>
    simp only [if_true]
    refine ⟨by rw [rep_fst]; exact o.nd, fun p hp => ?_, fun p hp => ?_⟩
    · obtain ⟨⟨w, hw⟩, _⟩ := rep_mem hp
      exact o.ks (p.1, w) hw
    · rcases (rep_mem hp).2 with e | hp
      · rw [e]
        exact ⟨h0, h1⟩
      · exact o.vs p hp
  | false =>
    simp only [Bool.false_eq_true, if_false]
    refine ⟨?_, fun p hp => ?_, fun p hp => ?_⟩
    · rw [List.map_append, List.nodup_append]
      refine ⟨o.nd, by simp, fun a ha b hb => ?_⟩
      simp only [List.map_cons, List.map_nil, List.mem_singleton] at hb
      subst hb
      exact fun e => mget_none h (e ▸ ha)
    · rcases List.mem_append.mp hp with hp | hp
      · exact o.ks p hp
      · rw [List.mem_singleton.mp hp]
        exact hx
    · rcases List.mem_append.mp hp with hp | hp
      · exact o.vs p hp
      · rw [List.mem_singleton.mp hp]
        exact ⟨h0, h1⟩
/-! ### what a sum is worth -/
def wv : Sm → Mp → Int
  | .num v, _ => v
  | .box x, m => mg m x
  | .op s a b, m => if s = "+" then (wv a m + wv b m) % 1000 else if s = "-" then (wv a m - wv b m) % 1000 else if s = "*" then (wv a m * wv b m) % 1000 else if s = "<" then (if wv a m < wv b m then 1 else 0) else (if wv a m = wv b m then 1 else 0)
theorem wv_op {s : Str} {a b : Sm} {m : Mp} : wv (.op s a b) m = if s = "+" then (wv a m + wv b m) % 1000 else if s = "-" then (wv a m - wv b m) % 1000 else if s = "*" then (wv a m * wv b m) % 1000 else if s = "<" then (if wv a m < wv b m then 1 else 0) else (if wv a m = wv b m then 1 else 0) := rfl
theorem wv_lt {names : List D} {m : Mp} (o : MOk names m) : ∀ {s : Sm}, s.ok names → 0 ≤ wv s m ∧ wv s m < 1000
  | .num v, h => h
  | .box x, h => o.mg x
  | .op s a b, h => by
    unfold wv
    repeat' split
    all_goals first | omega | exact ⟨Int.emod_nonneg _ (by decide), Int.emod_lt_of_pos _ (by decide)⟩
theorem getd_m {h : List Cell} {d : D} {m : Mp} (e : dctOf h d = some (mK m, mV m)) {x : Str} : getdD h d (.str x) (.int 0) = some (.int (mg m x)) := by
  unfold getdD
  rw [e]
  show (some (Sum.inr x : Key)).map _ = _
  simp only [Option.map, dget_m]
  unfold mg
  cases mget m x <;> rfl
def bW : List CS := [.ite (.cmp .eq (.ix (.v 0) (.c (.int 0))) (.c (.str "number"))) [.ret (.ix (.v 0) (.c (.int 1)))] [],
    .ite (.cmp .eq (.ix (.v 0) (.c (.int 0))) (.c (.str "box"))) [.ret (.getd (.v 1) (.ix (.v 0) (.c (.int 1))) (.c (.int 0)))] [],
    .asg 2 (.call 16 [(.ix (.v 0) (.c (.int 1))), (.v 1)]),
    .asg 3 (.call 16 [(.ix (.v 0) (.c (.int 2))), (.v 1)]),
    .ite (.cmp .eq (.ix (.v 0) (.c (.int 0))) (.c (.str "+"))) [.ret (.bin .mod (.bin .add (.v 2) (.v 3)) (.g 3))] [],
    .ite (.cmp .eq (.ix (.v 0) (.c (.int 0))) (.c (.str "-"))) [.ret (.bin .mod (.bin .sub (.v 2) (.v 3)) (.g 3))] [],
    .ite (.cmp .eq (.ix (.v 0) (.c (.int 0))) (.c (.str "*"))) [.ret (.bin .mod (.bin .mul (.v 2) (.v 3)) (.g 3))] [],
    .ite (.cmp .eq (.ix (.v 0) (.c (.int 0))) (.c (.str "<"))) [.ret (.b1 .int (.cmp .lt (.v 2) (.v 3)))] [],
    .ret (.b1 .int (.cmp .eq (.v 2) (.v 3)))]
class BaseW (T : Tb) : Prop extends Base T where
  f16 : T.fn 16 = some ⟨2, 4, bW⟩
theorem int_bl {h : List Cell} {b : Bool} : b1D .int h (.bl b) = some (.int (if b then 1 else 0)) := rfl
theorem fits_v {a b : Int} (h : 0 ≤ a ∧ a < 1000) : (intFits a || intFits b) = true := by
  have : intFits a = true := by
    unfold intFits
    simp only [Bool.and_eq_true, decide_eq_true_eq]
    omega
  rw [this]
  rfl
theorem sign_cases {s : Str} (h : s ∈ signW) : s = "+" ∨ s = "-" ∨ s = "*" ∨ s = "<" ∨ s = "=" := by
  simpa [signW] using h
theorem ne_of {a b : Str} (h : (b == a) = false) : ¬ a = b := fun e => by
  subst e
  rw [beq_self_eq_true] at h
  cases h
theorem worth {T : Tb} [BaseW T] {names : List D} {m : Mp} (o : MOk names m) : ∀ (s : Sm), s.ok names → ∀ (n : Nat), s.dp ≤ n → ∀ (h : List Cell) (d : D), dctOf h d = some (mK m, mV m) → callN T n 16 [s.toD, d] h = some (.ok (.int (wv s m)) h) := by
  intro s
  induction s with
  | num v =>
    intro _ n hn h d e
    obtain ⟨k, rfl⟩ : ∃ k, n = k + 1 := ⟨n - 1, by unfold Sm.dp at hn; omega⟩
    refine ok_eq (ok_call (n := k) (F := ⟨2, 4, bW⟩) BaseW.f16 rfl ?_)
    show okCs T (callN T k) bW [.val (.tup [.str "number", .int v]), .val d, .no, .no] h _ _
    simp (decide := true) only [bW, okCs_nil, okCs_cons, okC_asg, okC_own, okC_stIx, okC_aug, okC_app, okC_ex, okC_ret, okC_retN, okC_ite, okC_for, okE_c, okE_no, okE_v, okE_pk, okE_g, okE_bin, okE_neg, okE_cmp, okE_chain, okE_and, okE_or, okE_not, okE_ite, okE_isi, okE_b1, okE_b2, okE_bm, okE_call, okE_ix, okE_sl, okE_tup, okE_lst, okE_dct, okE_new, okE_lc, okEs_nil, okEs_cons, onVal_val, onOwn_own, onO_some, onO_none, onO_map, onB_bl, onCell_lst, onCell_dct, onInts_int, okO_ok, okE_attr, okE_meth, okE_make, okE_getd, okE_orv, okE_popK, okE_popL, okC_appR, okC_stAt, onNon_non, List.getElem?_cons_zero, List.getElem?_cons_succ, List.set_cons_zero, List.set_cons_succ, isNo, boundC, ix_tup, at0, at1, c_eqS, qa00, if_true]
    exact ⟨rfl, trivial⟩
  | box x =>
    intro _ n hn h d e
    obtain ⟨k, rfl⟩ : ∃ k, n = k + 1 := ⟨n - 1, by unfold Sm.dp at hn; omega⟩
    refine ok_eq (ok_call (n := k) (F := ⟨2, 4, bW⟩) BaseW.f16 rfl ?_)
    show okCs T (callN T k) bW [.val (.tup [.str "box", .str x]), .val d, .no, .no] h _ _
    simp (decide := true) only [bW, okCs_nil, okCs_cons, okC_asg, okC_own, okC_stIx, okC_aug, okC_app, okC_ex, okC_ret, okC_retN, okC_ite, okC_for, okE_c, okE_no, okE_v, okE_pk, okE_g, okE_bin, okE_neg, okE_cmp, okE_chain, okE_and, okE_or, okE_not, okE_ite, okE_isi, okE_b1, okE_b2, okE_bm, okE_call, okE_ix, okE_sl, okE_tup, okE_lst, okE_dct, okE_new, okE_lc, okEs_nil, okEs_cons, onVal_val, onOwn_own, onO_some, onO_none, onO_map, onB_bl, onCell_lst, onCell_dct, onInts_int, okO_ok, okE_attr, okE_meth, okE_make, okE_getd, okE_orv, okE_popK, okE_popL, okC_appR, okC_stAt, onNon_non, List.getElem?_cons_zero, List.getElem?_cons_succ, List.set_cons_zero, List.set_cons_succ, isNo, boundC, ix_tup, at0, at1, c_eqS, qa00, qa01, qa02, qa03, qa04, qa05, qa06, qa10, qa11, qa12, qa13, qa14, qa15, qa16, qa20, qa21, qa22, qa23, qa24, qa25, qa26, qa30, qa31, qa32, qa33, qa34, qa35, qa36, qa40, qa41, qa42, qa43, qa44, qa45, qa46, qa50, qa51, qa52, qa53, qa54, qa55, qa56, qa60, qa61, qa62, qa63, qa64, qa65, qa66, qb00, qb01, qb02, qb03, qb04, qb05, qb10, qb11, qb12, qb13, qb14, qb15, qb20, qb21, qb22, qb23, qb24, qb25, qb30, qb31, qb32, qb33, qb34, qb35, qb40, qb41, qb42, qb43, qb44, qb45, qb50, qb51, qb52, qb53, qb54, qb55, if_true, Bool.false_eq_true, if_false, getd_m e]
    rw [e]
    exact ⟨rfl, rfl, trivial⟩
  | op s a b iha ihb =>
    intro ho n hn h d e
    obtain ⟨k, rfl⟩ : ∃ k, n = k + 1 := ⟨n - 1, by unfold Sm.dp at hn; omega⟩
    obtain ⟨hs, ha, hb⟩ := ho
    have hn : 1 + max a.dp b.dp ≤ k + 1 := hn
    have c1 := iha ha k (by omega) h d e
    have c2 := ihb hb k (by omega) h d e
    have f1 := fits_v (b := wv b m) (wv_lt o ha)
    refine ok_eq (ok_call (n := k) (F := ⟨2, 4, bW⟩) BaseW.f16 rfl ?_)
    show okCs T (callN T k) bW [.val (.tup [.str s, a.toD, b.toD]), .val d, .no, .no] h _ _
    have hm : (0 : Int) < 1000 := by decide
    rcases sign_cases hs with rfl | rfl | rfl | rfl | rfl <;>
      simp (decide := true) only [bW, okCs_nil, okCs_cons, okC_asg, okC_own, okC_stIx, okC_aug, okC_app, okC_ex, okC_ret, okC_retN, okC_ite, okC_for, okE_c, okE_no, okE_v, okE_pk, okE_g, okE_bin, okE_neg, okE_cmp, okE_chain, okE_and, okE_or, okE_not, okE_ite, okE_isi, okE_b1, okE_b2, okE_bm, okE_call, okE_ix, okE_sl, okE_tup, okE_lst, okE_dct, okE_new, okE_lc, okEs_nil, okEs_cons, onVal_val, onOwn_own, onO_some, onO_none, onO_map, onB_bl, onCell_lst, onCell_dct, onInts_int, okO_ok, okE_attr, okE_meth, okE_make, okE_getd, okE_orv, okE_popK, okE_popL, okC_appR, okC_stAt, onNon_non, List.getElem?_cons_zero, List.getElem?_cons_succ, List.set_cons_zero, List.set_cons_succ, isNo, boundC, ix_tup, at0, at1, at2, c_eqS, qa00, qa01, qa02, qa03, qa04, qa05, qa06, qa10, qa11, qa12, qa13, qa14, qa15, qa16, qa20, qa21, qa22, qa23, qa24, qa25, qa26, qa30, qa31, qa32, qa33, qa34, qa35, qa36, qa40, qa41, qa42, qa43, qa44, qa45, qa46, qa50, qa51, qa52, qa53, qa54, qa55, qa56, qa60, qa61, qa62, qa63, qa64, qa65, qa66, qb00, qb01, qb02, qb03, qb04, qb05, qb10, qb11, qb12, qb13, qb14, qb15, qb20, qb21, qb22, qb23, qb24, qb25, qb30, qb31, qb32, qb33, qb34, qb35, qb40, qb41, qb42, qb43, qb44, qb45, qb50, qb51, qb52, qb53, qb54, qb55, if_true, Bool.false_eq_true, if_false, c1, c2, b_add, b_sub, b_mul f1, b_mod hm, G3, c_lt, c_eq, int_bl, and_true]
    · rw [wv_op, if_pos rfl]
    · rw [wv_op, if_neg (ne_of qa23), if_pos rfl]
    · rw [wv_op, if_neg (ne_of qa24), if_neg (ne_of qa34), if_pos rfl]
    · rw [wv_op, if_neg (ne_of qa25), if_neg (ne_of qa35), if_neg (ne_of qa45), if_pos rfl]
      simp
    · rw [wv_op, if_neg (ne_of qa26), if_neg (ne_of qa36), if_neg (ne_of qa46), if_neg (ne_of qa56)]
      simp
end DL

set_option linter.all false
set_option Elab.async false
set_option maxRecDepth 100000
set_option maxHeartbeats 4000000
/-! DMb: rows that run alone, in plain Lean; cells of maps. -/
namespace DL
open PySem DC
/-- boxes, what stands, what was gotten -/
structure St where
  b : Mp
  s : Mp
  g : List Int
def thn (p : Option Str × St) (f : St → Option Str × St) : Option Str × St := match p.1 with
  | some w => (some w, p.2)
  | none => f p.2
mutual
def goLn : Ln → St → Option Str × St
  | .get x k, q => (none, ⟨mput q.b x (mg q.s k), q.s, q.g ++ [mg q.s k]⟩)
  | .put k e, q => (none, ⟨q.b, mput q.s k (wv e q.b), q.g⟩)
  | .lt x e, q => (none, ⟨mput q.b x (wv e q.b), q.s, q.g⟩)
  | .iff e y n, q => if wv e q.b = 0 then goLs n q else goLs y q
  | .fin w, q => (some (if w = "end" then "kept" else "dropped"), q)
def goLs : List Ln → St → Option Str × St
  | [], q => (none, q)
  | l :: ls, q => thn (goLn l q) fun q => goLs ls q
end
theorem goLs_nil {q : St} : goLs [] q = (none, q) := by rw [goLs]
theorem goLs_cons {l : Ln} {ls : List Ln} {q : St} : goLs (l :: ls) q = thn (goLn l q) fun q => goLs ls q := by rw [goLs]
theorem thn_none {q : St} {f : St → Option Str × St} : thn (none, q) f = f q := rfl
theorem thn_some {w : Str} {q : St} {f : St → Option Str × St} : thn (some w, q) f = (some w, q) := rfl
theorem thn_thn {p : Option Str × St} {f g : St → Option Str × St} : thn (thn p f) g = thn p fun q => thn (f q) g := by
  obtain ⟨w, q⟩ := p
  cases w <;> rfl
theorem goLs_app : ∀ {a b : List Ln} {q : St}, goLs (a ++ b) q = thn (goLs a q) fun q => goLs b q
  | [], b, q => by rw [List.nil_append, goLs_nil, thn_none]
  | l :: a, b, q => by
    rw [List.cons_append, goLs_cons, goLs_cons, thn_thn]
    congr
    funext q
    exact goLs_app
structure QOk (names : List D) (q : St) : Prop where
  b : MOk names q.b
  s : MOk names q.s
theorem lst_ref {h : List Cell} {s : Nat} {ds : List D} (e : h[s]? = some (.lst ds)) : lstOf h (.ref s) = some ds := by
  unfold lstOf
  simp only [e]
theorem dct_ref {h : List Cell} {s : Nat} {m : Mp} (e : h[s]? = some (mpC m)) : dctOf h (.ref s) = some (mK m, mV m) := by
  unfold dctOf
  simp only [e]
  rfl
theorem apR {h : List Cell} {s : Nat} {ds : List D} {v : D} (e : h[s]? = some (.lst ds)) (hl : ds.length < maxLen) : appRD h (.ref s) v = some (h.set s (.lst (ds ++ [v]))) := by
  unfold appRD
  simp only [e, if_pos hl]
theorem stM {h : List Cell} {s : Nat} {m : Mp} {x : Str} {v : Int} (e : h[s]? = some (mpC m)) (hl : m.length < maxLen) : stIxD h (.ref s) (.str x) (.int v) = some (h.set s (mpC (mput m x v))) := by
  unfold stIxD
  simp only [e]
  rw [put_m hl]
  rfl
theorem at_last {ds : List D} {x : D} : L2.atI (ds ++ [x]) (-1) = some x := by
  have hl : (ds ++ [x]).length = ds.length + 1 := by simp
  have e : L2.ixN (ds ++ [x]).length (-1) = some ds.length := by
    unfold L2.ixN
    rw [if_neg (by decide), if_pos (by omega)]
    congr 1
    omega
  unfold L2.atI
  rw [e]
  simp
theorem MOk.lt {names : List D} (hn : names.length ≤ 5) {m : Mp} (o : MOk names m) : m.length < maxLen := by
  have := o.len
  show _ < 16777216
  omega
theorem get_set {h : List Cell} {i j : Nat} {c : Cell} (e : i ≠ j) : (h.set i c)[j]? = h[j]? := List.getElem?_set_ne e
theorem sz_pos : ∀ {l : Ln}, 1 ≤ l.sz
  | .get _ _ => Nat.le_refl 1
  | .put _ _ => Nat.le_refl 1
  | .lt _ _ => Nat.le_refl 1
  | .iff _ _ _ => by
    unfold Ln.sz
    omega
  | .fin _ => Nat.le_refl 1
/-- a run's cells -/
structure At (names : List D) (B S G : Nat) (h : List Cell) (q : St) : Prop where
  bs : B ≠ S
  bg : B ≠ G
  sg : S ≠ G
  cb : h[B]? = some (mpC q.b)
  cs : h[S]? = some (mpC q.s)
  cg : h[G]? = some (.lst (q.g.map .int))
  ok : QOk names q
structure Oth (B S G : Nat) (h h' : List Cell) : Prop where
  len : h'.length = h.length
  oth : ∀ j, j ≠ B → j ≠ S → j ≠ G → h'[j]? = h[j]?
theorem Oth.refl {B S G : Nat} {h : List Cell} : Oth B S G h h := ⟨rfl, fun _ _ _ _ => rfl⟩
theorem Oth.trans {B S G : Nat} {h h1 h2 : List Cell} (a : Oth B S G h h1) (b : Oth B S G h1 h2) : Oth B S G h h2 := ⟨b.len.trans a.len, fun j x y z => (b.oth j x y z).trans (a.oth j x y z)⟩
theorem At.getS {names : List D} {B S G : Nat} {h : List Cell} {q : St} (a : At names B S G h q) {x k : Str} (hx : D.str x ∈ names) : At names B S G ((h.set G (.lst (q.g.map .int ++ [.int (mg q.s k)]))).set B (mpC (mput q.b x (mg q.s k)))) ⟨mput q.b x (mg q.s k), q.s, q.g ++ [mg q.s k]⟩ := by
  refine ⟨a.bs, a.bg, a.sg, set_get (c := mpC q.b) (by rw [get_set fun z => a.bg z.symm]; exact a.cb), ?_, ?_, ⟨a.ok.b.put hx (a.ok.s.mg k).1 (a.ok.s.mg k).2, a.ok.s⟩⟩
  · rw [get_set a.bs, get_set fun z => a.sg z.symm]
    exact a.cs
  · rw [get_set a.bg, set_get a.cg]
    simp
theorem At.putS {names : List D} {B S G : Nat} {h : List Cell} {q : St} (a : At names B S G h q) {k : Str} {e : Sm} (hx : D.str k ∈ names) (he : e.ok names) : At names B S G (h.set S (mpC (mput q.s k (wv e q.b)))) ⟨q.b, mput q.s k (wv e q.b), q.g⟩ := by
  refine ⟨a.bs, a.bg, a.sg, ?_, set_get a.cs, ?_, ⟨a.ok.b, a.ok.s.put hx (wv_lt a.ok.b he).1 (wv_lt a.ok.b he).2⟩⟩
  · rw [get_set fun z => a.bs z.symm]
    exact a.cb
  · rw [get_set a.sg]
    exact a.cg
theorem At.ltS {names : List D} {B S G : Nat} {h : List Cell} {q : St} (a : At names B S G h q) {k : Str} {e : Sm} (hx : D.str k ∈ names) (he : e.ok names) : At names B S G (h.set B (mpC (mput q.b k (wv e q.b)))) ⟨mput q.b k (wv e q.b), q.s, q.g⟩ := by
  refine ⟨a.bs, a.bg, a.sg, set_get a.cb, ?_, ?_, ⟨a.ok.b.put hx (wv_lt a.ok.b he).1 (wv_lt a.ok.b he).2, a.ok.s⟩⟩
  · rw [get_set a.bs]
    exact a.cs
  · rw [get_set a.bg]
    exact a.cg
theorem Oth.set {B S G : Nat} {h h1 : List Cell} (a : Oth B S G h h1) {j : Nat} {c : Cell} (hj : j = B ∨ j = S ∨ j = G) : Oth B S G h (h1.set j c) := by
  refine ⟨by rw [List.length_set]; exact a.len, fun i x y z => ?_⟩
  rw [get_set]
  · exact a.oth i x y z
  · rintro rfl
    rcases hj with e | e | e
    · exact x e
    · exact y e
    · exact z e
end DL

set_option linter.all false
set_option Elab.async false
set_option maxRecDepth 100000
set_option maxHeartbeats 4000000
namespace K82
open PySem DC DL
instance : Base T := ⟨rfl, rfl, rfl, rfl, rfl, rfl, rfl, rfl, rfl, rfl, rfl, rfl, rfl, rfl, rfl, rfl, rfl, rfl, rfl, rfl, rfl, rfl, rfl, rfl, rfl, rfl⟩
instance : BaseW T := ⟨rfl⟩
theorem law_worth {names : List D} {m : Mp} (o : MOk names m) : ∀ (s : Sm), s.ok names → ∀ (n : Nat), s.dp ≤ n → ∀ (h : List Cell) (d : D), dctOf h d = some (mK m, mV m) → callN T n 21 [s.toD, d] h = some (.ok (.int (wv s m)) h) := by
  intro s
  induction s with
  | num v =>
    intro _ n hn h d e
    obtain ⟨k, rfl⟩ : ∃ k, n = k + 1 := ⟨n - 1, by unfold Sm.dp at hn; omega⟩
    refine ok_eq (ok_call (n := k) (F := ⟨2, 5, b21⟩) rfl rfl ?_)
    show okCs T (callN T k) b21 [.val (.tup [.str "number", .int v]), .val d, .no, .no, .no] h _ _
    simp (decide := true) only [b21, okCs_nil, okCs_cons, okC_asg, okC_own, okC_stIx, okC_aug, okC_app, okC_ex, okC_ret, okC_retN, okC_ite, okC_for, okE_c, okE_no, okE_v, okE_pk, okE_g, okE_bin, okE_neg, okE_cmp, okE_chain, okE_and, okE_or, okE_not, okE_ite, okE_isi, okE_b1, okE_b2, okE_bm, okE_call, okE_ix, okE_sl, okE_tup, okE_lst, okE_dct, okE_new, okE_lc, okEs_nil, okEs_cons, onVal_val, onOwn_own, onO_some, onO_none, onO_map, onB_bl, onCell_lst, onCell_dct, onInts_int, okO_ok, okE_attr, okE_meth, okE_make, okE_getd, okE_orv, okE_popK, okE_popL, okC_appR, okC_stAt, onNon_non, List.getElem?_cons_zero, List.getElem?_cons_succ, List.set_cons_zero, List.set_cons_succ, isNo, boundC, ix_tup, at0, at1, c_eqS, qa00, if_true]
    exact ⟨rfl, trivial⟩
  | box x =>
    intro _ n hn h d e
    obtain ⟨k, rfl⟩ : ∃ k, n = k + 1 := ⟨n - 1, by unfold Sm.dp at hn; omega⟩
    refine ok_eq (ok_call (n := k) (F := ⟨2, 5, b21⟩) rfl rfl ?_)
    show okCs T (callN T k) b21 [.val (.tup [.str "box", .str x]), .val d, .no, .no, .no] h _ _
    simp (decide := true) only [b21, okCs_nil, okCs_cons, okC_asg, okC_own, okC_stIx, okC_aug, okC_app, okC_ex, okC_ret, okC_retN, okC_ite, okC_for, okE_c, okE_no, okE_v, okE_pk, okE_g, okE_bin, okE_neg, okE_cmp, okE_chain, okE_and, okE_or, okE_not, okE_ite, okE_isi, okE_b1, okE_b2, okE_bm, okE_call, okE_ix, okE_sl, okE_tup, okE_lst, okE_dct, okE_new, okE_lc, okEs_nil, okEs_cons, onVal_val, onOwn_own, onO_some, onO_none, onO_map, onB_bl, onCell_lst, onCell_dct, onInts_int, okO_ok, okE_attr, okE_meth, okE_make, okE_getd, okE_orv, okE_popK, okE_popL, okC_appR, okC_stAt, onNon_non, List.getElem?_cons_zero, List.getElem?_cons_succ, List.set_cons_zero, List.set_cons_succ, isNo, boundC, ix_tup, at0, at1, c_eqS, qa00, qa01, qa02, qa03, qa04, qa05, qa06, qa10, qa11, qa12, qa13, qa14, qa15, qa16, qa20, qa21, qa22, qa23, qa24, qa25, qa26, qa30, qa31, qa32, qa33, qa34, qa35, qa36, qa40, qa41, qa42, qa43, qa44, qa45, qa46, qa50, qa51, qa52, qa53, qa54, qa55, qa56, qa60, qa61, qa62, qa63, qa64, qa65, qa66, qb00, qb01, qb02, qb03, qb04, qb05, qb10, qb11, qb12, qb13, qb14, qb15, qb20, qb21, qb22, qb23, qb24, qb25, qb30, qb31, qb32, qb33, qb34, qb35, qb40, qb41, qb42, qb43, qb44, qb45, qb50, qb51, qb52, qb53, qb54, qb55, if_true, Bool.false_eq_true, if_false, getd_m e]
    rw [e]
    exact ⟨rfl, rfl, trivial⟩
  | op s a b iha ihb =>
    intro ho n hn h d e
    obtain ⟨k, rfl⟩ : ∃ k, n = k + 1 := ⟨n - 1, by unfold Sm.dp at hn; omega⟩
    obtain ⟨hs, ha, hb⟩ := ho
    have hn : 1 + max a.dp b.dp ≤ k + 1 := hn
    have c1 := iha ha k (by omega) h d e
    have c2 := ihb hb k (by omega) h d e
    have f1 := fits_v (b := wv b m) (wv_lt o ha)
    refine ok_eq (ok_call (n := k) (F := ⟨2, 5, b21⟩) rfl rfl ?_)
    show okCs T (callN T k) b21 [.val (.tup [.str s, a.toD, b.toD]), .val d, .no, .no, .no] h _ _
    have hm : (0 : Int) < 1000 := by decide
    have ixd : ∀ (x1 x2 x3 x4 x5 : D) (h : List Cell) (y : Str), ixD h (.dct [.inr "+", .inr "-", .inr "*", .inr "<", .inr "="] [x1, x2, x3, x4, x5]) (.str y) = if ("+" : Str) == y then some x1 else if ("-" : Str) == y then some x2 else if ("*" : Str) == y then some x3 else if ("<" : Str) == y then some x4 else if ("=" : Str) == y then some x5 else none := fun x1 x2 x3 x4 x5 h y => by
      show (if (Sum.inr _ : Key) = .inr y then some x1 else if (Sum.inr _ : Key) = .inr y then some x2 else if (Sum.inr _ : Key) = .inr y then some x3 else if (Sum.inr _ : Key) = .inr y then some x4 else if (Sum.inr _ : Key) = .inr y then some x5 else none) = _
      simp only [beq_iff_eq, Sum.inr.injEq]
    rcases sign_cases hs with rfl | rfl | rfl | rfl | rfl <;>
      simp (decide := true) only [b21, okCs_nil, okCs_cons, okC_asg, okC_own, okC_stIx, okC_aug, okC_app, okC_ex, okC_ret, okC_retN, okC_ite, okC_for, okE_c, okE_no, okE_v, okE_pk, okE_g, okE_bin, okE_neg, okE_cmp, okE_chain, okE_and, okE_or, okE_not, okE_ite, okE_isi, okE_b1, okE_b2, okE_bm, okE_call, okE_ix, okE_sl, okE_tup, okE_lst, okE_dct, okE_new, okE_lc, okEs_nil, okEs_cons, onVal_val, onOwn_own, onO_some, onO_none, onO_map, onB_bl, onCell_lst, onCell_dct, onInts_int, okO_ok, okE_attr, okE_meth, okE_make, okE_getd, okE_orv, okE_popK, okE_popL, okC_appR, okC_stAt, onNon_non, List.getElem?_cons_zero, List.getElem?_cons_succ, List.set_cons_zero, List.set_cons_succ, isNo, boundC, ix_tup, at0, at1, at2, c_eqS, qa00, qa01, qa02, qa03, qa04, qa05, qa06, qa10, qa11, qa12, qa13, qa14, qa15, qa16, qa20, qa21, qa22, qa23, qa24, qa25, qa26, qa30, qa31, qa32, qa33, qa34, qa35, qa36, qa40, qa41, qa42, qa43, qa44, qa45, qa46, qa50, qa51, qa52, qa53, qa54, qa55, qa56, qa60, qa61, qa62, qa63, qa64, qa65, qa66, qb00, qb01, qb02, qb03, qb04, qb05, qb10, qb11, qb12, qb13, qb14, qb15, qb20, qb21, qb22, qb23, qb24, qb25, qb30, qb31, qb32, qb33, qb34, qb35, qb40, qb41, qb42, qb43, qb44, qb45, qb50, qb51, qb52, qb53, qb54, qb55, if_true, Bool.false_eq_true, if_false, c1, c2, b_add, b_sub, b_mul f1, b_mod hm, c_lt, c_eq, int_bl, and_true, ixd]
    · rw [wv_op, if_pos rfl]
    · rw [wv_op, if_neg (ne_of qa23), if_pos rfl]
    · rw [wv_op, if_neg (ne_of qa24), if_neg (ne_of qa34), if_pos rfl]
    · rw [wv_op, if_neg (ne_of qa25), if_neg (ne_of qa35), if_neg (ne_of qa45), if_pos rfl]
      by_cases q : wv a m < wv b m <;> simp [q]
    · rw [wv_op, if_neg (ne_of qa26), if_neg (ne_of qa36), if_neg (ne_of qa46), if_neg (ne_of qa56)]
      by_cases q : wv a m = wv b m <;> simp [q]
end K82

set_option linter.all false
set_option Elab.async false
set_option maxRecDepth 100000
set_option maxHeartbeats 4000000
namespace K82
open PySem DC DL
def fD : Option Str → D
  | none => .non
  | some f => .str f
def iteG : CS := .ite (.cmp .eq (.ix (.v 4) (.c (.int 0))) (.c (.str "get"))) [.appR (.v 3) (.getd (.v 2) (.ix (.v 4) (.c (.int 2))) (.c (.int 0))),
    .stIx (.v 1) (.ix (.v 4) (.c (.int 1))) (.ix (.v 3) (.neg (.c (.int 1))))] [.ite (.cmp .eq (.ix (.v 4) (.c (.int 0))) (.c (.str "put"))) [.stIx (.v 2) (.ix (.v 4) (.c (.int 1))) (.call 21 [(.ix (.v 4) (.c (.int 2))), (.v 1)])] [.ite (.cmp .eq (.ix (.v 4) (.c (.int 0))) (.c (.str "let"))) [.stIx (.v 1) (.ix (.v 4) (.c (.int 1))) (.call 21 [(.ix (.v 4) (.c (.int 2))), (.v 1)])] [.ite (.cmp .eq (.ix (.v 4) (.c (.int 0))) (.c (.str "if"))) [.asg 5 (.call 22 [(.ix (.v 4) (.bin .add (.c (.int 2)) (.b1 .int (.cmp .eq (.call 21 [(.ix (.v 4) (.c (.int 1))), (.v 1)]) (.c (.int 0)))))), (.v 1), (.v 2), (.v 3)])] [.asg 5 (.ix (.dct [(.inr "end"), (.inr "drop")] [(.c (.str "kept")), (.c (.str "dropped"))]) (.ix (.v 4) (.c (.int 0))))]]]]
def bdG : List CS := [.asg 5 (.c .non), iteG, .ite (.cmp .notN (.v 5) (.c .non)) [.ret (.v 5)] []]
theorem b22_eq : b22 = [.for_ .seq [(.v 0)] (.one 4) bdG, .ret (.c .non)] := rfl
/-- what a run leaves -/
structure Ran (names : List D) (B S G : Nat) (h h' : List Cell) (q : St) (z : Nat) : Prop where
  at' : At names B S G h' q
  oth : Oth B S G h h'
  len : q.g.length ≤ z
def GoneSpec (ls : List Ln) : Prop := ∀ (names : List D) (q : St) (h : List Cell) (B S G n z : Nat), names.length ≤ 5 → oks names ls → At names B S G h q → q.g.length + szs ls ≤ z → z ≤ 1000 → szs ls + 6 ≤ n →
  okO (callN T n 22 [.tup (toDs ls), .ref B, .ref S, .ref G] h) fun r h' => r = fD (goLs ls q).1 ∧ Ran names B S G h h' (goLs ls q).2 z
theorem fin_in {h : List Cell} {w : Str} (hw : w = "end" ∨ w = "drop") : ixD h (.dct [.inr "end", .inr "drop"] [.str "kept", .str "dropped"]) (.str w) = some (.str (if w = "end" then "kept" else "dropped")) := by
  show (if (Sum.inr _ : Key) = .inr w then some (D.str "kept") else if (Sum.inr _ : Key) = .inr w then some (D.str "dropped") else none) = _
  rcases hw with rfl | rfl
  · simp
  · have := ne_of qb45
    have h2 : ¬ ("drop" : Str) = "end" := this
    simp only [Sum.inr.injEq, if_true]
    rw [if_neg (fun z => h2 z.symm), if_neg h2]
theorem gone_loop {K m : Nat} (hyp : ∀ y, szs y + 1 ≤ K → GoneSpec y) {names : List D} (hn5 : names.length ≤ 5) {B S G z : Nat} (hz : z ≤ 1000) {h0 : List Cell} {d0 : D} : ∀ (ls : List Ln), szs ls ≤ K → oks names ls → szs ls + 5 ≤ m → ∀ (q : St) (h : List Cell) (s4 s5 : Slot), At names B S G h q → Oth B S G h0 h → q.g.length + szs ls ≤ z →
    okS (forL (forF T (callN T m) (.one 4) bdG) (toDs ls) [.val d0, .val (.ref B), .val (.ref S), .val (.ref G), s4, s5] h)
      (fun Γ h' => (∃ s4 s5, Γ = [.val d0, .val (.ref B), .val (.ref S), .val (.ref G), s4, s5]) ∧ (goLs ls q).1 = none ∧ Ran names B S G h0 h' (goLs ls q).2 z) (fun r h' => r = fD (goLs ls q).1 ∧ Ran names B S G h0 h' (goLs ls q).2 z)
  | [], _, _, _, q, h, s4, s5, a, o, hl => by
    rw [goLs_nil, toDs, forL]
    have hl : q.g.length + 0 ≤ z := hl
    exact ⟨⟨s4, s5, rfl⟩, rfl, a, o, hl⟩
  | l :: ls, hK, ok, hm, q, h, s4, s5, a, o, hl => by
    have hs : szs (l :: ls) = l.sz + szs ls := by rw [szs]
    have hp := sz_pos (l := l)
    rw [hs] at hK hm hl
    unfold oks at ok
    obtain ⟨ol, ols⟩ := ok
    rw [toDs]
    refine for_cons ?_
    rw [okS_forF]
    simp only [setTg, onO_some, List.set_cons_succ, List.set_cons_zero]
    rw [goLs_cons]
    have stepA : ∀ {c : List CS} {N : List Slot → List Cell → Prop} {R : D → List Cell → Prop}, okCs T (callN T m) c [.val d0, .val (.ref B), .val (.ref S), .val (.ref G), .val l.toD, .val .non] h N R → okCs T (callN T m) (.asg 5 (.c .non) :: c) [.val d0, .val (.ref B), .val (.ref S), .val (.ref G), .val l.toD, s5] h N R := fun g => okCs_step (by simp only [okCs_nil, okCs_cons, okC_asg, okC_own, okC_stIx, okC_aug, okC_app, okC_ex, okC_ret, okC_retN, okC_ite, okC_for, okE_c, okE_no, okE_v, okE_pk, okE_g, okE_bin, okE_neg, okE_cmp, okE_chain, okE_and, okE_or, okE_not, okE_ite, okE_isi, okE_b1, okE_b2, okE_bm, okE_call, okE_ix, okE_sl, okE_tup, okE_lst, okE_dct, okE_new, okE_lc, okEs_nil, okEs_cons, onVal_val, onOwn_own, onO_some, onO_none, onO_map, onB_bl, onCell_lst, onCell_dct, onInts_int, okO_ok, okE_attr, okE_meth, okE_make, okE_getd, okE_orv, okE_popK, okE_popL, okC_appR, okC_stAt, onNon_non, List.getElem?_cons_zero, List.getElem?_cons_succ, List.set_cons_zero, List.set_cons_succ, isNo, boundC]; exact ⟨trivial, trivial⟩) g
    unfold bdG
    refine stepA ?_
    have plain : ∀ {q' : St} {h' : List Cell}, goLn l q = (none, q') → okC T (callN T m) iteG [.val d0, .val (.ref B), .val (.ref S), .val (.ref G), .val l.toD, .val .non] h (fun Γ1 h1 => Γ1 = [.val d0, .val (.ref B), .val (.ref S), .val (.ref G), .val l.toD, .val .non] ∧ h1 = h') (fun _ _ => False) → At names B S G h' q' → Oth B S G h0 h' → q'.g.length ≤ q.g.length + 1 →
        okCs T (callN T m) [iteG, .ite (.cmp .notN (.v 5) (.c .non)) [.ret (.v 5)] []] [.val d0, .val (.ref B), .val (.ref S), .val (.ref G), .val l.toD, .val .non] h (fun Γ h => okS (forL (forF T (callN T m) (.one 4) bdG) (toDs ls) Γ h)
      (fun Γ h' => (∃ s4 s5, Γ = [.val d0, .val (.ref B), .val (.ref S), .val (.ref G), s4, s5]) ∧ (thn (goLn l q) fun q => goLs ls q).1 = none ∧ Ran names B S G h0 h' (thn (goLn l q) fun q => goLs ls q).2 z) (fun r h' => r = fD (thn (goLn l q) fun q => goLs ls q).1 ∧ Ran names B S G h0 h' (thn (goLn l q) fun q => goLs ls q).2 z)) (fun r h' => r = fD (thn (goLn l q) fun q => goLs ls q).1 ∧ Ran names B S G h0 h' (thn (goLn l q) fun q => goLs ls q).2 z) := by
      intro q' h' e g a' o' hg
      refine okCs_step g ?_
      simp (decide := true) only [okCs_nil, okCs_cons, okC_asg, okC_own, okC_stIx, okC_aug, okC_app, okC_ex, okC_ret, okC_retN, okC_ite, okC_for, okE_c, okE_no, okE_v, okE_pk, okE_g, okE_bin, okE_neg, okE_cmp, okE_chain, okE_and, okE_or, okE_not, okE_ite, okE_isi, okE_b1, okE_b2, okE_bm, okE_call, okE_ix, okE_sl, okE_tup, okE_lst, okE_dct, okE_new, okE_lc, okEs_nil, okEs_cons, onVal_val, onOwn_own, onO_some, onO_none, onO_map, onB_bl, onCell_lst, onCell_dct, onInts_int, okO_ok, okE_attr, okE_meth, okE_make, okE_getd, okE_orv, okE_popK, okE_popL, okC_appR, okC_stAt, onNon_non, List.getElem?_cons_zero, List.getElem?_cons_succ, List.set_cons_zero, List.set_cons_succ, isNo, boundC, cmpD, Bool.false_eq_true, if_false]
      rw [e, thn_none]
      exact gone_loop hyp hn5 hz ls (by omega) ols (by omega) q' h' _ _ a' o' (by omega)
    cases l with
    | get x k =>
      obtain ⟨hx, hk⟩ := ol
      have e1 := a.cg
      have l1 : (q.g.map D.int).length < maxLen := by
        rw [List.length_map]
        show _ < 16777216
        omega
      have e2 := set_get (c' := .lst (q.g.map .int ++ [.int (mg q.s k)])) e1
      have e3 : (h.set G (.lst (q.g.map .int ++ [.int (mg q.s k)])))[B]? = some (mpC q.b) := by
        rw [get_set fun z => a.bg z.symm]
        exact a.cb
      refine plain (q' := ⟨mput q.b x (mg q.s k), q.s, q.g ++ [mg q.s k]⟩) (by rw [goLn]) ?_ (a.getS hx) ((o.set (.inr (.inr rfl))).set (.inl rfl)) (by simp)
      simp (decide := true) only [iteG, okCs_nil, okCs_cons, okC_asg, okC_own, okC_stIx, okC_aug, okC_app, okC_ex, okC_ret, okC_retN, okC_ite, okC_for, okE_c, okE_no, okE_v, okE_pk, okE_g, okE_bin, okE_neg, okE_cmp, okE_chain, okE_and, okE_or, okE_not, okE_ite, okE_isi, okE_b1, okE_b2, okE_bm, okE_call, okE_ix, okE_sl, okE_tup, okE_lst, okE_dct, okE_new, okE_lc, okEs_nil, okEs_cons, onVal_val, onOwn_own, onO_some, onO_none, onO_map, onB_bl, onCell_lst, onCell_dct, onInts_int, okO_ok, okE_attr, okE_meth, okE_make, okE_getd, okE_orv, okE_popK, okE_popL, okC_appR, okC_stAt, onNon_non, List.getElem?_cons_zero, List.getElem?_cons_succ, List.set_cons_zero, List.set_cons_succ, isNo, boundC, Ln.toD, ix_tup, at0, at1, at2, c_eqS, qa00, qa01, qa02, qa03, qa04, qa05, qa06, qa10, qa11, qa12, qa13, qa14, qa15, qa16, qa20, qa21, qa22, qa23, qa24, qa25, qa26, qa30, qa31, qa32, qa33, qa34, qa35, qa36, qa40, qa41, qa42, qa43, qa44, qa45, qa46, qa50, qa51, qa52, qa53, qa54, qa55, qa56, qa60, qa61, qa62, qa63, qa64, qa65, qa66, qb00, qb01, qb02, qb03, qb04, qb05, qb10, qb11, qb12, qb13, qb14, qb15, qb20, qb21, qb22, qb23, qb24, qb25, qb30, qb31, qb32, qb33, qb34, qb35, qb40, qb41, qb42, qb43, qb44, qb45, qb50, qb51, qb52, qb53, qb54, qb55, if_true, lst_ref e1, dct_ref a.cs, getd_m (dct_ref a.cs), apR e1 l1, negD, ix_ref e2, at_last, stM e3 (a.ok.b.lt hn5), Option.isSome, true_and, and_true]
    | put k e =>
      obtain ⟨hk, he, hd⟩ := ol
      have hk4 : e.dp ≤ 4 := hd
      refine plain (q' := ⟨q.b, mput q.s k (wv e q.b), q.g⟩) (by rw [goLn]) ?_ (a.putS hk he) (o.set (.inr (.inl rfl))) (by simp)
      simp (decide := true) only [iteG, okCs_nil, okCs_cons, okC_asg, okC_own, okC_stIx, okC_aug, okC_app, okC_ex, okC_ret, okC_retN, okC_ite, okC_for, okE_c, okE_no, okE_v, okE_pk, okE_g, okE_bin, okE_neg, okE_cmp, okE_chain, okE_and, okE_or, okE_not, okE_ite, okE_isi, okE_b1, okE_b2, okE_bm, okE_call, okE_ix, okE_sl, okE_tup, okE_lst, okE_dct, okE_new, okE_lc, okEs_nil, okEs_cons, onVal_val, onOwn_own, onO_some, onO_none, onO_map, onB_bl, onCell_lst, onCell_dct, onInts_int, okO_ok, okE_attr, okE_meth, okE_make, okE_getd, okE_orv, okE_popK, okE_popL, okC_appR, okC_stAt, onNon_non, List.getElem?_cons_zero, List.getElem?_cons_succ, List.set_cons_zero, List.set_cons_succ, isNo, boundC, Ln.toD, ix_tup, at0, at1, at2, c_eqS, qa00, qa01, qa02, qa03, qa04, qa05, qa06, qa10, qa11, qa12, qa13, qa14, qa15, qa16, qa20, qa21, qa22, qa23, qa24, qa25, qa26, qa30, qa31, qa32, qa33, qa34, qa35, qa36, qa40, qa41, qa42, qa43, qa44, qa45, qa46, qa50, qa51, qa52, qa53, qa54, qa55, qa56, qa60, qa61, qa62, qa63, qa64, qa65, qa66, qb00, qb01, qb02, qb03, qb04, qb05, qb10, qb11, qb12, qb13, qb14, qb15, qb20, qb21, qb22, qb23, qb24, qb25, qb30, qb31, qb32, qb33, qb34, qb35, qb40, qb41, qb42, qb43, qb44, qb45, qb50, qb51, qb52, qb53, qb54, qb55, if_true, Bool.false_eq_true, if_false, law_worth a.ok.b e he m (by omega) h _ (dct_ref a.cb), stM a.cs (a.ok.s.lt hn5), true_and, and_true]
    | lt k e =>
      obtain ⟨hk, he, hd⟩ := ol
      have hk4 : e.dp ≤ 4 := hd
      refine plain (q' := ⟨mput q.b k (wv e q.b), q.s, q.g⟩) (by rw [goLn]) ?_ (a.ltS hk he) (o.set (.inl rfl)) (by simp)
      simp (decide := true) only [iteG, okCs_nil, okCs_cons, okC_asg, okC_own, okC_stIx, okC_aug, okC_app, okC_ex, okC_ret, okC_retN, okC_ite, okC_for, okE_c, okE_no, okE_v, okE_pk, okE_g, okE_bin, okE_neg, okE_cmp, okE_chain, okE_and, okE_or, okE_not, okE_ite, okE_isi, okE_b1, okE_b2, okE_bm, okE_call, okE_ix, okE_sl, okE_tup, okE_lst, okE_dct, okE_new, okE_lc, okEs_nil, okEs_cons, onVal_val, onOwn_own, onO_some, onO_none, onO_map, onB_bl, onCell_lst, onCell_dct, onInts_int, okO_ok, okE_attr, okE_meth, okE_make, okE_getd, okE_orv, okE_popK, okE_popL, okC_appR, okC_stAt, onNon_non, List.getElem?_cons_zero, List.getElem?_cons_succ, List.set_cons_zero, List.set_cons_succ, isNo, boundC, Ln.toD, ix_tup, at0, at1, at2, c_eqS, qa00, qa01, qa02, qa03, qa04, qa05, qa06, qa10, qa11, qa12, qa13, qa14, qa15, qa16, qa20, qa21, qa22, qa23, qa24, qa25, qa26, qa30, qa31, qa32, qa33, qa34, qa35, qa36, qa40, qa41, qa42, qa43, qa44, qa45, qa46, qa50, qa51, qa52, qa53, qa54, qa55, qa56, qa60, qa61, qa62, qa63, qa64, qa65, qa66, qb00, qb01, qb02, qb03, qb04, qb05, qb10, qb11, qb12, qb13, qb14, qb15, qb20, qb21, qb22, qb23, qb24, qb25, qb30, qb31, qb32, qb33, qb34, qb35, qb40, qb41, qb42, qb43, qb44, qb45, qb50, qb51, qb52, qb53, qb54, qb55, if_true, Bool.false_eq_true, if_false, law_worth a.ok.b e he m (by omega) h _ (dct_ref a.cb), stM a.cb (a.ok.b.lt hn5), true_and, and_true]
    | fin w =>
      have hw : w = "end" ∨ w = "drop" := ol
      rw [show goLn (.fin w) q = (some (if w = "end" then ("kept" : Str) else "dropped"), q) by rw [goLn], thn_some]
      have fi : ∀ h, ixD h (.dct [.inr "end", .inr "drop"] [.str "kept", .str "dropped"]) (.str w) = some (.str (if w = "end" then "kept" else "dropped")) := fun h => fin_in hw
      have g : okC T (callN T m) iteG [.val d0, .val (.ref B), .val (.ref S), .val (.ref G), .val (Ln.fin w).toD, .val .non] h (fun Γ1 h1 => Γ1 = [.val d0, .val (.ref B), .val (.ref S), .val (.ref G), .val (Ln.fin w).toD, .val (.str (if w = "end" then "kept" else "dropped"))] ∧ h1 = h) (fun _ _ => False) := by
        have n1 : (("get" : Str) == w) = false := by rcases hw with rfl | rfl <;> decide +kernel
        have n2 : (("put" : Str) == w) = false := by rcases hw with rfl | rfl <;> decide +kernel
        have n3 : (("let" : Str) == w) = false := by rcases hw with rfl | rfl <;> decide +kernel
        have n4 : (("if" : Str) == w) = false := by rcases hw with rfl | rfl <;> decide +kernel
        simp (decide := true) only [iteG, okCs_nil, okCs_cons, okC_asg, okC_own, okC_stIx, okC_aug, okC_app, okC_ex, okC_ret, okC_retN, okC_ite, okC_for, okE_c, okE_no, okE_v, okE_pk, okE_g, okE_bin, okE_neg, okE_cmp, okE_chain, okE_and, okE_or, okE_not, okE_ite, okE_isi, okE_b1, okE_b2, okE_bm, okE_call, okE_ix, okE_sl, okE_tup, okE_lst, okE_dct, okE_new, okE_lc, okEs_nil, okEs_cons, onVal_val, onOwn_own, onO_some, onO_none, onO_map, onB_bl, onCell_lst, onCell_dct, onInts_int, okO_ok, okE_attr, okE_meth, okE_make, okE_getd, okE_orv, okE_popK, okE_popL, okC_appR, okC_stAt, onNon_non, List.getElem?_cons_zero, List.getElem?_cons_succ, List.set_cons_zero, List.set_cons_succ, isNo, boundC, Ln.toD, ix_tup, at0, c_eqS, n1, n2, n3, n4, Bool.false_eq_true, if_false, fi, true_and, and_true]
      refine okCs_step g ?_
      simp (decide := true) only [okCs_nil, okCs_cons, okC_asg, okC_own, okC_stIx, okC_aug, okC_app, okC_ex, okC_ret, okC_retN, okC_ite, okC_for, okE_c, okE_no, okE_v, okE_pk, okE_g, okE_bin, okE_neg, okE_cmp, okE_chain, okE_and, okE_or, okE_not, okE_ite, okE_isi, okE_b1, okE_b2, okE_bm, okE_call, okE_ix, okE_sl, okE_tup, okE_lst, okE_dct, okE_new, okE_lc, okEs_nil, okEs_cons, onVal_val, onOwn_own, onO_some, onO_none, onO_map, onB_bl, onCell_lst, onCell_dct, onInts_int, okO_ok, okE_attr, okE_meth, okE_make, okE_getd, okE_orv, okE_popK, okE_popL, okC_appR, okC_stAt, onNon_non, List.getElem?_cons_zero, List.getElem?_cons_succ, List.set_cons_zero, List.set_cons_succ, isNo, boundC, cmpD, if_true]
      exact ⟨rfl, a, o, by show q.g.length ≤ z; omega⟩
    | iff e y nn =>
      obtain ⟨⟨he, hd⟩, oy, on'⟩ := ol
      have hk4 : e.dp ≤ 4 := hd
      have hsz : (Ln.iff e y nn).sz = 1 + szs y + szs nn := by rw [Ln.sz]
      rw [hsz] at hK hm hl
      have main : ∀ (sub : List Ln), goLn (.iff e y nn) q = goLs sub q → szs sub ≤ szs y + szs nn → oks names sub → L2.atI [D.str "if", e.toD, .tup (toDs y), .tup (toDs nn)] (2 + (if decide (wv e q.b = 0) then 1 else 0)) = some (.tup (toDs sub)) →
          okCs T (callN T m) [iteG, .ite (.cmp .notN (.v 5) (.c .non)) [.ret (.v 5)] []] [.val d0, .val (.ref B), .val (.ref S), .val (.ref G), .val (Ln.iff e y nn).toD, .val .non] h (fun Γ h => okS (forL (forF T (callN T m) (.one 4) bdG) (toDs ls) Γ h)
      (fun Γ h' => (∃ s4 s5, Γ = [.val d0, .val (.ref B), .val (.ref S), .val (.ref G), s4, s5]) ∧ (thn (goLn (.iff e y nn) q) fun q => goLs ls q).1 = none ∧ Ran names B S G h0 h' (thn (goLn (.iff e y nn) q) fun q => goLs ls q).2 z) (fun r h' => r = fD (thn (goLn (.iff e y nn) q) fun q => goLs ls q).1 ∧ Ran names B S G h0 h' (thn (goLn (.iff e y nn) q) fun q => goLs ls q).2 z)) (fun r h' => r = fD (thn (goLn (.iff e y nn) q) fun q => goLs ls q).1 ∧ Ran names B S G h0 h' (thn (goLn (.iff e y nn) q) fun q => goLs ls q).2 z) := by
        intro sub eg es os ea
        have sp := hyp sub (by omega) names q h B S G m (q.g.length + szs sub) hn5 os a (Nat.le_refl _) (by omega) (by omega)
        rw [eg, okCs_cons]
        simp (decide := true) only [iteG, okC_ite, okE_cmp, okE_ix, okE_v, okE_c, List.getElem?_cons_zero, List.getElem?_cons_succ, onVal_val, Ln.toD, ix_tup, at0, at1, c_eqS, qa00, qa01, qa02, qa03, qa04, qa05, qa06, qa10, qa11, qa12, qa13, qa14, qa15, qa16, qa20, qa21, qa22, qa23, qa24, qa25, qa26, qa30, qa31, qa32, qa33, qa34, qa35, qa36, qa40, qa41, qa42, qa43, qa44, qa45, qa46, qa50, qa51, qa52, qa53, qa54, qa55, qa56, qa60, qa61, qa62, qa63, qa64, qa65, qa66, qb00, qb01, qb02, qb03, qb04, qb05, qb10, qb11, qb12, qb13, qb14, qb15, qb20, qb21, qb22, qb23, qb24, qb25, qb30, qb31, qb32, qb33, qb34, qb35, qb40, qb41, qb42, qb43, qb44, qb45, qb50, qb51, qb52, qb53, qb54, qb55, onO_some, onB_bl, if_true, Bool.false_eq_true, if_false, okCs_cons, okCs_nil, okC_asg, okE_call, okEs_cons, okEs_nil, okE_bin, okE_b1, law_worth a.ok.b e he m (by omega) h _ (dct_ref a.cb), okO_ok, c_eq, int_bl, b_add, ea]
        refine sp.mono fun r h1 ⟨er, rn⟩ => ?_
        subst er
        simp only [List.set_cons_succ, List.set_cons_zero, okC_ite, okE_cmp, okE_v, okE_c, List.getElem?_cons_zero, List.getElem?_cons_succ, onVal_val]
        have rl := rn.len
        cases ef : (goLs sub q).1 with
        | none =>
          simp (decide := true) only [fD, cmpD, onO_some, onB_bl, Bool.false_eq_true, if_false, okCs_nil]
          rw [show (goLs sub q) = (none, (goLs sub q).2) from Prod.ext ef rfl, thn_none]
          exact gone_loop hyp hn5 hz ls (by omega) ols (by omega) _ h1 _ _ rn.at' (o.trans rn.oth) (by omega)
        | some f =>
          simp (decide := true) only [fD, cmpD, onO_some, onB_bl, if_true, okCs_cons, okCs_nil, okC_ret, okE_v, List.getElem?_cons_zero, List.getElem?_cons_succ, onVal_val]
          rw [show (goLs sub q) = (some f, (goLs sub q).2) from Prod.ext ef rfl, thn_some]
          exact ⟨rfl, rn.at', o.trans rn.oth, by show (goLs sub q).2.g.length ≤ z; omega⟩
      by_cases c0 : wv e q.b = 0
      · refine main nn (by rw [goLn, if_pos c0]) (by omega) on' ?_
        rw [if_pos (by simp [c0])]
        exact at3
      · refine main y (by rw [goLn, if_neg c0]) (by omega) oy ?_
        rw [if_neg (by simp [c0])]
        exact at2
theorem gone_of {K : Nat} (hyp : ∀ y, szs y + 1 ≤ K → GoneSpec y) (ls : List Ln) (hK : szs ls ≤ K) : GoneSpec ls := by
  intro names q h B S G n z hn5 ok a hl hz hn
  obtain ⟨m, rfl⟩ : ∃ m, n = m + 1 := ⟨n - 1, by omega⟩
  refine ok_call (n := m) (F := ⟨4, 6, b22⟩) rfl rfl ?_
  show okCs T (callN T m) b22 [.val (.tup (toDs ls)), .val (.ref B), .val (.ref S), .val (.ref G), .no, .no] h _ _
  rw [b22_eq, okCs_cons]
  simp only [okC_for, okEs_cons, okEs_nil, okE_v, List.getElem?_cons_zero, onVal_val, itemsOf, onO_some]
  refine (gone_loop hyp hn5 hz ls hK ok (by omega) q h _ _ a Oth.refl hl).mono (fun Γ h' ⟨⟨s4, s5, e1⟩, e2, e3⟩ => ?_) fun r h' q => q
  subst e1
  simp only [okCs_cons, okC_ret, okE_c]
  rw [e2]
  exact ⟨rfl, e3⟩
theorem goneK : ∀ (K : Nat) (ls : List Ln), szs ls ≤ K → GoneSpec ls
  | 0 => gone_of fun y hy => absurd hy (by omega)
  | K + 1 => gone_of fun y hy => goneK K y (by omega)
theorem gone (ls : List Ln) : GoneSpec ls := goneK _ ls (Nat.le_refl _)
end K82

set_option linter.all false
set_option Elab.async false
set_option maxRecDepth 100000
set_option maxHeartbeats 100000
namespace K82
open PySem DC DL
def insC (B : Nat) (cont : List Ln) : Cell := .ins "Play" [("boxes", .ref B), ("coming", .lst (toDs cont))]
theorem f_boxes : T.fld "Play" "boxes" = true := by decide +kernel
theorem f_coming : T.fld "Play" "coming" = true := by decide +kernel
theorem m_asked : T.meth "Play" "asked" = some 18 := by decide +kernel
theorem m_answered : T.meth "Play" "answered" = some 19 := by decide +kernel
theorem i_play : T.init "Play" = some 17 := by decide +kernel
theorem nbc : ¬ ("boxes" : Str) = "coming" := by decide +kernel
theorem bbc : (("coming" : Str) == "boxes") = false := by decide +kernel
theorem qc1 : (("asked" : Str) == "boxes") = false := by decide +kernel
theorem qc2 : (("asked" : Str) == "coming") = false := by decide +kernel
theorem qc3 : (("answered" : Str) == "boxes") = false := by decide +kernel
theorem qc4 : (("answered" : Str) == "coming") = false := by decide +kernel
theorem lk_asked {B : Nat} {l : D} : (List.lookup ("asked" : Str) [(("boxes" : Str), D.ref B), ("coming", l)]).isNone = true := by
  simp only [List.lookup, qc1, qc2]
  rfl
theorem lk_answered {B : Nat} {l : D} : (List.lookup ("answered" : Str) [(("boxes" : Str), D.ref B), ("coming", l)]).isNone = true := by
  simp only [List.lookup, qc3, qc4]
  rfl
section
variable {h : List Cell} {P B : Nat} {cont : List Ln}
theorem at_boxes (e : h[P]? = some (insC B cont)) : attrD T.fld h (.ref P) "boxes" = some (.ref B) := by
  unfold attrD
  simp only [e, insC, f_boxes, if_true]
  simp [List.lookup]
theorem at_coming (e : h[P]? = some (insC B cont)) : attrD T.fld h (.ref P) "coming" = some (.lst (toDs cont)) := by
  unfold attrD
  simp only [e, insC, f_coming, if_true]
  simp [List.lookup, bbc]
theorem st_coming {c2 : List Ln} (e : h[P]? = some (insC B cont)) : stAtD T.fld h (.ref P) "coming" (.lst (toDs c2)) = some (h.set P (insC B c2)) := by
  unfold stAtD
  simp only [e, insC, f_coming]
  simp [putFD, nbc, insC]
theorem mt_asked (e : h[P]? = some (insC B cont)) : methD T.meth h (.ref P) "asked" = some 18 := by
  unfold methD
  simp only [e, insC, m_asked]
  rw [if_pos lk_asked]
theorem mt_answered (e : h[P]? = some (insC B cont)) : methD T.meth h (.ref P) "answered" = some 19 := by
  unfold methD
  simp only [e, insC, m_answered]
  rw [if_pos lk_answered]
end
theorem exnil {h : List Cell} : expD h 12 (.lst []) = .lst [] := by
  rw [expD]
  rfl
theorem lne {h : List Cell} {l : List D} : cmpD .ne h (.lst l) (.lst []) = some (.bl (!l.isEmpty)) := by
  have hx : ∃ l', expD h 12 (.lst l) = .lst l' ∧ l'.isEmpty = l.isEmpty := ⟨l.map (expD h 11), by rw [expD], by cases l <;> rfl⟩
  obtain ⟨l', e1, e2⟩ := hx
  have : neH h (.lst l) (.lst []) = some (!l.isEmpty) := by
    unfold neH
    simp only [neD, e1, exnil]
    have d1 : (D.lst []).depth = 1 := rfl
    rw [d1, if_pos (by omega), ← e2]
    cases l' <;> simp [neX, eqD, eqZ]
  unfold cmpD
  simp only [this, Option.map]
theorem cut_tail {x : D} {ds : List D} {h : List Cell} : slI h (.lst (x :: ds)) (some 1) none = some (.lst ds) := by
  unfold slI
  simp only [lstOf, Option.map, cut]
  have e1 : HT.sIx (x :: ds).length 0 (some 1) = 1 := by
    unfold HT.sIx
    simp
  have e2 : HT.sIx (x :: ds).length (x :: ds).length none = ds.length + 1 := by
    unfold HT.sIx
    simp
  rw [e1, e2]
  simp
/-- a play's cells -/
structure Pl (names : List D) (P B : Nat) (h : List Cell) (cont : List Ln) (b : Mp) : Prop where
  ne : P ≠ B
  ins : h[P]? = some (insC B cont)
  cb : h[B]? = some (mpC b)
  ok : MOk names b
  ks : oks names cont
structure Oth2 (P B : Nat) (h h' : List Cell) : Prop where
  len : h'.length = h.length
  oth : ∀ j, j ≠ P → j ≠ B → h'[j]? = h[j]?
theorem Oth2.refl {P B : Nat} {h : List Cell} : Oth2 P B h h := ⟨rfl, fun _ _ _ => rfl⟩
theorem Oth2.trans {P B : Nat} {h h1 h2 : List Cell} (a : Oth2 P B h h1) (b : Oth2 P B h1 h2) : Oth2 P B h h2 := ⟨b.len.trans a.len, fun j x y => (b.oth j x y).trans (a.oth j x y)⟩
theorem Oth2.set {P B : Nat} {h h1 : List Cell} (a : Oth2 P B h h1) {j : Nat} {c : Cell} (hj : j = P ∨ j = B) : Oth2 P B h (h1.set j c) := by
  refine ⟨by rw [List.length_set]; exact a.len, fun i x y => ?_⟩
  rw [get_set]
  · exact a.oth i x y
  · rintro rfl
    rcases hj with e | e
    · exact x e
    · exact y e
theorem Pl.setB {names : List D} {P B : Nat} {h : List Cell} {cont : List Ln} {b b2 : Mp} (p : Pl names P B h cont b) (o : MOk names b2) : Pl names P B (h.set B (mpC b2)) cont b2 :=
  ⟨p.ne, by rw [get_set fun z => p.ne z.symm]; exact p.ins, set_get p.cb, o, p.ks⟩
theorem Pl.setP {names : List D} {P B : Nat} {h : List Cell} {cont c2 : List Ln} {b : Mp} (p : Pl names P B h cont b) (o : oks names c2) : Pl names P B (h.set P (insC B c2)) c2 b :=
  ⟨p.ne, set_get p.ins, by rw [get_set p.ne]; exact p.cb, p.ok, o⟩
/-- what asked gives -/
inductive Ask (cont : List Ln) (b : Mp) : D → Prop where
  | none : cont = [] → Ask cont b (.tup [.str "end"])
  | fin (w : Str) (r : List Ln) : cont = .fin w :: r → Ask cont b (.tup [.str w])
  | get (x k : Str) (r : List Ln) : cont = .get x k :: r → Ask cont b (.tup [.str "get", .str x, .str k])
  | put (k : Str) (e : Sm) (r : List Ln) : cont = .put k e :: r → Ask cont b (.tup [.str "put", .str k, .int (wv e b)])
structure Asked (names : List D) (P B : Nat) (c0 : List Ln) (b0 : Mp) (h0 h : List Cell) (r : D) (cont : List Ln) (b : Mp) : Prop where
  pl : Pl names P B h cont b
  sz : szs cont ≤ szs c0
  same : ∀ s g, goLs c0 ⟨b0, s, g⟩ = goLs cont ⟨b, s, g⟩
  oth : Oth2 P B h0 h
  r : Ask cont b r
def bdA : List CS := [.asg 1 (.ix (.attr (.v 0) "coming") (.c (.int 0))),
    .ite (.cmp .eq (.ix (.v 1) (.c (.int 0))) (.c (.str "let"))) [.stIx (.attr (.v 0) "boxes") (.ix (.v 1) (.c (.int 1))) (.call 16 [(.ix (.v 1) (.c (.int 2))), (.attr (.v 0) "boxes")]),
    .stAt (.v 0) "coming" (.sl (.attr (.v 0) "coming") (.c (.int 1)) .no)] [.ite (.cmp .eq (.ix (.v 1) (.c (.int 0))) (.c (.str "if"))) [.asg 2 (.ite (.cmp .eq (.call 16 [(.ix (.v 1) (.c (.int 1))), (.attr (.v 0) "boxes")]) (.c (.int 0))) (.ix (.v 1) (.c (.int 3))) (.ix (.v 1) (.c (.int 2)))),
    .stAt (.v 0) "coming" (.bin .add (.b1 .list (.v 2)) (.sl (.attr (.v 0) "coming") (.c (.int 1)) .no))] [.ite (.cmp .eq (.ix (.v 1) (.c (.int 0))) (.c (.str "put"))) [.ret (.tup [(.c (.str "put")), (.ix (.v 1) (.c (.int 1))), (.call 16 [(.ix (.v 1) (.c (.int 2))), (.attr (.v 0) "boxes")])])] [.ret (.v 1)]]]]
theorem b18_eq : b18 = [.whl (.cmp .ne (.attr (.v 0) "coming") (.lst [])) bdA, .ret (.tup [(.c (.str "end"))])] := rfl
theorem list_tup {h : List Cell} {ds : List D} : b1D .list h (.tup ds) = some (.lst ds) := rfl
theorem app_lst {h : List Cell} {as bs : List D} (hl : as.length + bs.length ≤ maxLen) : binD .add h (.lst as) (.lst bs) = some (.lst (as ++ bs)) := by
  show addD h (.lst as) (.lst bs) = _
  unfold addD
  simp only [lstOf, if_pos hl]
theorem len_sz : ∀ {ls : List Ln}, ls.length ≤ szs ls
  | [] => Nat.le_refl 0
  | l :: ls => by
    have := len_sz (ls := ls)
    have := sz_pos (l := l)
    rw [szs, List.length_cons]
    omega
end K82

set_option linter.all false
set_option Elab.async false
set_option maxRecDepth 100000
set_option maxHeartbeats 1000000
namespace K82
open PySem DC DL
theorem asked {names : List D} (hn5 : names.length ≤ 5) {P B : Nat} {h0 : List Cell} {c0 : List Ln} {b0 : Mp} (p : Pl names P B h0 c0 b0) (h16 : szs c0 ≤ 100) {n : Nat} (hn : 5 ≤ n) : okO (callN T n 18 [.ref P] h0) fun r h => ∃ cont b, Asked names P B c0 b0 h0 h r cont b := by
  obtain ⟨m, rfl⟩ : ∃ m, n = m + 1 := ⟨n - 1, by omega⟩
  refine ok_call (n := m) (F := ⟨1, 3, b18⟩) rfl rfl ?_
  show okCs T (callN T m) b18 [.val (.ref P), .no, .no] h0 _ _
  rw [b18_eq, okCs_cons, okC_whl]
  refine whl_inv (fun k Γ h => ∃ s1 s2 cont b, Γ = [.val (.ref P), s1, s2] ∧ szs cont ≤ k ∧ szs cont ≤ szs c0 ∧ Pl names P B h cont b ∧ Oth2 P B h0 h ∧ ∀ s g, goLs c0 ⟨b0, s, g⟩ = goLs cont ⟨b, s, g⟩) ?_ (k := 100) (show 100 < 200 by decide) ⟨_, _, c0, b0, rfl, h16, Nat.le_refl _, p, Oth2.refl, fun _ _ => rfl⟩
  rintro k Γ h ⟨s1, s2, cont, b, rfl, hk, hc, pl, o, sm⟩
  have at1c := at_coming pl.ins
  have atb := at_boxes pl.ins
  simp (decide := true) only [okE_cmp, okE_attr, okE_v, okE_lst, okEs_nil, List.getElem?_cons_zero, onVal_val, at1c, onO_some, lne, onB_bl]
  refine ⟨trivial, ?_⟩
  cases cont with
  | nil =>
    simp (decide := true) only [toDs, List.isEmpty_nil, Bool.not_true, Bool.false_eq_true, if_false, okCs_cons, okC_ret, okE_tup, okEs_cons, okEs_nil, okE_c]
    exact ⟨trivial, [], b, pl, hc, sm, o, .none rfl⟩
  | cons l ls =>
    have hs : szs (l :: ls) = l.sz + szs ls := by rw [szs]
    have hp := sz_pos (l := l)
    simp (decide := true) only [toDs, List.isEmpty_cons, Bool.not_false, if_true]
    have at1c : attrD T.fld h (.ref P) "coming" = some (.lst (l.toD :: toDs ls)) := at1c
    refine ⟨k - 1, by omega, ?_⟩
    have ok := pl.ks
    unfold oks at ok
    obtain ⟨ol, ols⟩ := ok
    have stepA : ∀ {c : List CS} {N : List Slot → List Cell → Prop} {R : D → List Cell → Prop}, okCs T (callN T m) c [.val (.ref P), .val l.toD, s2] h N R → okCs T (callN T m) (.asg 1 (.ix (.attr (.v 0) "coming") (.c (.int 0))) :: c) [.val (.ref P), s1, s2] h N R := fun g => okCs_step (by simp only [okCs_nil, okCs_cons, okC_asg, okC_own, okC_stIx, okC_aug, okC_app, okC_ex, okC_ret, okC_retN, okC_ite, okC_for, okE_c, okE_no, okE_v, okE_pk, okE_g, okE_bin, okE_neg, okE_cmp, okE_chain, okE_and, okE_or, okE_not, okE_ite, okE_isi, okE_b1, okE_b2, okE_bm, okE_call, okE_ix, okE_sl, okE_tup, okE_lst, okE_dct, okE_new, okE_lc, okEs_nil, okEs_cons, onVal_val, onOwn_own, onO_some, onO_none, onO_map, onB_bl, onCell_lst, onCell_dct, onInts_int, okO_ok, okE_attr, okE_meth, okE_make, okE_getd, okE_orv, okE_popK, okE_popL, okC_appR, okC_stAt, onNon_non, List.getElem?_cons_zero, List.getElem?_cons_succ, List.set_cons_zero, List.set_cons_succ, isNo, boundC, at1c, ix_lst, at0]; exact ⟨trivial, trivial⟩) g
    unfold bdA
    refine stepA ?_
    cases l with
    | lt x e =>
      obtain ⟨hx, he, hd⟩ := ol
      have hd : e.dp ≤ 4 := hd
      have pB := pl.setB (pl.ok.put hx (wv_lt pl.ok he).1 (wv_lt pl.ok he).2)
      have at2c := at_coming pB.ins
      have at2c : attrD T.fld (h.set B (mpC (mput b x (wv e b)))) (.ref P) "coming" = some (.lst ((Ln.lt x e).toD :: toDs ls)) := at2c
      simp (decide := true) only [okCs_nil, okCs_cons, okC_asg, okC_own, okC_stIx, okC_aug, okC_app, okC_ex, okC_ret, okC_retN, okC_ite, okC_for, okE_c, okE_no, okE_v, okE_pk, okE_g, okE_bin, okE_neg, okE_cmp, okE_chain, okE_and, okE_or, okE_not, okE_ite, okE_isi, okE_b1, okE_b2, okE_bm, okE_call, okE_ix, okE_sl, okE_tup, okE_lst, okE_dct, okE_new, okE_lc, okEs_nil, okEs_cons, onVal_val, onOwn_own, onO_some, onO_none, onO_map, onB_bl, onCell_lst, onCell_dct, onInts_int, okO_ok, okE_attr, okE_meth, okE_make, okE_getd, okE_orv, okE_popK, okE_popL, okC_appR, okC_stAt, onNon_non, List.getElem?_cons_zero, List.getElem?_cons_succ, List.set_cons_zero, List.set_cons_succ, isNo, boundC, Ln.toD, ix_tup, at0, at1, at2, c_eqS, qa00, qa01, qa02, qa03, qa04, qa05, qa06, qa10, qa11, qa12, qa13, qa14, qa15, qa16, qa20, qa21, qa22, qa23, qa24, qa25, qa26, qa30, qa31, qa32, qa33, qa34, qa35, qa36, qa40, qa41, qa42, qa43, qa44, qa45, qa46, qa50, qa51, qa52, qa53, qa54, qa55, qa56, qa60, qa61, qa62, qa63, qa64, qa65, qa66, qb00, qb01, qb02, qb03, qb04, qb05, qb10, qb11, qb12, qb13, qb14, qb15, qb20, qb21, qb22, qb23, qb24, qb25, qb30, qb31, qb32, qb33, qb34, qb35, qb40, qb41, qb42, qb43, qb44, qb45, qb50, qb51, qb52, qb53, qb54, qb55, if_true, atb, worth pl.ok e he m (by omega) h _ (dct_ref pl.cb), stM pl.cb (pl.ok.lt hn5), at2c, cut_tail, st_coming pB.ins]
      refine ⟨_, _, ls, _, rfl, by omega, by omega, pB.setP ols, (o.set (.inr rfl)).set (.inl rfl), fun s g => ?_⟩
      rw [sm, goLs_cons, goLn, thn_none]
    | iff e y nn =>
      obtain ⟨⟨he, hd⟩, oy, on'⟩ := ol
      have hd : e.dp ≤ 4 := hd
      have hsz : (Ln.iff e y nn).sz = 1 + szs y + szs nn := by rw [Ln.sz]
      rw [hsz] at hs
      have main : ∀ (sub : List Ln), (∀ q : St, q.b = b → goLn (.iff e y nn) q = goLs sub q) → szs sub ≤ szs y + szs nn → oks names sub →
          ∃ s1 s2 cont b2, [Slot.val (D.ref P), .val (Ln.iff e y nn).toD, .val (.tup (toDs sub))] = [.val (.ref P), s1, s2] ∧ szs cont ≤ k - 1 ∧ szs cont ≤ szs c0 ∧ Pl names P B (h.set P (insC B (sub ++ ls))) cont b2 ∧ Oth2 P B h0 (h.set P (insC B (sub ++ ls))) ∧ ∀ s g, goLs c0 ⟨b0, s, g⟩ = goLs cont ⟨b2, s, g⟩ := fun sub eg es os => by
        have ez : szs (sub ++ ls) = szs sub + szs ls := szs_app
        refine ⟨_, _, sub ++ ls, b, rfl, by omega, by omega, pl.setP (oks_app os ols), o.set (.inl rfl), fun s g => ?_⟩
        rw [sm, goLs_cons, eg _ rfl, goLs_app]
      have ml : ∀ sub : List Ln, szs sub ≤ szs y + szs nn → (toDs sub).length + (toDs ls).length ≤ maxLen := fun sub es => by
        have := len_sz (ls := sub)
        have := len_sz (ls := ls)
        rw [toDs_len, toDs_len]
        show _ ≤ 16777216
        omega
      have sc : ∀ sub : List Ln, stAtD T.fld h (.ref P) "coming" (.lst (toDs sub ++ toDs ls)) = some (h.set P (insC B (sub ++ ls))) := fun sub => by
        rw [← toDs_app]
        exact st_coming pl.ins
      have at1c : attrD T.fld h (.ref P) "coming" = some (.lst (.tup [.str "if", e.toD, .tup (toDs y), .tup (toDs nn)] :: toDs ls)) := by
        have q := at1c
        rw [Ln.toD] at q
        exact q
      simp (decide := true) only [okCs_nil, okCs_cons, okC_asg, okC_own, okC_stIx, okC_aug, okC_app, okC_ex, okC_ret, okC_retN, okC_ite, okC_for, okE_c, okE_no, okE_v, okE_pk, okE_g, okE_bin, okE_neg, okE_cmp, okE_chain, okE_and, okE_or, okE_not, okE_ite, okE_isi, okE_b1, okE_b2, okE_bm, okE_call, okE_ix, okE_sl, okE_tup, okE_lst, okE_dct, okE_new, okE_lc, okEs_nil, okEs_cons, onVal_val, onOwn_own, onO_some, onO_none, onO_map, onB_bl, onCell_lst, onCell_dct, onInts_int, okO_ok, okE_attr, okE_meth, okE_make, okE_getd, okE_orv, okE_popK, okE_popL, okC_appR, okC_stAt, onNon_non, List.getElem?_cons_zero, List.getElem?_cons_succ, List.set_cons_zero, List.set_cons_succ, isNo, boundC, Ln.toD, ix_tup, at0, at1, at2, at3, c_eqS, qa00, qa01, qa02, qa03, qa04, qa05, qa06, qa10, qa11, qa12, qa13, qa14, qa15, qa16, qa20, qa21, qa22, qa23, qa24, qa25, qa26, qa30, qa31, qa32, qa33, qa34, qa35, qa36, qa40, qa41, qa42, qa43, qa44, qa45, qa46, qa50, qa51, qa52, qa53, qa54, qa55, qa56, qa60, qa61, qa62, qa63, qa64, qa65, qa66, qb00, qb01, qb02, qb03, qb04, qb05, qb10, qb11, qb12, qb13, qb14, qb15, qb20, qb21, qb22, qb23, qb24, qb25, qb30, qb31, qb32, qb33, qb34, qb35, qb40, qb41, qb42, qb43, qb44, qb45, qb50, qb51, qb52, qb53, qb54, qb55, if_true, Bool.false_eq_true, if_false, atb, worth pl.ok e he m (by omega) h _ (dct_ref pl.cb), c_eq]
      by_cases c0 : wv e b = 0
      · rw [if_pos (by simp [c0])]
        simp (decide := true) only [list_tup, onO_some, at1c, cut_tail, app_lst (ml nn (by omega)), sc]
        have := main nn (fun q eq => by rw [goLn, eq, if_pos c0]) (by omega) on'
        simpa only [Ln.toD] using this
      · rw [if_neg (by simp [c0])]
        simp (decide := true) only [list_tup, onO_some, at1c, cut_tail, app_lst (ml y (by omega)), sc]
        have := main y (fun q eq => by rw [goLn, eq, if_neg c0]) (by omega) oy
        simpa only [Ln.toD] using this
    | put x e =>
      obtain ⟨hx, he, hd⟩ := ol
      have hd : e.dp ≤ 4 := hd
      simp (decide := true) only [okCs_nil, okCs_cons, okC_asg, okC_own, okC_stIx, okC_aug, okC_app, okC_ex, okC_ret, okC_retN, okC_ite, okC_for, okE_c, okE_no, okE_v, okE_pk, okE_g, okE_bin, okE_neg, okE_cmp, okE_chain, okE_and, okE_or, okE_not, okE_ite, okE_isi, okE_b1, okE_b2, okE_bm, okE_call, okE_ix, okE_sl, okE_tup, okE_lst, okE_dct, okE_new, okE_lc, okEs_nil, okEs_cons, onVal_val, onOwn_own, onO_some, onO_none, onO_map, onB_bl, onCell_lst, onCell_dct, onInts_int, okO_ok, okE_attr, okE_meth, okE_make, okE_getd, okE_orv, okE_popK, okE_popL, okC_appR, okC_stAt, onNon_non, List.getElem?_cons_zero, List.getElem?_cons_succ, List.set_cons_zero, List.set_cons_succ, isNo, boundC, Ln.toD, ix_tup, at0, at1, at2, c_eqS, qa00, qa01, qa02, qa03, qa04, qa05, qa06, qa10, qa11, qa12, qa13, qa14, qa15, qa16, qa20, qa21, qa22, qa23, qa24, qa25, qa26, qa30, qa31, qa32, qa33, qa34, qa35, qa36, qa40, qa41, qa42, qa43, qa44, qa45, qa46, qa50, qa51, qa52, qa53, qa54, qa55, qa56, qa60, qa61, qa62, qa63, qa64, qa65, qa66, qb00, qb01, qb02, qb03, qb04, qb05, qb10, qb11, qb12, qb13, qb14, qb15, qb20, qb21, qb22, qb23, qb24, qb25, qb30, qb31, qb32, qb33, qb34, qb35, qb40, qb41, qb42, qb43, qb44, qb45, qb50, qb51, qb52, qb53, qb54, qb55, if_true, Bool.false_eq_true, if_false, atb, worth pl.ok e he m (by omega) h _ (dct_ref pl.cb)]
      exact ⟨show 3 ≤ 16777216 by decide, _, b, pl, hc, sm, o, .put x e ls rfl⟩
    | get x y =>
      simp (decide := true) only [okCs_nil, okCs_cons, okC_asg, okC_own, okC_stIx, okC_aug, okC_app, okC_ex, okC_ret, okC_retN, okC_ite, okC_for, okE_c, okE_no, okE_v, okE_pk, okE_g, okE_bin, okE_neg, okE_cmp, okE_chain, okE_and, okE_or, okE_not, okE_ite, okE_isi, okE_b1, okE_b2, okE_bm, okE_call, okE_ix, okE_sl, okE_tup, okE_lst, okE_dct, okE_new, okE_lc, okEs_nil, okEs_cons, onVal_val, onOwn_own, onO_some, onO_none, onO_map, onB_bl, onCell_lst, onCell_dct, onInts_int, okO_ok, okE_attr, okE_meth, okE_make, okE_getd, okE_orv, okE_popK, okE_popL, okC_appR, okC_stAt, onNon_non, List.getElem?_cons_zero, List.getElem?_cons_succ, List.set_cons_zero, List.set_cons_succ, isNo, boundC, Ln.toD, ix_tup, at0, at1, at2, c_eqS, qa00, qa01, qa02, qa03, qa04, qa05, qa06, qa10, qa11, qa12, qa13, qa14, qa15, qa16, qa20, qa21, qa22, qa23, qa24, qa25, qa26, qa30, qa31, qa32, qa33, qa34, qa35, qa36, qa40, qa41, qa42, qa43, qa44, qa45, qa46, qa50, qa51, qa52, qa53, qa54, qa55, qa56, qa60, qa61, qa62, qa63, qa64, qa65, qa66, qb00, qb01, qb02, qb03, qb04, qb05, qb10, qb11, qb12, qb13, qb14, qb15, qb20, qb21, qb22, qb23, qb24, qb25, qb30, qb31, qb32, qb33, qb34, qb35, qb40, qb41, qb42, qb43, qb44, qb45, qb50, qb51, qb52, qb53, qb54, qb55, if_true, Bool.false_eq_true, if_false]
      exact ⟨_, b, pl, hc, sm, o, .get x y ls rfl⟩
    | fin w =>
      have hw : w = "end" ∨ w = "drop" := ol
      have n2 : (("put" : Str) == w) = false := by rcases hw with rfl | rfl <;> decide +kernel
      have n3 : (("let" : Str) == w) = false := by rcases hw with rfl | rfl <;> decide +kernel
      have n4 : (("if" : Str) == w) = false := by rcases hw with rfl | rfl <;> decide +kernel
      simp (decide := true) only [okCs_nil, okCs_cons, okC_asg, okC_own, okC_stIx, okC_aug, okC_app, okC_ex, okC_ret, okC_retN, okC_ite, okC_for, okE_c, okE_no, okE_v, okE_pk, okE_g, okE_bin, okE_neg, okE_cmp, okE_chain, okE_and, okE_or, okE_not, okE_ite, okE_isi, okE_b1, okE_b2, okE_bm, okE_call, okE_ix, okE_sl, okE_tup, okE_lst, okE_dct, okE_new, okE_lc, okEs_nil, okEs_cons, onVal_val, onOwn_own, onO_some, onO_none, onO_map, onB_bl, onCell_lst, onCell_dct, onInts_int, okO_ok, okE_attr, okE_meth, okE_make, okE_getd, okE_orv, okE_popK, okE_popL, okC_appR, okC_stAt, onNon_non, List.getElem?_cons_zero, List.getElem?_cons_succ, List.set_cons_zero, List.set_cons_succ, isNo, boundC, Ln.toD, ix_tup, at0, at1, at2, c_eqS, n2, n3, n4, if_true, Bool.false_eq_true, if_false]
      exact ⟨_, b, pl, hc, sm, o, .fin w ls rfl⟩
end K82

set_option linter.all false
set_option Elab.async false
set_option maxRecDepth 100000
set_option maxHeartbeats 1000000
namespace K82
open PySem DC DL
theorem init {h : List Cell} {p : Nat} {prog : List Ln} (e : h[p]? = some (.ins "Play" [])) {n : Nat} (hn : 1 ≤ n) : okO (callN T n 17 [.ref p, .tup (toDs prog)] h) fun r h' => r = .non ∧ h'.length = h.length + 1 ∧ h'[p]? = some (insC h.length prog) ∧ h'[h.length]? = some (mpC []) ∧ ∀ j, j ≠ p → j < h.length → h'[j]? = h[j]? := by
  obtain ⟨m, rfl⟩ : ∃ m, n = m + 1 := ⟨n - 1, by omega⟩
  refine ok_call (n := m) (F := ⟨2, 2, b17⟩) rfl rfl ?_
  show okCs T (callN T m) b17 [.val (.ref p), .val (.tup (toDs prog))] h _ _
  have hp := (List.getElem?_eq_some_iff.mp e).1
  have e1 : (h ++ [Cell.dct [] []])[p]? = some (.ins "Play" []) := by
    rw [List.getElem?_append_left hp]
    exact e
  have s1 : stAtD T.fld (h ++ [Cell.dct [] []]) (.ref p) "boxes" (.ref h.length) = some ((h ++ [Cell.dct [] []]).set p (.ins "Play" [("boxes", .ref h.length)])) := by
    unfold stAtD
    simp only [e1, f_boxes]
    rfl
  have e2 := set_get (c' := .ins "Play" [("boxes", .ref h.length)]) e1
  have s2 : stAtD T.fld ((h ++ [Cell.dct [] []]).set p (.ins "Play" [("boxes", .ref h.length)])) (.ref p) "coming" (.lst (toDs prog)) = some (((h ++ [Cell.dct [] []]).set p (.ins "Play" [("boxes", .ref h.length)])).set p (insC h.length prog)) := by
    unfold stAtD
    simp only [e2, f_coming]
    simp [putFD, nbc, insC]
  simp only [b17, okCs_nil, okCs_cons, okC_asg, okC_own, okC_stIx, okC_aug, okC_app, okC_ex, okC_ret, okC_retN, okC_ite, okC_for, okE_c, okE_no, okE_v, okE_pk, okE_g, okE_bin, okE_neg, okE_cmp, okE_chain, okE_and, okE_or, okE_not, okE_ite, okE_isi, okE_b1, okE_b2, okE_bm, okE_call, okE_ix, okE_sl, okE_tup, okE_lst, okE_dct, okE_new, okE_lc, okEs_nil, okEs_cons, onVal_val, onOwn_own, onO_some, onO_none, onO_map, onB_bl, onCell_lst, onCell_dct, onInts_int, okO_ok, okE_attr, okE_meth, okE_make, okE_getd, okE_orv, okE_popK, okE_popL, okC_appR, okC_stAt, onNon_non, List.getElem?_cons_zero, List.getElem?_cons_succ, List.set_cons_zero, List.set_cons_succ, isNo, boundC, newCell, s1, list_tup, s2]
  refine ⟨trivial, by simp, set_get e2, ?_, fun j hj hl => ?_⟩
  · rw [get_set (by omega), get_set (by omega)]
    simp [mpC, mK, mV]
  · rw [get_set (fun z => hj z.symm), get_set (fun z => hj z.symm), List.getElem?_append_left hl]
theorem answered_get {names : List D} (hn5 : names.length ≤ 5) {P B : Nat} {h : List Cell} {x k : Str} {r : List Ln} {b : Mp} (p : Pl names P B h (.get x k :: r) b) {v : Int} (v0 : 0 ≤ v) (v1 : v < 1000) {n : Nat} (hn : 1 ≤ n) : okO (callN T n 19 [.ref P, .int v] h) fun _ h' => Pl names P B h' r (mput b x v) ∧ Oth2 P B h h' := by
  obtain ⟨m, rfl⟩ : ∃ m, n = m + 1 := ⟨n - 1, by omega⟩
  refine ok_call (n := m) (F := ⟨2, 3, b19⟩) rfl rfl ?_
  show okCs T (callN T m) b19 [.val (.ref P), .val (.int v), .no] h _ _
  have at1c : attrD T.fld h (.ref P) "coming" = some (.lst (.tup [.str "get", .str x, .str k] :: toDs r)) := by
    have q := at_coming p.ins
    rw [toDs, Ln.toD] at q
    exact q
  have ok := p.ks
  unfold oks at ok
  obtain ⟨ol, ols⟩ := ok
  have pB := p.setB (p.ok.put ol.1 v0 v1)
  have at2c : attrD T.fld (h.set B (mpC (mput b x v))) (.ref P) "coming" = some (.lst (.tup [.str "get", .str x, .str k] :: toDs r)) := by
    have q := at_coming pB.ins
    rw [toDs, Ln.toD] at q
    exact q
  simp (decide := true) only [b19, okCs_nil, okCs_cons, okC_asg, okC_own, okC_stIx, okC_aug, okC_app, okC_ex, okC_ret, okC_retN, okC_ite, okC_for, okE_c, okE_no, okE_v, okE_pk, okE_g, okE_bin, okE_neg, okE_cmp, okE_chain, okE_and, okE_or, okE_not, okE_ite, okE_isi, okE_b1, okE_b2, okE_bm, okE_call, okE_ix, okE_sl, okE_tup, okE_lst, okE_dct, okE_new, okE_lc, okEs_nil, okEs_cons, onVal_val, onOwn_own, onO_some, onO_none, onO_map, onB_bl, onCell_lst, onCell_dct, onInts_int, okO_ok, okE_attr, okE_meth, okE_make, okE_getd, okE_orv, okE_popK, okE_popL, okC_appR, okC_stAt, onNon_non, List.getElem?_cons_zero, List.getElem?_cons_succ, List.set_cons_zero, List.set_cons_succ, isNo, boundC, at1c, ix_lst, ix_tup, at0, at1, c_eqS, qa00, qa01, qa02, qa03, qa04, qa05, qa06, qa10, qa11, qa12, qa13, qa14, qa15, qa16, qa20, qa21, qa22, qa23, qa24, qa25, qa26, qa30, qa31, qa32, qa33, qa34, qa35, qa36, qa40, qa41, qa42, qa43, qa44, qa45, qa46, qa50, qa51, qa52, qa53, qa54, qa55, qa56, qa60, qa61, qa62, qa63, qa64, qa65, qa66, qb00, qb01, qb02, qb03, qb04, qb05, qb10, qb11, qb12, qb13, qb14, qb15, qb20, qb21, qb22, qb23, qb24, qb25, qb30, qb31, qb32, qb33, qb34, qb35, qb40, qb41, qb42, qb43, qb44, qb45, qb50, qb51, qb52, qb53, qb54, qb55, if_true, at_boxes p.ins, stM p.cb (p.ok.lt hn5), at2c, cut_tail, st_coming pB.ins]
  exact ⟨pB.setP ols, (Oth2.refl.set (.inr rfl)).set (.inl rfl)⟩
theorem answered_put {names : List D} {P B : Nat} {h : List Cell} {k : Str} {e : Sm} {r : List Ln} {b : Mp} (p : Pl names P B h (.put k e :: r) b) {v : Int} {n : Nat} (hn : 1 ≤ n) : okO (callN T n 19 [.ref P, .int v] h) fun _ h' => Pl names P B h' r b ∧ Oth2 P B h h' := by
  obtain ⟨m, rfl⟩ : ∃ m, n = m + 1 := ⟨n - 1, by omega⟩
  refine ok_call (n := m) (F := ⟨2, 3, b19⟩) rfl rfl ?_
  show okCs T (callN T m) b19 [.val (.ref P), .val (.int v), .no] h _ _
  have at1c : attrD T.fld h (.ref P) "coming" = some (.lst (.tup [.str "put", .str k, e.toD] :: toDs r)) := by
    have q := at_coming p.ins
    rw [toDs, Ln.toD] at q
    exact q
  have ok := p.ks
  unfold oks at ok
  obtain ⟨ol, ols⟩ := ok
  simp (decide := true) only [b19, okCs_nil, okCs_cons, okC_asg, okC_own, okC_stIx, okC_aug, okC_app, okC_ex, okC_ret, okC_retN, okC_ite, okC_for, okE_c, okE_no, okE_v, okE_pk, okE_g, okE_bin, okE_neg, okE_cmp, okE_chain, okE_and, okE_or, okE_not, okE_ite, okE_isi, okE_b1, okE_b2, okE_bm, okE_call, okE_ix, okE_sl, okE_tup, okE_lst, okE_dct, okE_new, okE_lc, okEs_nil, okEs_cons, onVal_val, onOwn_own, onO_some, onO_none, onO_map, onB_bl, onCell_lst, onCell_dct, onInts_int, okO_ok, okE_attr, okE_meth, okE_make, okE_getd, okE_orv, okE_popK, okE_popL, okC_appR, okC_stAt, onNon_non, List.getElem?_cons_zero, List.getElem?_cons_succ, List.set_cons_zero, List.set_cons_succ, isNo, boundC, at1c, ix_lst, ix_tup, at0, at1, c_eqS, qa00, qa01, qa02, qa03, qa04, qa05, qa06, qa10, qa11, qa12, qa13, qa14, qa15, qa16, qa20, qa21, qa22, qa23, qa24, qa25, qa26, qa30, qa31, qa32, qa33, qa34, qa35, qa36, qa40, qa41, qa42, qa43, qa44, qa45, qa46, qa50, qa51, qa52, qa53, qa54, qa55, qa56, qa60, qa61, qa62, qa63, qa64, qa65, qa66, qb00, qb01, qb02, qb03, qb04, qb05, qb10, qb11, qb12, qb13, qb14, qb15, qb20, qb21, qb22, qb23, qb24, qb25, qb30, qb31, qb32, qb33, qb34, qb35, qb40, qb41, qb42, qb43, qb44, qb45, qb50, qb51, qb52, qb53, qb54, qb55, if_true, Bool.false_eq_true, if_false, cut_tail, st_coming p.ins]
  exact ⟨p.setP ols, Oth2.refl.set (.inl rfl)⟩
/-! ### alone -/
def fate (o : Option Str × St) : Str := o.1.getD "kept"
def fin (s0 : Mp) (o : Option Str × St) : Mp := if fate o = "dropped" then s0 else o.2.s
def begun (prog : List Ln) (s0 : Mp) : Option Str × St := goLs prog ⟨[], s0, []⟩
structure AloneR (names : List D) (prog : List Ln) (s0 : Mp) (h : List Cell) (r : D) (h' : List Cell) (c : Nat) : Prop where
  er : r = .tup [.ref c, .tup ((begun prog s0).2.g.map .int), .str (fate (begun prog s0))]
  lc : h.length ≤ c
  cc : h'[c]? = some (mpC (fin s0 (begun prog s0)))
  keep : ∀ j, j < h.length → h'[j]? = h[j]?
  ok : MOk names (fin s0 (begun prog s0))
theorem Ask.good {cont : List Ln} {b : Mp} {r : D} (a : Ask cont b r) : DL.good 1 r := by
  cases a <;> refine good_mk (by simp) fun d hd => ?_
  · rw [List.mem_singleton.mp hd]
    exact good_atom trivial 0
  · rw [List.mem_singleton.mp hd]
    exact good_atom trivial 0
  · simp only [List.mem_cons, List.not_mem_nil, or_false] at hd
    rcases hd with rfl | rfl | rfl <;> exact good_atom trivial 0
  · simp only [List.mem_cons, List.not_mem_nil, or_false] at hd
    rcases hd with rfl | rfl | rfl <;> exact good_atom trivial 0
theorem last1 {w : Str} (hw : w = "end" ∨ w = "drop") : isLast (.tup [.str w]) = true := by
  rcases hw with rfl | rfl <;> decide +kernel
theorem last3 {a b c : D} : isLast (.tup [a, b, c]) = false := rfl
theorem eq_drop {h : List Cell} {w : Str} : cmpD .eq h (.tup [.str w]) (.tup [.str "drop"]) = some (.bl (w == "drop")) := by
  have : eqH h (.tup [.str w]) (.tup [.str "drop"]) = some (w == "drop") := by
    unfold eqH
    rw [if_pos (by show min 1 1 ≤ 100; decide)]
    simp [eqD, eqZ]
  unfold cmpD
  simp only [this, Option.map]
structure LoopI (names : List D) (prog : List Ln) (s0 : Mp) (h0 : List Cell) (S P B : Nat) (h : List Cell) (cont : List Ln) (b s : Mp) (g : List Int) (r : D) : Prop where
  pl : Pl names P B h cont b
  ask : Ask cont b r
  cs : h[S]? = some (mpC s)
  ok : MOk names s
  same : begun prog s0 = goLs cont ⟨b, s, g⟩
  gl : g.length + szs cont ≤ 100
  keep : ∀ j, j < h0.length → h[j]? = h0[j]?
  len : h0.length ≤ h.length
def bdL : List CS := [.ite (.cmp .eq (.ix (.v 5) (.c (.int 0))) (.c (.str "get"))) [.app 3 (.getd (.v 2) (.ix (.v 5) (.c (.int 2))) (.c (.int 0))),
    .ex (.meth (.v 4) "answered" [(.ix (.pk 3) (.neg (.c (.int 1))))])] [.stIx (.v 2) (.ix (.v 5) (.c (.int 1))) (.ix (.v 5) (.c (.int 2))),
    .ex (.meth (.v 4) "answered" [(.c (.int 0))])],
    .asg 5 (.meth (.v 4) "asked" [])]
theorem b20_eq : b20 = [.asg 2 (.new (.b1 .dict (.v 1))), .own 3 (.lst []), .asg 4 (.make "Play" [(.v 0)]), .asg 5 (.meth (.v 4) "asked" []), .whl (.cmp .notin (.v 5) (.g 7)) bdL,
    .ite (.cmp .eq (.v 5) (.tup [(.c (.str "drop"))])) [.ret (.tup [(.new (.b1 .dict (.v 1))), (.b1 .tuple (.pk 3)), (.c (.str "dropped"))])] [],
    .ret (.tup [(.v 2), (.b1 .tuple (.pk 3)), (.c (.str "kept"))])] := rfl
theorem dict_ref {h : List Cell} {s : Nat} {m : Mp} (e : h[s]? = some (mpC m)) : b1D .dict h (.ref s) = some (.dct (mK m) (mV m)) := by
  unfold b1D
  simp only [dct_ref e, Option.map]
end K82

set_option linter.all false
set_option Elab.async false
set_option maxRecDepth 100000
set_option maxHeartbeats 1000000
namespace K82
open PySem DC DL
theorem Pl.other {names : List D} {P B : Nat} {h : List Cell} {cont : List Ln} {b : Mp} (p : Pl names P B h cont b) {j : Nat} {c : Cell} (h1 : j ≠ P) (h2 : j ≠ B) : Pl names P B (h.set j c) cont b :=
  ⟨p.ne, by rw [get_set h1]; exact p.ins, by rw [get_set h2]; exact p.cb, p.ok, p.ks⟩
def rest : List CS := [.ite (.cmp .eq (.v 5) (.tup [(.c (.str "drop"))])) [.ret (.tup [(.new (.b1 .dict (.v 1))), (.b1 .tuple (.pk 3)), (.c (.str "dropped"))])] [],
    .ret (.tup [(.v 2), (.b1 .tuple (.pk 3)), (.c (.str "kept"))])]
theorem gl_get {x k : Str} {b s : Mp} {g : List Int} : goLn (.get x k) ⟨b, s, g⟩ = (none, ⟨mput b x (mg s k), s, g ++ [mg s k]⟩) := by rw [goLn]
theorem gl_put {k : Str} {e : Sm} {b s : Mp} {g : List Int} : goLn (.put k e) ⟨b, s, g⟩ = (none, ⟨b, mput s k (wv e b), g⟩) := by rw [goLn]
theorem nde : ¬ ("drop" : Str) = "end" := ne_of qb45
theorem nkd : ¬ ("kept" : Str) = "dropped" := by decide +kernel
theorem exit {names : List D} {prog : List Ln} {s0 : Mp} (o0 : MOk names s0) {h0 : List Cell} {V S P B m : Nat} (hv : h0[V]? = some (mpC s0)) (hS : h0.length ≤ S) {h : List Cell} {cont : List Ln} {b s : Mp} {g : List Int} {w : Str} (L : LoopI names prog s0 h0 S P B h cont b s g (.tup [.str w])) (hw : w = "end" ∨ w = "drop")
    (ef : fate (begun prog s0) = if w = "end" then ("kept" : Str) else "dropped") (e2 : (begun prog s0).2 = ⟨b, s, g⟩) : okCs T (callN T m) rest [.val (.tup (toDs prog)), .val (.ref V), .val (.ref S), .own (.lst (g.map .int)), .val (.ref P), .val (.tup [.str w])] h (fun _ h' => ∃ c, AloneR names prog s0 h0 .non h' c) (fun r h' => ∃ c, AloneR names prog s0 h0 r h' c) := by
  have hV : h[V]? = some (mpC s0) := (L.keep V (List.getElem?_eq_some_iff.mp hv).1).trans hv
  have l3 : (3 : Nat) ≤ maxLen := show 3 ≤ 16777216 by decide
  have l1 : (1 : Nat) ≤ maxLen := show 1 ≤ 16777216 by decide
  rcases hw with rfl | rfl
  · rw [if_pos rfl] at ef
    simp only [rest, okCs_nil, okCs_cons, okC_asg, okC_own, okC_stIx, okC_aug, okC_app, okC_ex, okC_ret, okC_retN, okC_ite, okC_for, okE_c, okE_no, okE_v, okE_pk, okE_g, okE_bin, okE_neg, okE_cmp, okE_chain, okE_and, okE_or, okE_not, okE_ite, okE_isi, okE_b1, okE_b2, okE_bm, okE_call, okE_ix, okE_sl, okE_tup, okE_lst, okE_dct, okE_new, okE_lc, okEs_nil, okEs_cons, onVal_val, onOwn_own, onO_some, onO_none, onO_map, onB_bl, onCell_lst, onCell_dct, onInts_int, okO_ok, okE_attr, okE_meth, okE_make, okE_getd, okE_orv, okE_popK, okE_popL, okC_appR, okC_stAt, onNon_non, List.getElem?_cons_zero, List.getElem?_cons_succ, List.set_cons_zero, List.set_cons_succ, isNo, boundC, eq_drop, qb45, qb54, qa00, qa01, qa02, qa03, qa04, qa05, qa06, qa10, qa11, qa12, qa13, qa14, qa15, qa16, qa20, qa21, qa22, qa23, qa24, qa25, qa26, qa30, qa31, qa32, qa33, qa34, qa35, qa36, qa40, qa41, qa42, qa43, qa44, qa45, qa46, qa50, qa51, qa52, qa53, qa54, qa55, qa56, qa60, qa61, qa62, qa63, qa64, qa65, qa66, qb00, qb01, qb02, qb03, qb04, qb05, qb10, qb11, qb12, qb13, qb14, qb15, qb20, qb21, qb22, qb23, qb24, qb25, qb30, qb31, qb32, qb33, qb34, qb35, qb40, qb41, qb42, qb43, qb44, qb45, qb50, qb51, qb52, qb53, qb54, qb55, Bool.false_eq_true, if_false, Cell.toD, tup_lst, List.length_cons, List.length_nil]
    refine ⟨l1, l3, S, ⟨by rw [e2, ef], hS, ?_, L.keep, ?_⟩⟩
    · unfold fin
      rw [ef, if_neg nkd, e2]
      exact L.cs
    · unfold fin
      rw [ef, if_neg nkd, e2]
      exact L.ok
  · rw [if_neg nde] at ef
    simp only [rest, okCs_nil, okCs_cons, okC_asg, okC_own, okC_stIx, okC_aug, okC_app, okC_ex, okC_ret, okC_retN, okC_ite, okC_for, okE_c, okE_no, okE_v, okE_pk, okE_g, okE_bin, okE_neg, okE_cmp, okE_chain, okE_and, okE_or, okE_not, okE_ite, okE_isi, okE_b1, okE_b2, okE_bm, okE_call, okE_ix, okE_sl, okE_tup, okE_lst, okE_dct, okE_new, okE_lc, okEs_nil, okEs_cons, onVal_val, onOwn_own, onO_some, onO_none, onO_map, onB_bl, onCell_lst, onCell_dct, onInts_int, okO_ok, okE_attr, okE_meth, okE_make, okE_getd, okE_orv, okE_popK, okE_popL, okC_appR, okC_stAt, onNon_non, List.getElem?_cons_zero, List.getElem?_cons_succ, List.set_cons_zero, List.set_cons_succ, isNo, boundC, eq_drop, qa00, qa01, qa02, qa03, qa04, qa05, qa06, qa10, qa11, qa12, qa13, qa14, qa15, qa16, qa20, qa21, qa22, qa23, qa24, qa25, qa26, qa30, qa31, qa32, qa33, qa34, qa35, qa36, qa40, qa41, qa42, qa43, qa44, qa45, qa46, qa50, qa51, qa52, qa53, qa54, qa55, qa56, qa60, qa61, qa62, qa63, qa64, qa65, qa66, qb00, qb01, qb02, qb03, qb04, qb05, qb10, qb11, qb12, qb13, qb14, qb15, qb20, qb21, qb22, qb23, qb24, qb25, qb30, qb31, qb32, qb33, qb34, qb35, qb40, qb41, qb42, qb43, qb44, qb45, qb50, qb51, qb52, qb53, qb54, qb55, if_true, Cell.toD, tup_lst, dict_ref hV, newCell, List.length_cons, List.length_nil]
    refine ⟨l1, l3, h.length, ⟨by rw [e2, ef], L.len, ?_, fun j hj => ?_, ?_⟩⟩
    · unfold fin
      rw [ef, if_pos rfl]
      simp [mpC]
    · rw [List.getElem?_append_left (by have := L.len; omega)]
      exact L.keep j hj
    · unfold fin
      rw [ef, if_pos rfl]
      exact o0
theorem alone {names : List D} (hn5 : names.length ≤ 5) {prog : List Ln} (ok : oks names prog) (hsz : szs prog ≤ 16) {s0 : Mp} (o0 : MOk names s0) {h0 : List Cell} {V : Nat} (hv : h0[V]? = some (mpC s0)) {n : Nat} (hn : 6 ≤ n) : okO (callN T n 20 [.tup (toDs prog), .ref V] h0) fun r h' => ∃ c, AloneR names prog s0 h0 r h' c := by
  obtain ⟨m, rfl⟩ : ∃ m, n = m + 1 := ⟨n - 1, by omega⟩
  refine ok_call (n := m) (F := ⟨2, 6, b20⟩) rfl rfl ?_
  show okCs T (callN T m) b20 [.val (.tup (toDs prog)), .val (.ref V), .no, .no, .no, .no] h0 _ _
  rw [b20_eq]
  refine okCs_step (Γ' := [.val (.tup (toDs prog)), .val (.ref V), .val (.ref h0.length), .no, .no, .no]) (h' := h0 ++ [mpC s0]) (by simp only [okCs_nil, okCs_cons, okC_asg, okC_own, okC_stIx, okC_aug, okC_app, okC_ex, okC_ret, okC_retN, okC_ite, okC_for, okE_c, okE_no, okE_v, okE_pk, okE_g, okE_bin, okE_neg, okE_cmp, okE_chain, okE_and, okE_or, okE_not, okE_ite, okE_isi, okE_b1, okE_b2, okE_bm, okE_call, okE_ix, okE_sl, okE_tup, okE_lst, okE_dct, okE_new, okE_lc, okEs_nil, okEs_cons, onVal_val, onOwn_own, onO_some, onO_none, onO_map, onB_bl, onCell_lst, onCell_dct, onInts_int, okO_ok, okE_attr, okE_meth, okE_make, okE_getd, okE_orv, okE_popK, okE_popL, okC_appR, okC_stAt, onNon_non, List.getElem?_cons_zero, List.getElem?_cons_succ, List.set_cons_zero, List.set_cons_succ, isNo, boundC, dict_ref hv, newCell]; exact ⟨trivial, rfl⟩) ?_
  refine okCs_step (Γ' := [.val (.tup (toDs prog)), .val (.ref V), .val (.ref h0.length), .own (.lst []), .no, .no]) (h' := h0 ++ [mpC s0]) (by simp only [okCs_nil, okCs_cons, okC_asg, okC_own, okC_stIx, okC_aug, okC_app, okC_ex, okC_ret, okC_retN, okC_ite, okC_for, okE_c, okE_no, okE_v, okE_pk, okE_g, okE_bin, okE_neg, okE_cmp, okE_chain, okE_and, okE_or, okE_not, okE_ite, okE_isi, okE_b1, okE_b2, okE_bm, okE_call, okE_ix, okE_sl, okE_tup, okE_lst, okE_dct, okE_new, okE_lc, okEs_nil, okEs_cons, onVal_val, onOwn_own, onO_some, onO_none, onO_map, onB_bl, onCell_lst, onCell_dct, onInts_int, okO_ok, okE_attr, okE_meth, okE_make, okE_getd, okE_orv, okE_popK, okE_popL, okC_appR, okC_stAt, onNon_non, List.getElem?_cons_zero, List.getElem?_cons_succ, List.set_cons_zero, List.set_cons_succ, isNo, boundC]; exact ⟨Nat.zero_le _, trivial, trivial⟩) ?_
  have k1 : ∀ j, j < h0.length → (h0 ++ [mpC s0])[j]? = h0[j]? := fun j hj => List.getElem?_append_left hj
  have kS : (h0 ++ [mpC s0])[h0.length]? = some (mpC s0) := by simp
  have kl : (h0 ++ [mpC s0]).length = h0.length + 1 := by simp
  generalize h0 ++ [mpC s0] = h1 at k1 kS kl ⊢
  rw [okCs_cons]
  simp only [okC_asg, okE_make, i_play, onO_some, okEs_cons, okEs_nil, okE_v, List.getElem?_cons_zero, onVal_val]
  have ki : (h1 ++ [Cell.ins "Play" []])[h1.length]? = some (.ins "Play" []) := by simp
  refine (init (prog := prog) ki (show 1 ≤ m by omega)).mono fun r h3 ⟨er, el, eP, eB, ek⟩ => ?_
  subst er
  simp only [onNon_non, List.set_cons_succ, List.set_cons_zero]
  have lB : (h1 ++ [Cell.ins "Play" []]).length = h1.length + 1 := by simp
  rw [lB] at el eP eB ek
  have k3 : ∀ j, j < h1.length → h3[j]? = h1[j]? := fun j hj => (ek j (by omega) (by omega)).trans (List.getElem?_append_left hj)
  have pl0 : Pl names h1.length (h1.length + 1) h3 prog [] := ⟨by omega, eP, eB, MOk.nil, ok⟩
  have cS0 : h3[h0.length]? = some (mpC s0) := (k3 _ (by omega)).trans kS
  have keep0 : ∀ j, j < h0.length → h3[j]? = h0[j]? := fun j hj => (k3 j (by omega)).trans (k1 j hj)
  have len0 : h0.length ≤ h3.length := by omega
  have hP : h0.length < h1.length := by omega
  have hBP : h0.length < h1.length + 1 := by omega
  generalize h1.length + 1 = B at pl0 hBP
  generalize h1.length = P at pl0 hP ⊢
  have hSS : h0.length ≤ h0.length := Nat.le_refl _
  have hSP : h0.length ≠ P := by omega
  have hSB : h0.length ≠ B := by omega
  have hPP : h0.length ≤ P := by omega
  have hBB : h0.length ≤ B := by omega
  clear ki eP eB ek el lB k3 k1 kS kl hP hBP
  have nx : ∀ {h : List Cell} {cont : List Ln} {b s : Mp} {g : List Int} {k : Nat} {s5 : Slot}, Pl names P B h cont b → h[h0.length]? = some (mpC s) → MOk names s → begun prog s0 = goLs cont ⟨b, s, g⟩ → g.length + szs cont ≤ 100 → (∀ j, j < h0.length → h[j]? = h0[j]?) → h0.length ≤ h.length → szs cont ≤ k →
      okC T (callN T m) (.asg 5 (.meth (.v 4) "asked" [])) [.val (.tup (toDs prog)), .val (.ref V), .val (.ref h0.length), .own (.lst (g.map .int)), .val (.ref P), s5] h (fun Γ h => ∃ cont b s g r, Γ = [.val (.tup (toDs prog)), .val (.ref V), .val (.ref h0.length), .own (.lst (g.map .int)), .val (.ref P), .val r] ∧ LoopI names prog s0 h0 h0.length P B h cont b s g r ∧ szs cont ≤ k) (fun r h' => ∃ c, AloneR names prog s0 h0 r h' c) := by
    intro h cont b s g k s5 pl cs os sm gl kp ln hk
    simp only [okC_asg, okE_meth, okE_v, List.getElem?_cons_zero, List.getElem?_cons_succ, onVal_val, mt_asked pl.ins, onO_some, okEs_nil]
    refine (asked hn5 pl (by omega) (show 5 ≤ m by omega)).mono fun r h2 ⟨cont2, b2, A⟩ => ?_
    have asz := A.sz
    refine ⟨cont2, b2, s, g, r, by simp only [List.set_cons_succ, List.set_cons_zero], ⟨A.pl, A.r, ?_, os, sm.trans (A.same s g), by omega, fun j hj => ?_, by rw [A.oth.len]; exact ln⟩, by omega⟩
    · rw [A.oth.oth _ hSP hSB]
      exact cs
    · rw [A.oth.oth _ (by omega) (by omega)]
      exact kp j hj
  rw [okCs_cons]
  unfold okC at nx ⊢
  refine (nx (s5 := .no) (k := 100) pl0 cS0 o0 rfl (show 0 + szs prog ≤ 100 by omega) keep0 len0 (by omega)).mono (fun Γ h i0 => ?_) fun _ _ q => q
  rw [okCs_cons, okC_whl]
  refine whl_inv (fun k Γ h => ∃ cont b s g r, Γ = [.val (.tup (toDs prog)), .val (.ref V), .val (.ref h0.length), .own (.lst (g.map .int)), .val (.ref P), .val r] ∧ LoopI names prog s0 h0 h0.length P B h cont b s g r ∧ szs cont ≤ k) ?_ (k := 100) (show 100 < 200 by decide) i0
  rintro k Γ h ⟨cont, b, s, g, r, rfl, L, hk⟩
  simp only [okE_cmp, okE_v, okE_g, G7, List.getElem?_cons_zero, List.getElem?_cons_succ, onVal_val, onO_some, c_ninLast L.ask.good, onB_bl]
  have gl := L.gl
  have ask := L.ask
  cases ask with
  | none e =>
    subst e
    rw [last1 (.inl rfl), if_neg (by decide)]
    have e1 : begun prog s0 = (none, ⟨b, s, g⟩) := by rw [L.same, goLs_nil]
    exact exit o0 hv hSS L (.inl rfl) (by rw [e1]; rfl) (by rw [e1])
  | fin w ls e =>
    subst e
    have ks := L.pl.ks
    unfold oks at ks
    have hw : w = "end" ∨ w = "drop" := ks.1
    rw [last1 hw, if_neg (by decide)]
    have e1 : begun prog s0 = (some (if w = "end" then ("kept" : Str) else "dropped"), ⟨b, s, g⟩) := by rw [L.same, goLs_cons, goLn, thn_some]
    exact exit o0 hv hSS L hw (by rw [e1]; rfl) (by rw [e1])
  | get x y ls e =>
    subst e
    have hs : szs (.get x y :: ls) = 1 + szs ls := rfl
    rw [last3, if_pos (by decide)]
    refine ⟨k - 1, by omega, ?_⟩
    have v01 := L.ok.mg y
    have lg : (g.map D.int).length < maxLen := by
      rw [List.length_map]
      show _ < 16777216
      omega
    simp only [bdL, okCs_cons, okCs_nil, okC_ite, okE_cmp, okE_ix, okE_v, okE_c, List.getElem?_cons_zero, List.getElem?_cons_succ, onVal_val, ix_tup, at0, at1, at2, c_eqS, qa00, qa01, qa02, qa03, qa04, qa05, qa06, qa10, qa11, qa12, qa13, qa14, qa15, qa16, qa20, qa21, qa22, qa23, qa24, qa25, qa26, qa30, qa31, qa32, qa33, qa34, qa35, qa36, qa40, qa41, qa42, qa43, qa44, qa45, qa46, qa50, qa51, qa52, qa53, qa54, qa55, qa56, qa60, qa61, qa62, qa63, qa64, qa65, qa66, qb00, qb01, qb02, qb03, qb04, qb05, qb10, qb11, qb12, qb13, qb14, qb15, qb20, qb21, qb22, qb23, qb24, qb25, qb30, qb31, qb32, qb33, qb34, qb35, qb40, qb41, qb42, qb43, qb44, qb45, qb50, qb51, qb52, qb53, qb54, qb55, onO_some, onB_bl, if_true, okC_app, onOwn_own, okE_getd, getd_m (dct_ref L.cs), dct_ref L.cs, Option.isSome, okC_ex, okE_meth, mt_answered L.pl.ins, okEs_cons, okEs_nil, okE_pk, Cell.toD, okE_neg, negD, ix_lst, at_last, List.set_cons_succ, List.set_cons_zero, lg, true_and]
    refine (answered_get hn5 L.pl v01.1 v01.2 (show 1 ≤ m by omega)).mono fun _ h4 ⟨p4, o4⟩ => ?_
    have eg : g.map D.int ++ [.int (mg s y)] = (g ++ [mg s y]).map .int := by simp
    rw [eg]
    refine nx (s := s) (g := g ++ [mg s y]) p4 (by rw [o4.oth _ hSP hSB]; exact L.cs) L.ok (by rw [L.same, goLs_cons, gl_get, thn_none]) (by simp only [List.length_append, List.length_cons, List.length_nil]; omega) (fun j hj => by rw [o4.oth _ (by omega) (by omega)]; exact L.keep j hj) (by rw [o4.len]; exact L.len) (by omega)
  | put y e ls ec =>
    subst ec
    have hs : szs (.put y e :: ls) = 1 + szs ls := rfl
    rw [last3, if_pos (by decide)]
    refine ⟨k - 1, by omega, ?_⟩
    have ks := L.pl.ks
    unfold oks at ks
    obtain ⟨⟨hy, he, _⟩, _⟩ := ks
    have wl := wv_lt L.pl.ok he
    have pl4 := L.pl.other (j := h0.length) (c := mpC (mput s y (wv e b))) hSP hSB
    simp only [bdL, okCs_cons, okCs_nil, okC_ite, okE_cmp, okE_ix, okE_v, okE_c, List.getElem?_cons_zero, List.getElem?_cons_succ, onVal_val, ix_tup, at0, at1, at2, c_eqS, qa00, qa01, qa02, qa03, qa04, qa05, qa06, qa10, qa11, qa12, qa13, qa14, qa15, qa16, qa20, qa21, qa22, qa23, qa24, qa25, qa26, qa30, qa31, qa32, qa33, qa34, qa35, qa36, qa40, qa41, qa42, qa43, qa44, qa45, qa46, qa50, qa51, qa52, qa53, qa54, qa55, qa56, qa60, qa61, qa62, qa63, qa64, qa65, qa66, qb00, qb01, qb02, qb03, qb04, qb05, qb10, qb11, qb12, qb13, qb14, qb15, qb20, qb21, qb22, qb23, qb24, qb25, qb30, qb31, qb32, qb33, qb34, qb35, qb40, qb41, qb42, qb43, qb44, qb45, qb50, qb51, qb52, qb53, qb54, qb55, onO_some, onB_bl, if_true, Bool.false_eq_true, if_false, okC_stIx, stM L.cs (L.ok.lt hn5), okC_ex, okE_meth, mt_answered pl4.ins, okEs_cons, okEs_nil]
    refine (answered_put pl4 (show 1 ≤ m by omega)).mono fun _ h4 ⟨p4, o4⟩ => ?_
    refine nx (s := mput s y (wv e b)) (g := g) p4 (by rw [o4.oth _ hSP hSB]; exact set_get L.cs) (L.ok.put hy wl.1 wl.2) (by rw [L.same, goLs_cons, gl_put, thn_none]) (by omega) (fun j hj => by rw [o4.oth _ (by omega) (by omega), get_set (by omega)]; exact L.keep j hj) (by rw [o4.len, List.length_set]; exact L.len) (by omega)
end K82

set_option linter.all false
set_option Elab.async false
set_option maxRecDepth 100000
set_option maxHeartbeats 1000000
namespace K82
open PySem DC DL
mutual
theorem goLn_w : ∀ (l : Ln) (q : St) (f : Str), (goLn l q).1 = some f → f = "kept" ∨ f = "dropped"
  | .get _ _, q, f, h => by rw [goLn] at h; cases h
  | .put _ _, q, f, h => by rw [goLn] at h; cases h
  | .lt _ _, q, f, h => by rw [goLn] at h; cases h
  | .iff e y n, q, f, h => by
    rw [goLn] at h
    split at h
    · exact goLs_w n q f h
    · exact goLs_w y q f h
  | .fin w, q, f, h => by
    rw [goLn] at h
    injection h with h
    rw [← h]
    split
    · exact .inl rfl
    · exact .inr rfl
theorem goLs_w : ∀ (ls : List Ln) (q : St) (f : Str), (goLs ls q).1 = some f → f = "kept" ∨ f = "dropped"
  | [], q, f, h => by rw [goLs] at h; cases h
  | l :: ls, q, f, h => by
    rw [goLs] at h
    cases e : (goLn l q).1 with
    | none =>
      rw [show goLn l q = (none, (goLn l q).2) from Prod.ext e rfl, thn_none] at h
      exact goLs_w ls _ f h
    | some w =>
      rw [show goLn l q = (some w, (goLn l q).2) from Prod.ext e rfl, thn_some] at h
      exact goLn_w l q f (e.trans h)
end
theorem tru_w {h : List Cell} {f : Str} (hf : f = "kept" ∨ f = "dropped") : truD h (.str f) = some true := by
  rcases hf with rfl | rfl <;> rfl
theorem tup_ref {h : List Cell} {s : Nat} {ds : List D} (e : h[s]? = some (.lst ds)) : b1D .tuple h (.ref s) = some (.tup ds) := by
  unfold b1D
  simp only [seqOf, e, Option.map]
theorem law_alone {names : List D} (hn5 : names.length ≤ 5) {prog : List Ln} (ok : oks names prog) (hsz : szs prog ≤ 16) {s0 : Mp} (o0 : MOk names s0) {h0 : List Cell} {V : Nat} (hv : h0[V]? = some (mpC s0)) {n : Nat} (hn : 23 ≤ n) : okO (callN T n 23 [.tup (toDs prog), .ref V] h0) fun r h' => ∃ c, AloneR names prog s0 h0 r h' c := by
  obtain ⟨m, rfl⟩ : ∃ m, n = m + 1 := ⟨n - 1, by omega⟩
  refine ok_call (n := m) (F := ⟨2, 5, b23⟩) rfl rfl ?_
  show okCs T (callN T m) b23 [.val (.tup (toDs prog)), .val (.ref V), .no, .no, .no] h0 _ _
  unfold b23
  refine okCs_step (Γ' := [.val (.tup (toDs prog)), .val (.ref V), .val (.ref h0.length), .no, .no]) (h' := h0 ++ [mpC s0]) (by simp only [okCs_nil, okCs_cons, okC_asg, okC_own, okC_stIx, okC_aug, okC_app, okC_ex, okC_ret, okC_retN, okC_ite, okC_for, okE_c, okE_no, okE_v, okE_pk, okE_g, okE_bin, okE_neg, okE_cmp, okE_chain, okE_and, okE_or, okE_not, okE_ite, okE_isi, okE_b1, okE_b2, okE_bm, okE_call, okE_ix, okE_sl, okE_tup, okE_lst, okE_dct, okE_new, okE_lc, okEs_nil, okEs_cons, onVal_val, onOwn_own, onO_some, onO_none, onO_map, onB_bl, onCell_lst, onCell_dct, onInts_int, okO_ok, okE_attr, okE_meth, okE_make, okE_getd, okE_orv, okE_popK, okE_popL, okC_appR, okC_stAt, onNon_non, List.getElem?_cons_zero, List.getElem?_cons_succ, List.set_cons_zero, List.set_cons_succ, isNo, boundC, dict_ref hv, newCell]; exact ⟨trivial, rfl⟩) ?_
  refine okCs_step (Γ' := [.val (.tup (toDs prog)), .val (.ref V), .val (.ref h0.length), .val (.ref (h0.length + 1)), .no]) (h' := h0 ++ [mpC s0] ++ [.lst []]) (by simp only [okCs_nil, okCs_cons, okC_asg, okC_own, okC_stIx, okC_aug, okC_app, okC_ex, okC_ret, okC_retN, okC_ite, okC_for, okE_c, okE_no, okE_v, okE_pk, okE_g, okE_bin, okE_neg, okE_cmp, okE_chain, okE_and, okE_or, okE_not, okE_ite, okE_isi, okE_b1, okE_b2, okE_bm, okE_call, okE_ix, okE_sl, okE_tup, okE_lst, okE_dct, okE_new, okE_lc, okEs_nil, okEs_cons, onVal_val, onOwn_own, onO_some, onO_none, onO_map, onB_bl, onCell_lst, onCell_dct, onInts_int, okO_ok, okE_attr, okE_meth, okE_make, okE_getd, okE_orv, okE_popK, okE_popL, okC_appR, okC_stAt, onNon_non, List.getElem?_cons_zero, List.getElem?_cons_succ, List.set_cons_zero, List.set_cons_succ, isNo, boundC, newCell]; exact ⟨Nat.zero_le _, by simp, trivial⟩) ?_
  rw [okCs_cons]
  simp only [okC_asg, okE_orv, okE_call, okEs_cons, okEs_nil, okE_v, okE_c, okE_new, okE_dct, newCell, okO_ok, List.getElem?_cons_zero, List.getElem?_cons_succ, onVal_val]
  have lB : (h0 ++ [mpC s0] ++ [Cell.lst []]).length = h0.length + 2 := by simp
  rw [lB]
  have a1 : At names (h0.length + 2) h0.length (h0.length + 1) (h0 ++ [mpC s0] ++ [Cell.lst []] ++ [Cell.dct [] []]) ⟨[], s0, []⟩ := by
    refine ⟨by omega, by omega, by omega, ?_, ?_, ?_, MOk.nil, o0⟩
    · rw [← lB]
      simp [mpC, mK, mV]
    · simp [mpC]
    · simp
  have k1 : ∀ j, j < h0.length → (h0 ++ [mpC s0] ++ [Cell.lst []] ++ [Cell.dct [] []])[j]? = h0[j]? := fun j hj => by
    rw [List.append_assoc, List.append_assoc, List.getElem?_append_left hj]
  have l1 : h0.length ≤ (h0 ++ [mpC s0] ++ [Cell.lst []] ++ [Cell.dct [] []]).length := by simp
  generalize h0 ++ [mpC s0] ++ [Cell.lst []] ++ [Cell.dct [] []] = h1 at a1 k1 l1 ⊢
  refine (gone prog names _ h1 _ _ _ m 16 hn5 ok a1 (by show 0 + szs prog ≤ 16; omega) (by decide) (by omega)).mono fun r h2 ⟨er, R⟩ => ?_
  have er : r = fD (begun prog s0).1 := er
  have R : Ran names (h0.length + 2) h0.length (h0.length + 1) h1 h2 (begun prog s0).2 16 := R
  have keep : ∀ j, j < h0.length → h2[j]? = h0[j]? := fun j hj => (R.oth.oth j (by omega) (by omega) (by omega)).trans (k1 j hj)
  have len : h0.length ≤ h2.length := by rw [R.oth.len]; exact l1
  have hV : h2[V]? = some (mpC s0) := (keep V (List.getElem?_eq_some_iff.mp hv).1).trans hv
  have l3 : (3 : Nat) ≤ maxLen := show 3 ≤ 16777216 by decide
  have main : ∀ f : Str, fate (begun prog s0) = f → (f = "kept" ∨ f = "dropped") → okCs T (callN T m) [.ite (.cmp .eq (.v 4) (.c (.str "dropped"))) [.asg 2 (.new (.b1 .dict (.v 1)))] [], .ret (.tup [(.v 2), (.b1 .tuple (.v 3)), (.v 4)])] [.val (.tup (toDs prog)), .val (.ref V), .val (.ref h0.length), .val (.ref (h0.length + 1)), .val (.str f)] h2 (fun _ h' => ∃ c, AloneR names prog s0 h0 .non h' c) (fun r h' => ∃ c, AloneR names prog s0 h0 r h' c) := by
    intro f ef hf
    have q1 : (("dropped" : Str) == "kept") = false := by decide +kernel
    have q2 : (("dropped" : Str) == "dropped") = true := by decide +kernel
    rcases hf with rfl | rfl
    · simp only [okCs_nil, okCs_cons, okC_asg, okC_own, okC_stIx, okC_aug, okC_app, okC_ex, okC_ret, okC_retN, okC_ite, okC_for, okE_c, okE_no, okE_v, okE_pk, okE_g, okE_bin, okE_neg, okE_cmp, okE_chain, okE_and, okE_or, okE_not, okE_ite, okE_isi, okE_b1, okE_b2, okE_bm, okE_call, okE_ix, okE_sl, okE_tup, okE_lst, okE_dct, okE_new, okE_lc, okEs_nil, okEs_cons, onVal_val, onOwn_own, onO_some, onO_none, onO_map, onB_bl, onCell_lst, onCell_dct, onInts_int, okO_ok, okE_attr, okE_meth, okE_make, okE_getd, okE_orv, okE_popK, okE_popL, okC_appR, okC_stAt, onNon_non, List.getElem?_cons_zero, List.getElem?_cons_succ, List.set_cons_zero, List.set_cons_succ, isNo, boundC, c_eqS, q1, Bool.false_eq_true, if_false, tup_ref R.at'.cg, List.length_cons, List.length_nil]
      refine ⟨l3, h0.length, ⟨by rw [ef], Nat.le_refl _, ?_, keep, ?_⟩⟩
      · unfold fin
        rw [ef, if_neg nkd]
        exact R.at'.cs
      · unfold fin
        rw [ef, if_neg nkd]
        exact R.at'.ok.s
    · have cg : (h2 ++ [Cell.dct (mK s0) (mV s0)])[h0.length + 1]? = some (.lst ((begun prog s0).2.g.map .int)) := by
        rw [List.getElem?_append_left (List.getElem?_eq_some_iff.mp R.at'.cg).1]
        exact R.at'.cg
      simp only [okCs_nil, okCs_cons, okC_asg, okC_own, okC_stIx, okC_aug, okC_app, okC_ex, okC_ret, okC_retN, okC_ite, okC_for, okE_c, okE_no, okE_v, okE_pk, okE_g, okE_bin, okE_neg, okE_cmp, okE_chain, okE_and, okE_or, okE_not, okE_ite, okE_isi, okE_b1, okE_b2, okE_bm, okE_call, okE_ix, okE_sl, okE_tup, okE_lst, okE_dct, okE_new, okE_lc, okEs_nil, okEs_cons, onVal_val, onOwn_own, onO_some, onO_none, onO_map, onB_bl, onCell_lst, onCell_dct, onInts_int, okO_ok, okE_attr, okE_meth, okE_make, okE_getd, okE_orv, okE_popK, okE_popL, okC_appR, okC_stAt, onNon_non, List.getElem?_cons_zero, List.getElem?_cons_succ, List.set_cons_zero, List.set_cons_succ, isNo, boundC, c_eqS, q2, if_true, dict_ref hV, newCell, tup_ref cg, List.length_cons, List.length_nil]
      refine ⟨l3, h2.length, ⟨by rw [ef], len, ?_, fun j hj => ?_, ?_⟩⟩
      · unfold fin
        rw [ef, if_pos rfl]
        simp [mpC]
      · rw [List.getElem?_append_left (by omega)]
        exact keep j hj
      · unfold fin
        rw [ef, if_pos rfl]
        exact o0
  cases e : (begun prog s0).1 with
  | none =>
    rw [e] at er
    subst er
    simp only [fD, truD, onO_some, Bool.false_eq_true, if_false, List.set_cons_succ, List.set_cons_zero]
    exact main "kept" (by unfold fate; rw [e]; rfl) (.inl rfl)
  | some f =>
    have hf := goLs_w prog _ f e
    rw [e] at er
    subst er
    simp only [fD, tru_w hf, onO_some, if_true, List.set_cons_succ, List.set_cons_zero]
    exact main f (by unfold fate; rw [e]; rfl) hf
/-! ### whole numbers -/
theorem whole {h : List Cell} {d : D} {ns : List Int} (e : b1D .list h d = some (.lst (ns.map .int))) {n : Nat} (hn : 1 ≤ n) : callN T n 24 [d] h = some (.ok (.bl true) h) := by
  obtain ⟨m, rfl⟩ : ∃ m, n = m + 1 := ⟨n - 1, by omega⟩
  refine ok_eq (ok_call (n := m) (F := ⟨1, 2, b24⟩) rfl rfl ?_)
  show okCs T (callN T m) b24 [.val d, .no] h _ _
  have e2 : lcL (lcF1 T (callN T m) (.one 1) [1] (.or (.not (.isi .int (.v 1))) (.isi .bool (.v 1))) (.v 1) [.val d, .no]) (ns.map .int) h = some (.ok ((ns.map D.int).filter fun _ => false) h) := lc_filter (p := fun _ => false) fun x hx => by
    obtain ⟨i, _, rfl⟩ := List.mem_map.mp hx
    rw [okO_lcF1]
    simp (decide := true) only [okCs_nil, okCs_cons, okC_asg, okC_own, okC_stIx, okC_aug, okC_app, okC_ex, okC_ret, okC_retN, okC_ite, okC_for, okE_c, okE_no, okE_v, okE_pk, okE_g, okE_bin, okE_neg, okE_cmp, okE_chain, okE_and, okE_or, okE_not, okE_ite, okE_isi, okE_b1, okE_b2, okE_bm, okE_call, okE_ix, okE_sl, okE_tup, okE_lst, okE_dct, okE_new, okE_lc, okEs_nil, okEs_cons, onVal_val, onOwn_own, onO_some, onO_none, onO_map, onB_bl, onCell_lst, onCell_dct, onInts_int, okO_ok, okE_attr, okE_meth, okE_make, okE_getd, okE_orv, okE_popK, okE_popL, okC_appR, okC_stAt, onNon_non, List.getElem?_cons_zero, List.getElem?_cons_succ, List.set_cons_zero, List.set_cons_succ, isNo, boundC, setTg, wipeS, isiD]
    exact ⟨rfl, trivial⟩
  have e3 : (ns.map D.int).filter (fun _ => false) = [] := by simp
  rw [e3] at e2
  have e4 : cmpD .eq h (.lst []) (.lst []) = some (.bl true) := by
    have : eqH h (.lst []) (.lst []) = some true := by
      unfold eqH
      rw [if_pos (by show min 1 1 ≤ 100; decide)]
      simp [eqD, eqZ]
    unfold cmpD
    simp only [this, Option.map]
  simp only [b24, okCs_nil, okCs_cons, okC_asg, okC_own, okC_stIx, okC_aug, okC_app, okC_ex, okC_ret, okC_retN, okC_ite, okC_for, okE_c, okE_no, okE_v, okE_pk, okE_g, okE_bin, okE_neg, okE_cmp, okE_chain, okE_and, okE_or, okE_not, okE_ite, okE_isi, okE_b1, okE_b2, okE_bm, okE_call, okE_ix, okE_sl, okE_tup, okE_lst, okE_dct, okE_new, okE_lc, okEs_nil, okEs_cons, onVal_val, onOwn_own, onO_some, onO_none, onO_map, onB_bl, onCell_lst, onCell_dct, onInts_int, okO_ok, okE_attr, okE_meth, okE_make, okE_getd, okE_orv, okE_popK, okE_popL, okC_appR, okC_stAt, onNon_non, List.getElem?_cons_zero, List.getElem?_cons_succ, List.set_cons_zero, List.set_cons_succ, isNo, boundC, e, itemsOf, e2, e4]
  exact ⟨rfl, Nat.zero_le _, Nat.zero_le _, trivial, trivial⟩
/-! ### equal dicts -/
theorem ex_int {h : List Cell} {k : Nat} {i : Int} : expD h k (.int i) = .int i := by cases k <;> rfl
theorem ex_str {h : List Cell} {k : Nat} {i : Str} : expD h k (.str i) = .str i := by cases k <;> rfl
theorem ex_tup {h : List Cell} {k : Nat} {ds : List D} : expD h (k + 1) (.tup ds) = .tup (ds.map (expD h k)) := by rw [expD]
theorem ex_ints {h : List Cell} {k : Nat} {l : List Int} : (l.map D.int).map (expD h k) = l.map D.int := by
  rw [List.map_map]
  congr 1
  funext i
  exact ex_int
theorem ex_mV {h : List Cell} {k : Nat} {m : Mp} : (mV m).map (expD h k) = mV m := by
  unfold mV
  rw [List.map_map]
  congr 1
  funext i
  exact ex_int
theorem ex_ref {h : List Cell} {k c : Nat} {m : Mp} (e : h[c]? = some (mpC m)) : expD h (k + 1) (.ref c) = .dct (mK m) (mV m) := by
  rw [expD]
  simp only [e, mpC]
  rw [ex_mV]
def told (c : Nat) (g : List Int) (f : Str) : D := .tup [.ref c, .tup (g.map .int), .str f]
def toldX (m : Mp) (g : List Int) (f : Str) : D := .tup [.dct (mK m) (mV m), .tup (g.map .int), .str f]
theorem ex_told {h : List Cell} {k c : Nat} {m : Mp} {g : List Int} {f : Str} (e : h[c]? = some (mpC m)) : expD h (k + 2) (told c g f) = toldX m g f := by
  unfold told toldX
  rw [ex_tup]
  simp only [List.map_cons, List.map_nil]
  rw [ex_ref e, ex_tup, ex_str, ex_ints]
theorem mget_nd : ∀ {m : Mp}, (m.map (·.1)).Nodup → ∀ p ∈ m, mget m p.1 = some p.2
  | (y, w) :: m, nd, p, hp => by
    rw [List.map_cons, List.nodup_cons] at nd
    rw [mget]
    rcases List.mem_cons.mp hp with rfl | hp
    · rw [if_pos rfl]
    · rw [if_neg fun z => nd.1 (by show y ∈ _; rw [z]; exact List.mem_map.mpr ⟨p, hp, rfl⟩)]
      exact mget_nd nd.2 p hp
theorem mK_nd : ∀ {m : Mp}, (m.map (·.1)).Nodup → (mK m).Nodup
  | [], _ => List.nodup_nil
  | (y, w) :: m, nd => by
    rw [List.map_cons, List.nodup_cons] at nd
    show (Sum.inr y :: mK m).Nodup
    rw [List.nodup_cons]
    refine ⟨fun z => ?_, mK_nd nd.2⟩
    obtain ⟨p, hp, e⟩ := List.mem_map.mp z
    injection e with e
    exact nd.1 (List.mem_map.mpr ⟨p, hp, e⟩)
theorem eqXK_m {M : Mp} : ∀ {m : Mp}, (∀ p ∈ m, mget M p.1 = some p.2) → eqXK (mK m) (mV m) (mK M) (mV M) = some true
  | [], _ => by
    show eqXK [] [] _ _ = _
    rw [eqXK]
  | (y, w) :: m, h => by
    show eqXK (Sum.inr y :: mK m) (.int w :: mV m) _ _ = _
    rw [eqXK]
    simp only [dget_m, h (y, w) List.mem_cons_self, Option.map, eqXK_m fun p hp => h p (List.mem_cons_of_mem _ hp)]
    have : eqX (.int w) (.int w) = some true := by
      show some (w == w) = _
      rw [beq_self_eq_true]
    rw [this]
    rfl
theorem eqX_m {m : Mp} (nd : (m.map (·.1)).Nodup) : eqX (.dct (mK m) (mV m)) (.dct (mK m) (mV m)) = some true := by
  rw [eqX, if_pos (mK_nd nd), if_pos rfl]
  exact eqXK_m (mget_nd nd)
theorem eqXZ_ints : ∀ {l : List Int}, eqXZ (l.map .int) (l.map .int) = some true
  | [] => by
    show eqXZ [] [] = _
    rw [eqXZ]
  | a :: l => by
    rw [List.map_cons, eqXZ]
    have : eqX (.int a) (.int a) = some true := by
      show some (a == a) = _
      rw [beq_self_eq_true]
    simp only [this, eqXZ_ints]
    rfl
theorem eqX_told {m : Mp} {g : List Int} {f : Str} (nd : (m.map (·.1)).Nodup) : eqX (toldX m g f) (toldX m g f) = some true := by
  have e2 : eqX (.tup (g.map .int)) (.tup (g.map .int)) = some true := by
    rw [eqX, eqXZ_ints]
    simp
  have e3 : eqX (.str f) (.str f) = some true := by
    show some (f == f) = _
    rw [beq_self_eq_true]
  have e4 : eqXZ [] [] = some true := by rw [eqXZ]
  unfold toldX
  rw [eqX]
  have : eqXZ [.dct (mK m) (mV m), .tup (g.map .int), .str f] [.dct (mK m) (mV m), .tup (g.map .int), .str f] = some true := by
    simp only [eqXZ, eqX_m nd, e2, e3]
    rfl
  rw [this]
  rfl
theorem dp_ints : ∀ {l : List Int}, depthL (l.map .int) = 0
  | [] => rfl
  | a :: l => by
    show max 0 (depthL (l.map .int)) = 0
    rw [dp_ints]
    rfl
theorem dp_mV {m : Mp} : depthL (mV m) = 0 := by
  have : mV m = (m.map (·.2)).map .int := by
    unfold mV
    rw [List.map_map]
    rfl
  rw [this, dp_ints]
theorem dp_told {c : Nat} {g : List Int} {f : Str} : (told c g f).depth = 2 := by
  show max 0 (max (depthL (g.map .int) + 1) (max 0 0)) + 1 = 2
  rw [dp_ints]
  rfl
theorem dp_toldX {m : Mp} {g : List Int} {f : Str} : (toldX m g f).depth = 2 := by
  show max (depthL (mV m) + 1) (max (depthL (g.map .int) + 1) (max 0 0)) + 1 = 2
  rw [dp_ints, dp_mV]
  rfl
theorem dp_m {m : Mp} : (D.dct (mK m) (mV m)).depth = 1 := by
  show depthL (mV m) + 1 = 1
  rw [dp_mV]
section
variable {h : List Cell} {c c' : Nat} {m : Mp} {g : List Int} {f : Str}
theorem ne_told (e : h[c]? = some (mpC m)) (e' : h[c']? = some (mpC m)) (nd : (m.map (·.1)).Nodup) : cmpD .ne h (told c g f) (told c' g f) = some (.bl false) := by
  have : neH h (told c g f) (told c' g f) = some false := by
    unfold neH
    rw [show neD (told c g f) (told c' g f) = none from rfl]
    simp only [ex_told (k := 10) e, ex_told (k := 10) e', dp_toldX]
    rw [if_pos (by decide)]
    show (eqX (toldX m g f) (toldX m g f)).map _ = _
    rw [eqX_told nd]
    rfl
  unfold cmpD
  simp only [this, Option.map]
theorem eq_told (e : h[c]? = some (mpC m)) (e' : h[c']? = some (mpC m)) (nd : (m.map (·.1)).Nodup) : cmpD .eq h (told c g f) (told c' g f) = some (.bl true) := by
  have : eqH h (told c g f) (told c' g f) = some true := by
    unfold eqH
    rw [dp_told, dp_told, if_pos (by decide), show eqD (told c g f) (told c' g f) = none from rfl]
    simp only [ex_told (k := 10) e, ex_told (k := 10) e', dp_toldX]
    rw [if_pos (by decide)]
    exact eqX_told nd
  unfold cmpD
  simp only [this, Option.map]
theorem ne_maps (e : h[c]? = some (mpC m)) (e' : h[c']? = some (mpC m)) (nd : (m.map (·.1)).Nodup) : cmpD .ne h (.ref c) (.ref c') = some (.bl false) := by
  have : neH h (.ref c) (.ref c') = some false := by
    unfold neH
    rw [show neD (.ref c) (.ref c') = none from rfl]
    simp only [ex_ref (k := 11) e, ex_ref (k := 11) e', dp_m]
    rw [if_pos (by decide)]
    show (eqX (.dct (mK m) (mV m)) (.dct (mK m) (mV m))).map _ = _
    rw [eqX_m nd]
    rfl
  unfold cmpD
  simp only [this, Option.map]
theorem eq_maps (e : h[c]? = some (mpC m)) (e' : h[c']? = some (mpC m)) (nd : (m.map (·.1)).Nodup) : cmpD .eq h (.ref c) (.ref c') = some (.bl true) := by
  have : eqH h (.ref c) (.ref c') = some true := by
    unfold eqH
    rw [show (D.ref c).depth = 0 from rfl, show (D.ref c').depth = 0 from rfl, if_pos (by decide), show eqD (.ref c) (.ref c') = none from rfl]
    simp only [ex_ref (k := 11) e, ex_ref (k := 11) e', dp_m]
    rw [if_pos (by decide)]
    exact eqX_m nd
  unfold cmpD
  simp only [this, Option.map]
end
end K82

set_option linter.all false
set_option Elab.async false
set_option maxRecDepth 100000
set_option maxHeartbeats 1000000
namespace K82
open PySem DC DL
theorem lab_len {z : Str} (h : labelB (.str z) = true) : z.length ≤ 4 := by
  unfold labelB at h
  simp only [Bool.and_eq_true] at h
  have h := h.1
  have h : keyS z = true := h
  unfold keyS at h
  simp only [Bool.and_eq_true, decide_eq_true_eq] at h
  exact h.1.2
theorem MOk.short {names : List D} (hn : NmOk names) {m : Mp} (o : MOk names m) : ∀ p ∈ m, p.1.length ≤ 4 := fun p hp => lab_len (hn.lab _ (o.ks p hp))
theorem put_short {m : Mp} {x : Str} {v : Int} (h : ∀ p ∈ m, p.1.length ≤ 4) (hx : x.length ≤ 4) : ∀ p ∈ mput m x v, p.1.length ≤ 4 := by
  intro p hp
  unfold mput at hp
  split at hp
  · obtain ⟨⟨w, hw⟩, _⟩ := rep_mem hp
    exact h (p.1, w) hw
  · rcases List.mem_append.mp hp with hp | hp
    · exact h p hp
    · rw [List.mem_singleton.mp hp]
      exact hx
theorem rep_len : ∀ {m : Mp} {x : Str} {v : Int}, (mrep m x v).length = m.length
  | [], _, _ => rfl
  | (y, w) :: m, x, v => by
    rw [mrep, List.length_cons, rep_len, List.length_cons]
theorem put_len {m : Mp} {x : Str} {v : Int} : (mput m x v).length ≤ m.length + 1 := by
  unfold mput
  split
  · rw [rep_len]
    omega
  · simp
theorem put_ne {m : Mp} {x : Str} {v : Int} : mput m x v ≠ [] := by
  unfold mput
  split
  · rename_i h
    cases m with
    | nil => cases h
    | cons p m => exact List.cons_ne_nil _ _
  · simp
theorem kok_m {m : Mp} (h : ∀ p ∈ m, p.1.length ≤ 4) : (mK m).all kOk = true := by
  rw [List.all_eq_true]
  intro k hk
  obtain ⟨p, hp, rfl⟩ := List.mem_map.mp hk
  have := h p hp
  show decide (p.1.length ≤ 16777216) = true
  rw [decide_eq_true_eq]
  omega
theorem txt_m : ∀ {m : Mp}, txtKs (mK m) = some (m.map (·.1))
  | [] => rfl
  | (y, w) :: m => by
    show (txtKs (mK m)).map _ = _
    rw [txt_m]
    rfl
theorem ins_mem {x z : Str} : ∀ {l : List Str}, z ∈ insS x l → z = x ∨ z ∈ l
  | [], h => by
    rw [insS] at h
    exact .inl (List.mem_singleton.mp h)
  | y :: l, h => by
    rw [insS] at h
    split at h
    · exact List.mem_cons.mp h
    · rcases List.mem_cons.mp h with e | h
      · exact .inr (e ▸ List.mem_cons_self)
      · rcases ins_mem h with e | h
        · exact .inl e
        · exact .inr (List.mem_cons_of_mem _ h)
theorem sort_mem {z : Str} : ∀ {l : List Str}, z ∈ sortS l → z ∈ l
  | [], h => h
  | y :: l, h => by
    rw [sortS] at h
    rcases ins_mem h with e | h
    · exact e ▸ List.mem_cons_self
    · exact List.mem_cons_of_mem _ (sort_mem h)
theorem ins_ne {x : Str} : ∀ {l : List Str}, ∃ a r, insS x l = a :: r
  | [] => ⟨_, _, rfl⟩
  | y :: l => by
    rw [insS]
    split
    · exact ⟨_, _, rfl⟩
    · exact ⟨_, _, rfl⟩
/-- sorted(d)[0] -/
theorem sorted_m {h : List Cell} {c : Nat} {m : Mp} (e : h[c]? = some (mpC m)) (hl : m.length < 64) (hs : ∀ p ∈ m, p.1.length ≤ 4) (hne : m ≠ []) : ∃ x r, b1D .sorted h (.ref c) = some (.lst (.str x :: r)) ∧ x ∈ m.map (·.1) := by
  have h1 : b1D .sorted h (.ref c) = some (.lst ((sortS (m.map (·.1))).map .str)) := by
    unfold b1D
    simp only [dct_ref e, Option.bind, txt_m]
    rw [if_pos]
    rw [Bool.and_eq_true, decide_eq_true_eq, List.length_map, List.all_eq_true]
    refine ⟨hl, fun x hx => ?_⟩
    obtain ⟨p, hp, rfl⟩ := List.mem_map.mp hx
    have := hs p hp
    show decide (p.1.length ≤ 16777216) = true
    rw [decide_eq_true_eq]
    omega
  cases m with
  | nil => exact absurd rfl hne
  | cons p m =>
    obtain ⟨a, r, ea⟩ := ins_ne (x := p.1) (l := sortS (m.map (·.1)))
    have e2 : sortS ((p :: m).map (·.1)) = a :: r := ea
    refine ⟨a, r.map .str, by rw [h1, e2]; rfl, sort_mem ?_⟩
    rw [e2]
    exact List.mem_cons_self
theorem pop_m {h : List Cell} {c : Nat} {m : Mp} (e : h[c]? = some (mpC m)) {x : Str} (hx : x ∈ m.map (·.1)) : ∃ (v : D) (cl : Cell), popKD h (.ref c) (.str x) = some (v, h.set c cl) := by
  obtain ⟨v, ev⟩ := mget_of hx
  refine ⟨.int v, .dct ((mK m).filter fun k' => decide (k' ≠ .inr x)) (dropL (mK m) (mV m) (.inr x)), ?_⟩
  unfold popKD
  simp only [e, mpC, keyOf, dget_m, ev, Option.map]
theorem isi_dct {h : List Cell} {c : Nat} {m : Mp} (e : h[c]? = some (mpC m)) : isiD .dict h (.ref c) = some true := by
  unfold isiD
  simp only [e, mpC]
  rfl
theorem notT_bl {h : List Cell} {a b : Bool} : cmpD .notT h (.bl a) (.bl b) = some (.bl (!(a == b))) := rfl
def ldC (m : Mp) : Cell := .ldct (mK m) (mV m)
theorem it_keys {h : List Cell} {c : Nat} {m : Mp} (e : h[c]? = some (ldC m)) (hs : ∀ p ∈ m, p.1.length ≤ 4) : itemsOf .keys h [.ref c] = some (m.map fun p => .str p.1) := by
  simp only [itemsOf, e, ldC, kok_m hs, if_true]
  unfold mK
  rw [List.map_map]
  rfl
theorem ix_ld {h : List Cell} {c : Nat} {m : Mp} (e : h[c]? = some (ldC m)) {x : Str} (hx : x ∈ m.map (·.1)) : ixD h (.ref c) (.str x) = some (.int (mg m x)) := by
  obtain ⟨v, ev⟩ := mget_of hx
  unfold ixD
  simp only [dctOf, e, ldC]
  show dgetL (mK m) (mV m) (.inr x) = _
  rw [dget_m]
  unfold mg
  rw [ev]
  rfl
theorem lk_h {h : List Cell} {c : Nat} {m : Mp} (e : h[c]? = some (mpC m)) : lockH h c = some (h.set c (ldC m)) := by
  unfold lockH
  simp only [e, mpC, Option.bind, lockC, Option.map]
  rfl
theorem ulk_h {h : List Cell} {c : Nat} {m : Mp} (e : h[c]? = some (ldC m)) : unlockH h c = some (h.set c (mpC m)) := by
  unfold unlockH
  simp only [e, ldC, Option.bind, unlockC, Option.map]
  rfl
end K82

set_option linter.all false
set_option Elab.async false
set_option maxRecDepth 100000
set_option maxHeartbeats 1000000
namespace K82
open PySem DC DL
theorem ix0_told {h : List Cell} {c : Nat} {g : List Int} {f : Str} : ixD h (told c g f) (.int 0) = some (.ref c) := by
  unfold told
  rw [ix_tup, at0]
theorem ix1_told {h : List Cell} {c : Nat} {g : List Int} {f : Str} : ixD h (told c g f) (.int 1) = some (.tup (g.map .int)) := by
  unfold told
  rw [ix_tup, at1]
theorem look_told {h : List Cell} {c : Nat} {g : List Int} {f : Str} {a b e x : Slot} : lookD [a, b, e, x, .val (told c g f), .no] h 4 [.ix (.int 0)] = some c := by
  unfold lookD
  simp only [List.getElem?_cons_succ, List.getElem?_cons_zero]
  unfold told
  simp only [stepsD, ix_tup, at0, Option.bind]
/-- the walk over the dict's keys -/
theorem keys_lc {h : List Cell} {c m : Nat} {g : List Int} {f : Str} {M : Mp} (e : h[c]? = some (ldC M)) {a b x y : Slot} : lcL (lcF1 T (callN T m) (.one 5) [5] (.c (.bl true)) (.ix (.ix (.v 4) (.c (.int 0))) (.v 5)) [a, b, x, y, .val (told c g f), .no]) (M.map fun p => .str p.1) h = some (.ok ((M.map fun p => mg M p.1).map .int) h) := by
  have := lc_pure (f := lcF1 T (callN T m) (.one 5) [5] (.c (.bl true)) (.ix (.ix (.v 4) (.c (.int 0))) (.v 5)) [a, b, x, y, .val (told c g f), .no]) (h := h) (ds := M.map fun p => .str p.1) (g := fun d => .int (mg M (strOf d))) (fun d hd => by
    obtain ⟨p, hp, rfl⟩ := List.mem_map.mp hd
    rw [okO_lcF1]
    simp only [okCs_nil, okCs_cons, okC_asg, okC_own, okC_stIx, okC_aug, okC_app, okC_ex, okC_ret, okC_retN, okC_ite, okC_for, okE_c, okE_no, okE_v, okE_pk, okE_g, okE_bin, okE_neg, okE_cmp, okE_chain, okE_and, okE_or, okE_not, okE_ite, okE_isi, okE_b1, okE_b2, okE_bm, okE_call, okE_ix, okE_sl, okE_tup, okE_lst, okE_dct, okE_new, okE_lc, okEs_nil, okEs_cons, onVal_val, onOwn_own, onO_some, onO_none, onO_map, onB_bl, onCell_lst, onCell_dct, onInts_int, okO_ok, okE_attr, okE_meth, okE_make, okE_getd, okE_orv, okE_popK, okE_popL, okC_appR, okC_stAt, onNon_non, List.getElem?_cons_zero, List.getElem?_cons_succ, List.set_cons_zero, List.set_cons_succ, isNo, boundC, setTg, wipeS, if_true, ix0_told, ix_ld e (List.mem_map.mpr ⟨p, hp, rfl⟩)]
    exact ⟨rfl, trivial⟩)
  rw [this]
  simp [strOf]
theorem list_lst {h : List Cell} {ds : List D} : b1D .list h (.lst ds) = some (.lst ds) := rfl
theorem right {names : List D} (hn : NmOk names) {prog : List Ln} (ok : oks names prog) (hsz : szs prog ≤ 16) (gd : DL.good 12 (.tup (toDs prog))) (pb : progB 12 (.tup (toDs prog)) = true) {s0 : Mp} (o0 : MOk names s0) {h0 : List Cell} {V : Nat} (hv : h0[V]? = some (mpC s0)) {n : Nat} (hnn : 33 ≤ n) : okO (callN T n 25 [.tup (toDs prog), .ref V] h0) fun r h' => r = .bl true ∧ ∀ j, j < h0.length → h'[j]? = h0[j]? := by
  have hn5 := hn.le
  obtain ⟨m, rfl⟩ : ∃ m, n = m + 1 := ⟨n - 1, by omega⟩
  refine ok_call (n := m) (F := ⟨2, 6, b25⟩) rfl rfl ?_
  show okCs T (callN T m) b25 [.val (.tup (toDs prog)), .val (.ref V), .no, .no, .no, .no] h0 _ _
  unfold b25
  refine okCs_step (Γ' := [.val (.tup (toDs prog)), .val (.ref V), .val (.ref h0.length), .no, .no, .no]) (h' := h0 ++ [mpC s0]) (by simp only [okCs_nil, okCs_cons, okC_asg, okC_own, okC_stIx, okC_aug, okC_app, okC_ex, okC_ret, okC_retN, okC_ite, okC_for, okE_c, okE_no, okE_v, okE_pk, okE_g, okE_bin, okE_neg, okE_cmp, okE_chain, okE_and, okE_or, okE_not, okE_ite, okE_isi, okE_b1, okE_b2, okE_bm, okE_call, okE_ix, okE_sl, okE_tup, okE_lst, okE_dct, okE_new, okE_lc, okEs_nil, okEs_cons, onVal_val, onOwn_own, onO_some, onO_none, onO_map, onB_bl, onCell_lst, onCell_dct, onInts_int, okO_ok, okE_attr, okE_meth, okE_make, okE_getd, okE_orv, okE_popK, okE_popL, okC_appR, okC_stAt, onNon_non, List.getElem?_cons_zero, List.getElem?_cons_succ, List.set_cons_zero, List.set_cons_succ, isNo, boundC, dict_ref hv, newCell]; exact ⟨trivial, rfl⟩) ?_
  have k1 : ∀ j, j < h0.length → (h0 ++ [mpC s0])[j]? = h0[j]? := fun j hj => List.getElem?_append_left hj
  have kH : (h0 ++ [mpC s0])[h0.length]? = some (mpC s0) := by simp
  have kl : (h0 ++ [mpC s0]).length = h0.length + 1 := by simp
  have hVl := (List.getElem?_eq_some_iff.mp hv).1
  generalize h0 ++ [mpC s0] = h1 at k1 kH kl ⊢
  have hv1 : h1[V]? = some (mpC s0) := (k1 V hVl).trans hv
  rw [okCs_cons]
  simp only [okC_asg, okE_call, okEs_cons, okEs_nil, okE_v, List.getElem?_cons_zero, List.getElem?_cons_succ, onVal_val]
  refine (law_alone hn5 ok hsz o0 hv1 (show 23 ≤ m by omega)).mono fun r h2 ⟨c1, A1⟩ => ?_
  rw [A1.er]
  simp only [List.set_cons_succ, List.set_cons_zero]
  rw [okCs_cons]
  simp only [okC_asg, okE_call, okEs_cons, okEs_nil, okE_v, List.getElem?_cons_zero, List.getElem?_cons_succ, onVal_val]
  have lc1 := A1.lc
  have cc1 := A1.cc
  have nd := A1.ok.nd
  have hH2 : h2[h0.length]? = some (mpC s0) := (A1.keep _ (by omega)).trans kH
  refine (alone hn5 ok hsz o0 hH2 (show 6 ≤ m by omega)).mono fun r h3 ⟨c2, A2⟩ => ?_
  rw [A2.er]
  simp only [List.set_cons_succ, List.set_cons_zero]
  have lc2 := A2.lc
  have l1 := (List.getElem?_eq_some_iff.mp cc1).1
  have l2 := (List.getElem?_eq_some_iff.mp A2.cc).1
  have e1 : h3[c1]? = some (mpC (fin s0 (begun prog s0))) := (A2.keep _ l1).trans cc1
  have e2 := A2.cc
  have eH : h3[h0.length]? = some (mpC s0) := (A2.keep _ (by omega)).trans hH2
  have kp : ∀ j, j < h0.length → h3[j]? = h0[j]? := fun j hj => (A2.keep j (by omega)).trans ((A1.keep j (by omega)).trans (k1 j hj))
  have om := A2.ok
  have sh := K82.MOk.short hn om
  have ol := om.len
  have n1 : c1 ≠ c2 := by omega
  have n2 : h0.length ≠ c2 := by omega
  have n3 : h0.length < c2 := by omega
  have l0 : h0.length < h3.length := by omega
  have n4 : c1 < h3.length := by omega
  clear A1 A2 hH2 cc1 lc1 lc2 l1 hv1 k1 kH kl
  generalize hM : fin s0 (begun prog s0) = M at e1 e2 nd om sh ol
  generalize hg : (begun prog s0).2.g = g
  generalize hf : fate (begun prog s0) = f
  show okCs T (callN T m) _ [.val (.tup (toDs prog)), .val (.ref V), .val (.ref h0.length), .val (told c1 g f), .val (told c2 g f), .no] h3 _ _
  have eV : h3[V]? = some (mpC s0) := (kp V hVl).trans hv
  have it : isiD .tuple h3 (told c2 g f) = some true := rfl
  have ip := fun h => is_program (T := T) 12 _ gd m h (by omega)
  refine okCs_step (Γ' := [.val (.tup (toDs prog)), .val (.ref V), .val (.ref h0.length), .val (told c1 g f), .val (told c2 g f), .no]) (h' := h3) (by
    simp only [okCs_nil, okCs_cons, okC_asg, okC_own, okC_stIx, okC_aug, okC_app, okC_ex, okC_ret, okC_retN, okC_ite, okC_for, okE_c, okE_no, okE_v, okE_pk, okE_g, okE_bin, okE_neg, okE_cmp, okE_chain, okE_and, okE_or, okE_not, okE_ite, okE_isi, okE_b1, okE_b2, okE_bm, okE_call, okE_ix, okE_sl, okE_tup, okE_lst, okE_dct, okE_new, okE_lc, okEs_nil, okEs_cons, onVal_val, onOwn_own, onO_some, onO_none, onO_map, onB_bl, onCell_lst, onCell_dct, onInts_int, okO_ok, okE_attr, okE_meth, okE_make, okE_getd, okE_orv, okE_popK, okE_popL, okC_appR, okC_stAt, onNon_non, List.getElem?_cons_zero, List.getElem?_cons_succ, List.set_cons_zero, List.set_cons_succ, isNo, boundC, it, Bool.not_true, Bool.not_false, Bool.false_eq_true, if_false, ne_told e2 e1 nd, ne_maps eH eV o0.nd, ip, pb, notT_bl]
    rw [if_neg (by decide)]
    exact ⟨trivial, trivial⟩) ?_
  have it1 : isiD .tuple h3 (.tup (g.map .int)) = some true := rfl
  refine okCs_step (Γ' := [.val (.tup (toDs prog)), .val (.ref V), .val (.ref h0.length), .val (told c1 g f), .val (told c2 g f), .no]) (h' := h3) (by
    simp only [okCs_nil, okCs_cons, okC_asg, okC_own, okC_stIx, okC_aug, okC_app, okC_ex, okC_ret, okC_retN, okC_ite, okC_for, okE_c, okE_no, okE_v, okE_pk, okE_g, okE_bin, okE_neg, okE_cmp, okE_chain, okE_and, okE_or, okE_not, okE_ite, okE_isi, okE_b1, okE_b2, okE_bm, okE_call, okE_ix, okE_sl, okE_tup, okE_lst, okE_dct, okE_new, okE_lc, okEs_nil, okEs_cons, onVal_val, onOwn_own, onO_some, onO_none, onO_map, onB_bl, onCell_lst, onCell_dct, onInts_int, okO_ok, okE_attr, okE_meth, okE_make, okE_getd, okE_orv, okE_popK, okE_popL, okC_appR, okC_stAt, onNon_non, List.getElem?_cons_zero, List.getElem?_cons_succ, List.set_cons_zero, List.set_cons_succ, isNo, boundC, ix0_told, ix1_told, isi_dct e2, it1, Bool.not_true, Bool.false_eq_true, if_false]
    exact ⟨trivial, trivial⟩) ?_
  have eL := set_get (c' := ldC M) e2
  have ml : (M.map fun p => mg M p.1).length ≤ maxLen := by
    rw [List.length_map]
    show _ ≤ 16777216
    omega
  have wo : wipeOk [.val (.tup (toDs prog)), .val (.ref V), .val (.ref h0.length), .val (told c1 g f), .val (told c2 g f), .no] [5] = true := rfl
  refine okCs_step (Γ' := [.val (.tup (toDs prog)), .val (.ref V), .val (.ref h0.length), .val (told c1 g f), .val (told c2 g f), .no]) (h' := (h3.set c2 (ldC M)).set c2 (mpC M)) (by
    simp only [okC_lkd, look_told, lk_h e2, onO_some]
    simp only [okCs_nil, okCs_cons, okC_asg, okC_own, okC_stIx, okC_aug, okC_app, okC_ex, okC_ret, okC_retN, okC_ite, okC_for, okE_c, okE_no, okE_v, okE_pk, okE_g, okE_bin, okE_neg, okE_cmp, okE_chain, okE_and, okE_or, okE_not, okE_ite, okE_isi, okE_b1, okE_b2, okE_bm, okE_call, okE_ix, okE_sl, okE_tup, okE_lst, okE_dct, okE_new, okE_lc, okEs_nil, okEs_cons, onVal_val, onOwn_own, onO_some, onO_none, onO_map, onB_bl, onCell_lst, onCell_dct, onInts_int, okO_ok, okE_attr, okE_meth, okE_make, okE_getd, okE_orv, okE_popK, okE_popL, okC_appR, okC_stAt, onNon_non, List.getElem?_cons_zero, List.getElem?_cons_succ, List.set_cons_zero, List.set_cons_succ, isNo, boundC, ix0_told, ix1_told, it_keys eL sh, keys_lc eL, wo, List.length_map, whole (list_lst (h := h3.set c2 (ldC M)) (ds := (M.map fun p => mg M p.1).map .int)) (show 1 ≤ m by omega), whole (list_tup (h := h3.set c2 (ldC M)) (ds := g.map .int)) (show 1 ≤ m by omega), Bool.not_true, Bool.false_eq_true, if_false, ulk_h eL]
    refine ⟨trivial, ?_, trivial, trivial⟩
    show M.length ≤ 16777216
    omega) ?_
  have j5 : ∀ j, j ≠ c2 → ((h3.set c2 (ldC M)).set c2 (mpC M))[j]? = h3[j]? := fun j hj => by rw [get_set fun z => hj z.symm, get_set fun z => hj z.symm]
  have e5 : ((h3.set c2 (ldC M)).set c2 (mpC M))[c2]? = some (mpC M) := set_get eL
  have l5 : ((h3.set c2 (ldC M)).set c2 (mpC M)).length = h3.length := by simp
  generalize (h3.set c2 (ldC M)).set c2 (mpC M) = h5 at j5 e5 l5 ⊢
  refine okCs_step (Γ' := [.val (.tup (toDs prog)), .val (.ref V), .val (.ref h0.length), .val (told c1 g f), .val (told c2 g f), .no]) (h' := h5.set c2 (mpC (mput M "zzzz" 5))) (by
    simp only [okCs_nil, okCs_cons, okC_asg, okC_own, okC_stIx, okC_aug, okC_app, okC_ex, okC_ret, okC_retN, okC_ite, okC_for, okE_c, okE_no, okE_v, okE_pk, okE_g, okE_bin, okE_neg, okE_cmp, okE_chain, okE_and, okE_or, okE_not, okE_ite, okE_isi, okE_b1, okE_b2, okE_bm, okE_call, okE_ix, okE_sl, okE_tup, okE_lst, okE_dct, okE_new, okE_lc, okEs_nil, okEs_cons, onVal_val, onOwn_own, onO_some, onO_none, onO_map, onB_bl, onCell_lst, onCell_dct, onInts_int, okO_ok, okE_attr, okE_meth, okE_make, okE_getd, okE_orv, okE_popK, okE_popL, okC_appR, okC_stAt, onNon_non, List.getElem?_cons_zero, List.getElem?_cons_succ, List.set_cons_zero, List.set_cons_succ, isNo, boundC, ix0_told, stM e5 (om.lt hn5)]
    exact ⟨trivial, trivial⟩) ?_
  have e6 := set_get (c' := mpC (mput M "zzzz" 5)) e5
  have sl := put_len (m := M) (x := "zzzz") (v := 5)
  obtain ⟨x, xs, es, hx⟩ := sorted_m e6 (by omega) (put_short sh (by decide)) put_ne
  obtain ⟨v, cl, ep⟩ := pop_m e6 hx
  refine okCs_step (Γ' := [.val (.tup (toDs prog)), .val (.ref V), .val (.ref h0.length), .val (told c1 g f), .val (told c2 g f), .no]) (h' := (h5.set c2 (mpC (mput M "zzzz" 5))).set c2 cl) (by
    simp only [okCs_nil, okCs_cons, okC_asg, okC_own, okC_stIx, okC_aug, okC_app, okC_ex, okC_ret, okC_retN, okC_ite, okC_for, okE_c, okE_no, okE_v, okE_pk, okE_g, okE_bin, okE_neg, okE_cmp, okE_chain, okE_and, okE_or, okE_not, okE_ite, okE_isi, okE_b1, okE_b2, okE_bm, okE_call, okE_ix, okE_sl, okE_tup, okE_lst, okE_dct, okE_new, okE_lc, okEs_nil, okEs_cons, onVal_val, onOwn_own, onO_some, onO_none, onO_map, onB_bl, onCell_lst, onCell_dct, onInts_int, okO_ok, okE_attr, okE_meth, okE_make, okE_getd, okE_orv, okE_popK, okE_popL, okC_appR, okC_stAt, onNon_non, List.getElem?_cons_zero, List.getElem?_cons_succ, List.set_cons_zero, List.set_cons_succ, isNo, boundC, ix0_told, dct_ref e6, Option.isSome, es, ix_lst, at0, ep]
    exact ⟨trivial, trivial, trivial⟩) ?_
  have j7 : ∀ j, j ≠ c2 → ((h5.set c2 (mpC (mput M "zzzz" 5))).set c2 cl)[j]? = h3[j]? := fun j hj => by rw [get_set fun z => hj z.symm, get_set fun z => hj z.symm, j5 j hj]
  have l7 : ((h5.set c2 (mpC (mput M "zzzz" 5))).set c2 cl).length = h3.length := by simp [l5]
  generalize (h5.set c2 (mpC (mput M "zzzz" 5))).set c2 cl = h7 at j7 l7 ⊢
  simp only [okCs_cons, okCs_nil, okC_ret, okE_and, okE_cmp, okE_call, okEs_cons, okEs_nil, okE_v, List.getElem?_cons_zero, List.getElem?_cons_succ, onVal_val]
  refine (alone hn5 ok hsz o0 ((j7 _ n2).trans eH) (show 6 ≤ m by omega)).mono fun r h8 ⟨c3, A3⟩ => ?_
  have e8 := A3.cc
  rw [hM] at e8
  have er := A3.er
  rw [hg, hf] at er
  have er : r = told c3 g f := er
  subst er
  have f1 : h8[c1]? = some (mpC M) := (A3.keep _ (by omega)).trans ((j7 _ n1).trans e1)
  have fH : h8[h0.length]? = some (mpC s0) := (A3.keep _ (by omega)).trans ((j7 _ n2).trans eH)
  have fV : h8[V]? = some (mpC s0) := (A3.keep _ (by omega)).trans ((j7 _ (by omega)).trans eV)
  simp only [eq_told e8 f1 nd, onO_some, onB_bl, if_true, eq_maps fH fV o0.nd]
  exact ⟨trivial, fun j hj => (A3.keep j (by omega)).trans ((j7 j (by omega)).trans (kp j hj))⟩
end K82

set_option linter.all false
set_option Elab.async false
set_option maxRecDepth 100000
set_option maxHeartbeats 1000000
namespace K82
open PySem DC DL
theorem mem_cut {l : List D} {lo hi : Option Int} {d : D} (h : d ∈ cut l lo hi) : d ∈ l := List.mem_of_mem_drop (List.mem_of_mem_take h)
theorem sl_lst {h : List Cell} {l : List D} {lo hi : Option Int} : slI h (.lst l) lo hi = some (.lst (cut l lo hi)) := rfl
def bdV : List CS := [.stIx (.v 3) (.v 4) (.ix (.lst [(.call 10 [(.v 1), (.c (.int 1000))]), (.c (.int 999)), (.c (.int 0)), (.c (.int 1))]) (.call 10 [(.v 1), (.c (.int 4))]))]
def bdK : List CS := [.asg 6 (.call 15 [(.call 9 [(.v 0), (.v 5)]), (.v 2)]),
    .ite (.not (.call 25 [(.v 6), (.v 3)])) [.ret (.c (.bl false))] [],
    .asg 3 (.ix (.call 23 [(.v 6), (.v 3)]) (.c (.int 0)))]
theorem b26_eq : b26 = [.asg 1 (.call 9 [(.v 0), (.c (.int 0))]),
    .asg 2 (.call 11 [(.v 1), (.bin .add (.c (.int 1)) (.call 10 [(.v 1), (.c (.int 5))]))]),
    .asg 3 (.new (.dct [] [])),
    .for_ .seq [(.sl (.v 2) .no (.call 10 [(.v 1), (.c (.int 6))]))] (.one 4) bdV,
    .for_ .range1 [(.b2 .max (.c (.int 1)) (.b2 .min (.c (.int 63)) (.b1 .len (.v 0))))] (.one 5) bdK,
    .ret (.c (.bl true))] := rfl
theorem pick4 {h : List Cell} {a i : Int} (ha : 0 ≤ a) (ha2 : a < 1000) (h0 : 0 ≤ i) (h4 : i < 4) : ∃ v : Int, ixD h (.lst [.int a, .int 999, .int 0, .int 1]) (.int i) = some (.int v) ∧ 0 ≤ v ∧ v < 1000 := by
  have : i = 0 ∨ i = 1 ∨ i = 2 ∨ i = 3 := by omega
  rcases this with rfl | rfl | rfl | rfl
  · exact ⟨a, by rw [ix_lst, at0], ha, ha2⟩
  · exact ⟨999, by rw [ix_lst, at1], by decide, by decide⟩
  · exact ⟨0, by rw [ix_lst, at2], by decide, by decide⟩
  · exact ⟨1, by rw [ix_lst, at3], by decide, by decide⟩
/-- a turn of the first values -/
theorem turnV {names : List D} (hn : NmOk names) {s V : Nat} (hsV : s ≠ V) {h : List Cell} (hs : stOk h[s]?) {m : Mp} (o : MOk names m) (hv : h[V]? = some (mpC m)) {d : D} (hd : d ∈ names) {a b : Slot} {s5 s6 : Slot} :
    okCs T (callN T 63) bdV [a, .val (.ref s), b, .val (.ref V), .val d, s5, s6] h (fun Γ h' => Γ = [a, .val (.ref s), b, .val (.ref V), .val d, s5, s6] ∧ stOk h'[s]? ∧ ∃ m, MOk names m ∧ h'[V]? = some (mpC m)) (fun _ _ => False) := by
  obtain ⟨x, rfl⟩ := lab_str (hn.lab d hd)
  unfold bdV
  rw [okCs_cons]
  simp only [okCs_nil, okC_stIx, okE_ix, okE_lst, okEs_cons, okEs_nil, okE_call, okE_v, okE_c, List.getElem?_cons_zero, List.getElem?_cons_succ, onVal_val]
  refine (law_nextU hs (size := 1000) (by decide) (by decide) (show 1 ≤ 63 by decide)).mono fun r h2 ⟨y, er, y0, y1, U⟩ => ?_
  subst er
  refine ⟨show 4 ≤ 16777216 by decide, ?_⟩
  refine (law_nextU U.st (size := 4) (by decide) (by decide) (show 1 ≤ 63 by decide)).mono fun r h3 ⟨i, er, i0, i1, U2⟩ => ?_
  subst er
  obtain ⟨v, ev, v0, v1⟩ := pick4 (h := h3) y0 y1 i0 i1
  have U3 := U.trans U2
  have hv3 : h3[V]? = some (mpC m) := (U3.oth V (fun z => hsV z.symm)).trans hv
  simp only [ev, onO_some, stM hv3 (o.lt hn.le)]
  refine ⟨trivial, ?_, _, o.put hd v0 v1, set_get hv3⟩
  rw [get_set fun z => hsV z.symm]
  exact U3.st
/-- a turn of the law -/
theorem turnK {names : List D} (hn : NmOk names) {ns : List Int} (hz : ns.length ≤ 63) {k : Nat} {V : Nat} {h : List Cell} {m : Mp} (o : MOk names m) (hv : h[V]? = some (mpC m)) {s1 s4 s6 : Slot} :
    okCs T (callN T 63) bdK [.val (.scr (ns.map .int)), s1, .val (.lst names), .val (.ref V), s4, .val (.int k), s6] h (fun Γ h' => (∃ V s6, Γ = [.val (.scr (ns.map .int)), s1, .val (.lst names), .val (.ref V), s4, .val (.int k), s6] ∧ ∃ m, MOk names m ∧ h'[V]? = some (mpC m))) (fun _ _ => False) := by
  unfold bdK
  rw [okCs_cons]
  simp only [okC_asg, okE_call, okEs_cons, okEs_nil, okE_v, List.getElem?_cons_zero, List.getElem?_cons_succ, onVal_val]
  refine (law_state (h := h) (k := (k : Int)) (by omega) hz (show 1 ≤ 63 by decide)).mono fun r h2 ⟨c, er, e2, st⟩ => ?_
  subst er e2
  have hV := (List.getElem?_eq_some_iff.mp hv).1
  have st2 : stOk (h ++ [c])[h.length]? := by
    rw [show (h ++ [c])[h.length]? = some c by simp]
    exact st
  have hv2 : (h ++ [c])[V]? = some (mpC m) := by
    rw [List.getElem?_append_left hV]
    exact hv
  have l2 : (h ++ [c]).length = h.length + 1 := by simp
  refine (law_program st2 hn (show 15 ≤ 63 by decide)).mono fun r h3 ⟨⟨p, er, op, z1, z16⟩, g, _, kp⟩ => ?_
  subst er
  have hv3 : h3[V]? = some (mpC m) := (kp V (by omega) (by omega)).trans hv2
  simp only [List.set_cons_succ, List.set_cons_zero]
  rw [okCs_cons]
  simp only [okC_ite, okE_not, okE_call, okEs_cons, okEs_nil, okE_v, List.getElem?_cons_zero, List.getElem?_cons_succ, onVal_val]
  refine (right hn op z16 (g 12 (Nat.le_refl _)).1.good (g 12 (Nat.le_refl _)).2 o hv3 (show 33 ≤ 63 by decide)).mono fun r h4 ⟨er, kp4⟩ => ?_
  subst er
  have hv4 : h4[V]? = some (mpC m) := (kp4 V (List.getElem?_eq_some_iff.mp hv3).1).trans hv3
  simp only [onB_bl, Bool.not_true, Bool.false_eq_true, if_false, okCs_nil]
  rw [okCs_cons]
  simp only [okC_asg, okE_ix, okE_call, okEs_cons, okEs_nil, okE_v, okE_c, List.getElem?_cons_zero, List.getElem?_cons_succ, onVal_val]
  refine (law_alone hn.le op z16 o hv4 (show 23 ≤ 63 by decide)).mono fun r h5 ⟨c5, A⟩ => ?_
  rw [A.er]
  have ix : ∀ (c : Nat) (x y : D), ixD h5 (.tup [.ref c, x, y]) (.int 0) = some (.ref c) := fun c x y => by rw [ix_tup, at0]
  simp only [ix, onO_some, List.set_cons_succ, List.set_cons_zero, okCs_nil]
  exact ⟨c5, _, rfl, _, A.ok, A.cc⟩
theorem law_true (ns : List Int) (hz : ns.length ≤ 63) : ∃ h', callN (mkT tab gt cls 200) (63 + 1) 26 [.scr (ns.map .int)] [] = some (.ok (.bl true) h') := by
  have main : okO (callN T (63 + 1) 26 [.scr (ns.map .int)] []) fun r _ => r = .bl true := by
    refine ok_call (n := 63) (F := ⟨1, 7, b26⟩) rfl rfl ?_
    show okCs T (callN T 63) b26 [.val (.scr (ns.map .int)), .no, .no, .no, .no, .no, .no] [] _ _
    have hl : ∃ n : Nat, n ≤ 63 ∧ b2D .min (.int 63) (.int (ns.map D.int).length) = some (.int (min 63 ns.length : Nat)) ∧ b2D .max (.int 1) (.int (min 63 ns.length : Nat)) = some (.int n) := by
      refine ⟨max 1 (min 63 ns.length), by omega, ?_, ?_⟩
      · show some (D.int (if ((ns.map D.int).length : Int) < 63 then ((ns.map D.int).length : Int) else 63)) = _
        rw [List.length_map]
        congr 2
        split <;> omega
      · show some (D.int (if ((min 63 ns.length : Nat) : Int) > 1 then ((min 63 ns.length : Nat) : Int) else 1)) = _
        congr 2
        split <;> omega
    obtain ⟨n, hn, e1, e2⟩ := hl
    rw [b26_eq, okCs_cons]
    simp only [okC_asg, okE_call, okEs_cons, okEs_nil, okE_v, okE_c, List.getElem?_cons_zero, onVal_val]
    refine (law_state (h := []) (k := 0) (by decide) hz (show 1 ≤ 63 by decide)).mono fun r h1 ⟨c, er, eh, st⟩ => ?_
    subst er
    have st1 : stOk h1[0]? := by
      rw [eh]
      exact st
    have l1 : h1.length = 1 := by rw [eh]; rfl
    clear eh st
    simp only [List.set_cons_succ, List.set_cons_zero]
    rw [okCs_cons]
    simp only [okC_asg, okE_call, okE_bin, okEs_cons, okEs_nil, okE_v, okE_c, List.getElem?_cons_zero, List.getElem?_cons_succ, onVal_val]
    refine (law_nextU (s := 0) st1 (size := 5) (by decide) (by decide) (show 1 ≤ 63 by decide)).mono fun r h2 ⟨i, er, i0, i1, U1⟩ => ?_
    subst er
    simp only [b_add, onO_some]
    refine (law_keys U1.st (size := 1 + i) (by omega) (by omega) (show 2 ≤ 63 by decide)).mono fun r h3 ⟨⟨names, er, nm⟩, U2⟩ => ?_
    subst er
    have U := U1.trans U2
    have l3 : h3.length = 1 := U.len.trans l1
    have st3 := U.st
    simp only [List.set_cons_succ, List.set_cons_zero]
    refine okCs_step (Γ' := [.val (.scr (ns.map .int)), .val (.ref 0), .val (.lst names), .val (.ref 1), .no, .no, .no]) (h' := h3 ++ [.dct [] []]) (by
      simp only [okCs_nil, okCs_cons, okC_asg, okC_own, okC_stIx, okC_aug, okC_app, okC_ex, okC_ret, okC_retN, okC_ite, okC_for, okE_c, okE_no, okE_v, okE_pk, okE_g, okE_bin, okE_neg, okE_cmp, okE_chain, okE_and, okE_or, okE_not, okE_ite, okE_isi, okE_b1, okE_b2, okE_bm, okE_call, okE_ix, okE_sl, okE_tup, okE_lst, okE_dct, okE_new, okE_lc, okEs_nil, okEs_cons, onVal_val, onOwn_own, onO_some, onO_none, onO_map, onB_bl, onCell_lst, onCell_dct, onInts_int, okO_ok, okE_attr, okE_meth, okE_make, okE_getd, okE_orv, okE_popK, okE_popL, okC_appR, okC_stAt, onNon_non, List.getElem?_cons_zero, List.getElem?_cons_succ, List.set_cons_zero, List.set_cons_succ, isNo, boundC, newCell, l3]
      exact ⟨rfl, trivial⟩) ?_
    have st4 : stOk (h3 ++ [Cell.dct [] []])[0]? := by
      rw [List.getElem?_append_left (by omega)]
      exact st3
    have hv4 : (h3 ++ [Cell.dct [] []])[1]? = some (mpC []) := by
      rw [List.getElem?_append_right (by omega), l3]
      rfl
    generalize h3 ++ [Cell.dct [] []] = h4 at st4 hv4
    rw [okCs_cons]
    simp only [okC_for, okEs_cons, okEs_nil, okE_sl, okE_no, okE_call, okE_v, okE_c, isNo, boundC, List.getElem?_cons_zero, List.getElem?_cons_succ, onVal_val, onO_some]
    refine (law_nextU (s := 0) st4 (size := 6) (by decide) (by decide) (show 1 ≤ 63 by decide)).mono fun r h5 ⟨j, er, j0, j1, U5⟩ => ?_
    subst er
    have hv5 : h5[1]? = some (mpC []) := (U5.oth 1 (by decide)).trans hv4
    simp only [boundC, sl_lst, onO_some, itemsOf]
    refine for_inv (fun _ Γ h => ∃ s4, Γ = [.val (.scr (ns.map .int)), .val (.ref 0), .val (.lst names), .val (.ref 1), s4, .no, .no] ∧ stOk h[0]? ∧ ∃ m, MOk names m ∧ h[1]? = some (mpC m)) (i := 0) ⟨_, rfl, U5.st, [], MOk.nil, hv5⟩ ?_ ?_
    · rintro j d Γ h ed ⟨s4, rfl, st, m, o, hv⟩
      rw [okS_forF]
      simp only [setTg, onO_some, List.set_cons_succ, List.set_cons_zero]
      refine (turnV nm (by decide) st o hv (mem_cut (List.mem_of_getElem? ed))).mono (fun Γ h' ⟨q1, q2, q3⟩ => ⟨_, q1, q2, q3⟩) fun _ _ q => q.elim
    · rintro Γ h ⟨s4, rfl, st, m, o, hv⟩
      rw [okCs_cons]
      simp only [okC_for, okE_b2, okE_b1, okEs_cons, okEs_nil, okE_v, okE_c, List.getElem?_cons_zero, onVal_val, l_scr, onO_some, e1, e2, items_r1 (show n ≤ 1000 by omega)]
      refine for_inv (fun _ Γ h => ∃ V s5 s6, Γ = [.val (.scr (ns.map .int)), .val (.ref 0), .val (.lst names), .val (.ref V), s4, s5, s6] ∧ ∃ m, MOk names m ∧ h[V]? = some (mpC m)) (i := 0) ⟨1, _, _, rfl, m, o, hv⟩ ?_ ?_
      · rintro j d Γ h ed ⟨V, s5, s6, rfl, m, o, hv⟩
        obtain ⟨k, hk, rfl⟩ := mem_range (List.mem_of_getElem? ed)
        rw [okS_forF]
        simp only [setTg, onO_some, List.set_cons_succ, List.set_cons_zero]
        refine (turnK nm hz o hv).mono (fun Γ h' ⟨V, s6, q1, q2⟩ => ⟨V, _, s6, q1, q2⟩) fun _ _ q => q.elim
      · rintro Γ h ⟨V, s5, s6, rfl, m, o, hv⟩
        simp only [okCs_cons, okC_ret, okE_c]
  revert main
  show okO (callN T (63 + 1) 26 [.scr (ns.map .int)] []) _ → _
  show _ → ∃ h', callN T (63 + 1) 26 [.scr (ns.map .int)] [] = _
  generalize callN T (63 + 1) 26 [.scr (ns.map .int)] [] = r
  intro main
  match r, main with
  | some (.ok d h'), q =>
    have q : d = .bl true := q
    subst q
    exact ⟨h', rfl⟩
end K82

set_option linter.all false
set_option Elab.async false
set_option maxRecDepth 100000
set_option maxHeartbeats 4000000
namespace K82
open PySem PySem.Spec PyProof.Rows L2 DC
theorem ok : tab.all (okFD (mkC tab gt)) = true := by decide +kernel
theorem no_at {K : PySem.W.Frag} {C : Addr} {f : Str} (z : PySem.W.findIn K (.ref C) f = some none) : NoAttr K C f := z
theorem fn_here {K : PySem.W.Frag} {h : Heap} {mg : Str → Option Value} (X : K.In h) (G : h.Ns mainGlobals mg) {x : Str} {st : Stmt} {f : Addr} {oc : Value} {od an : Option Addr} {sl : Array (Option Value)} {kV dc pm cd ct : Value}
    (a : PySem.W.nsIn K mainGlobals x = some (some (.ref f))) (l : K.lookup f = some ⟨oc, od, .func (PySem.W.fnOf x x (defArgs st) (defBody st) (defScope st) .none kV dc pm an cd ct), sl⟩) (c : PySem.W.codeIn K cd x = true) (k : PySem.W.keepIn K (.ref f) = true) :
    ∃ (fa : Addr) (fd : FuncData), Fun K x x st fa fd ∧ mg x = some (.ref fa) := ⟨_, _, fun_mk l c k, PySem.W.mg_of X G a⟩
theorem gl0 {K : PySem.W.Frag} {h : Heap} {mg : Str → Option Value} (X : K.In h) (G : h.Ns mainGlobals mg) {t0 : Tok}
    (a : PySem.W.nsIn K mainGlobals "LETTERS" = some (some (.str "abcdefghijklmnopqrstuvwxyz" t0)))  :
    ∃ (u : Value) (v : V), mg "LETTERS" = some u ∧ RelV v u ∧ ∀ G μ, RD K G μ (.str "abcdefghijklmnopqrstuvwxyz") v :=
  ⟨_, (.str "abcdefghijklmnopqrstuvwxyz"), PySem.W.mg_of X G a, ⟨_, rfl⟩, fun G μ => show RD _ G μ (.str "abcdefghijklmnopqrstuvwxyz") (.str "abcdefghijklmnopqrstuvwxyz") from ⟨rfl, by decide +kernel⟩⟩
theorem gl1 {K : PySem.W.Frag} {h : Heap} {mg : Str → Option Value} (X : K.In h) (G : h.Ns mainGlobals mg) {t0 : Tok}
    (a : PySem.W.nsIn K mainGlobals "MOST_LETTERS" = some (some (.int 4 t0)))  :
    ∃ (u : Value) (v : V), mg "MOST_LETTERS" = some u ∧ RelV v u ∧ ∀ G μ, RD K G μ (.int 4) v :=
  ⟨_, (.int 4), PySem.W.mg_of X G a, ⟨_, rfl⟩, fun G μ => show RD _ G μ (.int 4) (.int 4) from rfl⟩
theorem gl2 {K : PySem.W.Frag} {h : Heap} {mg : Str → Option Value} (X : K.In h) (G : h.Ns mainGlobals mg) {t0 : Tok} {t1 : Tok} {t2 : Tok} {t3 : Tok} {t4 : Tok} {t5 : Tok} {t6 : Tok} {t7 : Tok} {a0 : Addr} {od0 : Option Addr} {n0 : Nat} {sl0 : Array (Option Value)}
    (a : PySem.W.nsIn K mainGlobals "KEPT_WORDS" = some (some (.ref a0))) (l0 : K.lookup a0 = some ⟨.type "tuple", od0, .seq #[.str "get" t0, .str "put" t1, .str "let" t2, .str "if" t3, .str "else" t4, .str "fi" t5, .str "end" t6, .str "drop" t7] n0, sl0⟩) :
    ∃ (u : Value) (v : V), mg "KEPT_WORDS" = some u ∧ RelV v u ∧ ∀ G μ, RD K G μ (.tup [(.str "get"), (.str "put"), (.str "let"), (.str "if"), (.str "else"), (.str "fi"), (.str "end"), (.str "drop")]) v :=
  ⟨_, (.ref a0), PySem.W.mg_of X G a, rfl, fun G μ => show RD _ G μ (.tup [(.str "get"), (.str "put"), (.str "let"), (.str "if"), (.str "else"), (.str "fi"), (.str "end"), (.str "drop")]) (.ref _) from ⟨_, _, rfl, .inr ⟨_, _, _, l0, rfl, rfl, (show (8 : Nat) ≤ sizeLine by decide +kernel), (.cons (show RelV (.str "get") _ from ⟨_, rfl⟩) (.cons (show RelV (.str "put") _ from ⟨_, rfl⟩) (.cons (show RelV (.str "let") _ from ⟨_, rfl⟩) (.cons (show RelV (.str "if") _ from ⟨_, rfl⟩) (.cons (show RelV (.str "else") _ from ⟨_, rfl⟩) (.cons (show RelV (.str "fi") _ from ⟨_, rfl⟩) (.cons (show RelV (.str "end") _ from ⟨_, rfl⟩) (.cons (show RelV (.str "drop") _ from ⟨_, rfl⟩) .nil))))))))⟩, by decide +kernel, (RDs.cons (show RD _ _ _ (.str "get") _ from ⟨rfl, by decide +kernel⟩) (RDs.cons (show RD _ _ _ (.str "put") _ from ⟨rfl, by decide +kernel⟩) (RDs.cons (show RD _ _ _ (.str "let") _ from ⟨rfl, by decide +kernel⟩) (RDs.cons (show RD _ _ _ (.str "if") _ from ⟨rfl, by decide +kernel⟩) (RDs.cons (show RD _ _ _ (.str "else") _ from ⟨rfl, by decide +kernel⟩) (RDs.cons (show RD _ _ _ (.str "fi") _ from ⟨rfl, by decide +kernel⟩) (RDs.cons (show RD _ _ _ (.str "end") _ from ⟨rfl, by decide +kernel⟩) (RDs.cons (show RD _ _ _ (.str "drop") _ from ⟨rfl, by decide +kernel⟩) RDs.nil))))))))⟩⟩
theorem gl3 {K : PySem.W.Frag} {h : Heap} {mg : Str → Option Value} (X : K.In h) (G : h.Ns mainGlobals mg) {t0 : Tok}
    (a : PySem.W.nsIn K mainGlobals "VALUES" = some (some (.int 1000 t0)))  :
    ∃ (u : Value) (v : V), mg "VALUES" = some u ∧ RelV v u ∧ ∀ G μ, RD K G μ (.int 1000) v :=
  ⟨_, (.int 1000), PySem.W.mg_of X G a, ⟨_, rfl⟩, fun G μ => show RD _ G μ (.int 1000) (.int 1000) from rfl⟩
theorem gl4 {K : PySem.W.Frag} {h : Heap} {mg : Str → Option Value} (X : K.In h) (G : h.Ns mainGlobals mg) {t0 : Tok} {t1 : Tok} {t2 : Tok} {t3 : Tok} {t4 : Tok} {a0 : Addr} {od0 : Option Addr} {n0 : Nat} {sl0 : Array (Option Value)}
    (a : PySem.W.nsIn K mainGlobals "SIGNS" = some (some (.ref a0))) (l0 : K.lookup a0 = some ⟨.type "tuple", od0, .seq #[.str "+" t0, .str "-" t1, .str "*" t2, .str "<" t3, .str "=" t4] n0, sl0⟩) :
    ∃ (u : Value) (v : V), mg "SIGNS" = some u ∧ RelV v u ∧ ∀ G μ, RD K G μ (.tup [(.str "+"), (.str "-"), (.str "*"), (.str "<"), (.str "=")]) v :=
  ⟨_, (.ref a0), PySem.W.mg_of X G a, rfl, fun G μ => show RD _ G μ (.tup [(.str "+"), (.str "-"), (.str "*"), (.str "<"), (.str "=")]) (.ref _) from ⟨_, _, rfl, .inr ⟨_, _, _, l0, rfl, rfl, (show (5 : Nat) ≤ sizeLine by decide +kernel), (.cons (show RelV (.str "+") _ from ⟨_, rfl⟩) (.cons (show RelV (.str "-") _ from ⟨_, rfl⟩) (.cons (show RelV (.str "*") _ from ⟨_, rfl⟩) (.cons (show RelV (.str "<") _ from ⟨_, rfl⟩) (.cons (show RelV (.str "=") _ from ⟨_, rfl⟩) .nil)))))⟩, by decide +kernel, (RDs.cons (show RD _ _ _ (.str "+") _ from ⟨rfl, by decide +kernel⟩) (RDs.cons (show RD _ _ _ (.str "-") _ from ⟨rfl, by decide +kernel⟩) (RDs.cons (show RD _ _ _ (.str "*") _ from ⟨rfl, by decide +kernel⟩) (RDs.cons (show RD _ _ _ (.str "<") _ from ⟨rfl, by decide +kernel⟩) (RDs.cons (show RD _ _ _ (.str "=") _ from ⟨rfl, by decide +kernel⟩) RDs.nil)))))⟩⟩
theorem gl5 {K : PySem.W.Frag} {h : Heap} {mg : Str → Option Value} (X : K.In h) (G : h.Ns mainGlobals mg) {t0 : Tok}
    (a : PySem.W.nsIn K mainGlobals "DEEPEST" = some (some (.int 4 t0)))  :
    ∃ (u : Value) (v : V), mg "DEEPEST" = some u ∧ RelV v u ∧ ∀ G μ, RD K G μ (.int 4) v :=
  ⟨_, (.int 4), PySem.W.mg_of X G a, ⟨_, rfl⟩, fun G μ => show RD _ G μ (.int 4) (.int 4) from rfl⟩
theorem gl6 {K : PySem.W.Frag} {h : Heap} {mg : Str → Option Value} (X : K.In h) (G : h.Ns mainGlobals mg) {t0 : Tok}
    (a : PySem.W.nsIn K mainGlobals "MOST_IFS" = some (some (.int 3 t0)))  :
    ∃ (u : Value) (v : V), mg "MOST_IFS" = some u ∧ RelV v u ∧ ∀ G μ, RD K G μ (.int 3) v :=
  ⟨_, (.int 3), PySem.W.mg_of X G a, ⟨_, rfl⟩, fun G μ => show RD _ G μ (.int 3) (.int 3) from rfl⟩
theorem gl7 {K : PySem.W.Frag} {h : Heap} {mg : Str → Option Value} (X : K.In h) (G : h.Ns mainGlobals mg) {t0 : Tok} {a1 : Addr} {od1 : Option Addr} {n1 : Nat} {sl1 : Array (Option Value)} {t1 : Tok} {a2 : Addr} {od2 : Option Addr} {n2 : Nat} {sl2 : Array (Option Value)} {a0 : Addr} {od0 : Option Addr} {n0 : Nat} {sl0 : Array (Option Value)}
    (a : PySem.W.nsIn K mainGlobals "LAST_ONES" = some (some (.ref a0))) (l0 : K.lookup a0 = some ⟨.type "tuple", od0, .seq #[.ref a1, .ref a2] n0, sl0⟩) (l1 : K.lookup a1 = some ⟨.type "tuple", od1, .seq #[.str "end" t0] n1, sl1⟩) (l2 : K.lookup a2 = some ⟨.type "tuple", od2, .seq #[.str "drop" t1] n2, sl2⟩) :
    ∃ (u : Value) (v : V), mg "LAST_ONES" = some u ∧ RelV v u ∧ ∀ G μ, RD K G μ (.tup [(.tup [(.str "end")]), (.tup [(.str "drop")])]) v :=
  ⟨_, (.ref a0), PySem.W.mg_of X G a, rfl, fun G μ => show RD _ G μ (.tup [(.tup [(.str "end")]), (.tup [(.str "drop")])]) (.ref _) from ⟨_, _, rfl, .inr ⟨_, _, _, l0, rfl, rfl, (show (2 : Nat) ≤ sizeLine by decide +kernel), (.cons (show RelV (.ref _) _ from rfl) (.cons (show RelV (.ref _) _ from rfl) .nil))⟩, by decide +kernel, (RDs.cons (show RD _ _ _ (.tup [(.str "end")]) _ from ⟨_, _, rfl, .inr ⟨_, _, _, l1, rfl, rfl, (show (1 : Nat) ≤ sizeLine by decide +kernel), (.cons (show RelV (.str "end") _ from ⟨_, rfl⟩) .nil)⟩, by decide +kernel, (RDs.cons (show RD _ _ _ (.str "end") _ from ⟨rfl, by decide +kernel⟩) RDs.nil)⟩) (RDs.cons (show RD _ _ _ (.tup [(.str "drop")]) _ from ⟨_, _, rfl, .inr ⟨_, _, _, l2, rfl, rfl, (show (1 : Nat) ≤ sizeLine by decide +kernel), (.cons (show RelV (.str "drop") _ from ⟨_, rfl⟩) .nil)⟩, by decide +kernel, (RDs.cons (show RD _ _ _ (.str "drop") _ from ⟨rfl, by decide +kernel⟩) RDs.nil)⟩) RDs.nil))⟩⟩
theorem gl8 {K : PySem.W.Frag} {h : Heap} {mg : Str → Option Value} (X : K.In h) (G : h.Ns mainGlobals mg) {t0 : Tok}
    (a : PySem.W.nsIn K mainGlobals "MOST_ASKED" = some (some (.int 8 t0)))  :
    ∃ (u : Value) (v : V), mg "MOST_ASKED" = some u ∧ RelV v u ∧ ∀ G μ, RD K G μ (.int 8) v :=
  ⟨_, (.int 8), PySem.W.mg_of X G a, ⟨_, rfl⟩, fun G μ => show RD _ G μ (.int 8) (.int 8) from rfl⟩
theorem gl9 {K : PySem.W.Frag} {h : Heap} {mg : Str → Option Value} (X : K.In h) (G : h.Ns mainGlobals mg) {t0 : Tok}
    (a : PySem.W.nsIn K mainGlobals "MOST_LINES" = some (some (.int 16 t0)))  :
    ∃ (u : Value) (v : V), mg "MOST_LINES" = some u ∧ RelV v u ∧ ∀ G μ, RD K G μ (.int 16) v :=
  ⟨_, (.int 16), PySem.W.mg_of X G a, ⟨_, rfl⟩, fun G μ => show RD _ G μ (.int 16) (.int 16) from rfl⟩
theorem bd0 {K : PySem.W.Frag} {fa : Addr} {fd : FuncData} (F : Fun K "is_key" "is_key" (top 3) fa fd) : Binds K fd ["thing"] [] := F.binds (ps := ["thing"]) fun _ _ _ _ _ _ us hl => match us, hl with | [_], _ => rfl
theorem bd1 {K : PySem.W.Frag} {fa : Addr} {fd : FuncData} (F : Fun K "is_label" "is_label" (top 13) fa fd) : Binds K fd ["thing"] [] := F.binds (ps := ["thing"]) fun _ _ _ _ _ _ us hl => match us, hl with | [_], _ => rfl
theorem bd2 {K : PySem.W.Frag} {fa : Addr} {fd : FuncData} (F : Fun K "is_value" "is_value" (top 14) fa fd) : Binds K fd ["thing"] [] := F.binds (ps := ["thing"]) fun _ _ _ _ _ _ us hl => match us, hl with | [_], _ => rfl
theorem bd3 {K : PySem.W.Frag} {fa : Addr} {fd : FuncData} (F : Fun K "is_sum" "is_sum" (top 15) fa fd) : Binds K fd ["thing", "left"] [] := F.binds (ps := ["thing", "left"]) fun _ _ _ _ _ _ us hl => match us, hl with | [_, _], _ => rfl
theorem bd4 {K : PySem.W.Frag} {fa : Addr} {fd : FuncData} (F : Fun K "is_line" "is_line" (top 16) fa fd) : Binds K fd ["thing", "ifs"] [] := F.binds (ps := ["thing", "ifs"]) fun _ _ _ _ _ _ us hl => match us, hl with | [_, _], _ => rfl
theorem bd5 {K : PySem.W.Frag} {fa : Addr} {fd : FuncData} (F : Fun K "are_lines" "are_lines" (top 17) fa fd) : Binds K fd ["thing", "ifs"] [] := F.binds (ps := ["thing", "ifs"]) fun _ _ _ _ _ _ us hl => match us, hl with | [_, _], _ => rfl
theorem bd6 {K : PySem.W.Frag} {fa : Addr} {fd : FuncData} (F : Fun K "count_lines" "count_lines" (top 18) fa fd) : Binds K fd ["lines"] [] := F.binds (ps := ["lines"]) fun _ _ _ _ _ _ us hl => match us, hl with | [_], _ => rfl
theorem bd7 {K : PySem.W.Frag} {fa : Addr} {fd : FuncData} (F : Fun K "count_asked" "count_asked" (top 19) fa fd) : Binds K fd ["lines"] [] := F.binds (ps := ["lines"]) fun _ _ _ _ _ _ us hl => match us, hl with | [_], _ => rfl
theorem bd8 {K : PySem.W.Frag} {fa : Addr} {fd : FuncData} (F : Fun K "is_program" "is_program" (top 20) fa fd) : Binds K fd ["thing"] [] := F.binds (ps := ["thing"]) fun _ _ _ _ _ _ us hl => match us, hl with | [_], _ => rfl
theorem bd9 {K : PySem.W.Frag} {fa : Addr} {fd : FuncData} (F : Fun K "_law_state" "_law_state" (top 25) fa fd) : Binds K fd ["_law_script", "_law_k"] [] := F.binds (ps := ["_law_script", "_law_k"]) fun _ _ _ _ _ _ us hl => match us, hl with | [_, _], _ => rfl
theorem bd10 {K : PySem.W.Frag} {fa : Addr} {fd : FuncData} (F : Fun K "_law_next" "_law_next" (top 26) fa fd) : Binds K fd ["_law_state_here", "_law_size"] [] := F.binds (ps := ["_law_state_here", "_law_size"]) fun _ _ _ _ _ _ us hl => match us, hl with | [_, _], _ => rfl
theorem bd11 {K : PySem.W.Frag} {fa : Addr} {fd : FuncData} (F : Fun K "_law_keys" "_law_keys" (top 27) fa fd) : Binds K fd ["_law_state_here", "_law_size"] [] := F.binds (ps := ["_law_state_here", "_law_size"]) fun _ _ _ _ _ _ us hl => match us, hl with | [_, _], _ => rfl
theorem bd12 {K : PySem.W.Frag} {fa : Addr} {fd : FuncData} (F : Fun K "_law_sum" "_law_sum" (top 28) fa fd) : Binds K fd ["_law_state_here", "_law_names", "_law_deep"] [] := F.binds (ps := ["_law_state_here", "_law_names", "_law_deep"]) fun _ _ _ _ _ _ us hl => match us, hl with | [_, _, _], _ => rfl
theorem bd13 {K : PySem.W.Frag} {fa : Addr} {fd : FuncData} (F : Fun K "_law_line" "_law_line" (top 29) fa fd) : Binds K fd ["_law_state_here", "_law_names", "_law_room", "_law_ifs"] [] := F.binds (ps := ["_law_state_here", "_law_names", "_law_room", "_law_ifs"]) fun _ _ _ _ _ _ us hl => match us, hl with | [_, _, _, _], _ => rfl
theorem bd14 {K : PySem.W.Frag} {fa : Addr} {fd : FuncData} (F : Fun K "_law_lines" "_law_lines" (top 30) fa fd) : Binds K fd ["_law_state_here", "_law_names", "_law_room", "_law_ifs", "_law_most"] [] := F.binds (ps := ["_law_state_here", "_law_names", "_law_room", "_law_ifs", "_law_most"]) fun _ _ _ _ _ _ us hl => match us, hl with | [_, _, _, _, _], _ => rfl
theorem bd15 {K : PySem.W.Frag} {fa : Addr} {fd : FuncData} (F : Fun K "_law_program" "_law_program" (top 31) fa fd) : Binds K fd ["_law_state_here", "_law_names"] [] := F.binds (ps := ["_law_state_here", "_law_names"]) fun _ _ _ _ _ _ us hl => match us, hl with | [_, _], _ => rfl
theorem bd16 {K : PySem.W.Frag} {fa : Addr} {fd : FuncData} (F : Fun K "worth" "worth" (top 21) fa fd) : Binds K fd ["total", "boxes"] [] := F.binds (ps := ["total", "boxes"]) fun _ _ _ _ _ _ us hl => match us, hl with | [_, _], _ => rfl
theorem bd17 {K : PySem.W.Frag} {fa : Addr} {fd : FuncData} (F : Fun K "__init__" "Play.__init__" (inClass (top 22) 0) fa fd) : Binds K fd ["self", "program"] [] := F.binds (ps := ["self", "program"]) fun _ _ _ _ _ _ us hl => match us, hl with | [_, _], _ => rfl
theorem bd18 {K : PySem.W.Frag} {fa : Addr} {fd : FuncData} (F : Fun K "asked" "Play.asked" (inClass (top 22) 1) fa fd) : Binds K fd ["self"] [] := F.binds (ps := ["self"]) fun _ _ _ _ _ _ us hl => match us, hl with | [_], _ => rfl
theorem bd19 {K : PySem.W.Frag} {fa : Addr} {fd : FuncData} (F : Fun K "answered" "Play.answered" (inClass (top 22) 2) fa fd) : Binds K fd ["self", "value"] [] := F.binds (ps := ["self", "value"]) fun _ _ _ _ _ _ us hl => match us, hl with | [_, _], _ => rfl
theorem bd20 {K : PySem.W.Frag} {fa : Addr} {fd : FuncData} (F : Fun K "alone" "alone" (top 23) fa fd) : Binds K fd ["program", "values"] [] := F.binds (ps := ["program", "values"]) fun _ _ _ _ _ _ us hl => match us, hl with | [_, _], _ => rfl
theorem bd21 {K : PySem.W.Frag} {fa : Addr} {fd : FuncData} (F : Fun K "_law_worth" "_law_worth" (top 32) fa fd) : Binds K fd ["_law_total", "_law_boxes"] [] := F.binds (ps := ["_law_total", "_law_boxes"]) fun _ _ _ _ _ _ us hl => match us, hl with | [_, _], _ => rfl
theorem bd22 {K : PySem.W.Frag} {fa : Addr} {fd : FuncData} (F : Fun K "_law_gone" "_law_gone" (top 33) fa fd) : Binds K fd ["_law_lines_here", "_law_boxes", "_law_stand", "_law_gotten"] [] := F.binds (ps := ["_law_lines_here", "_law_boxes", "_law_stand", "_law_gotten"]) fun _ _ _ _ _ _ us hl => match us, hl with | [_, _, _, _], _ => rfl
theorem bd23 {K : PySem.W.Frag} {fa : Addr} {fd : FuncData} (F : Fun K "_law_alone" "_law_alone" (top 34) fa fd) : Binds K fd ["_law_program_here", "_law_stand"] [] := F.binds (ps := ["_law_program_here", "_law_stand"]) fun _ _ _ _ _ _ us hl => match us, hl with | [_, _], _ => rfl
theorem bd24 {K : PySem.W.Frag} {fa : Addr} {fd : FuncData} (F : Fun K "_law_whole_numbers" "_law_whole_numbers" (top 35) fa fd) : Binds K fd ["_law_values"] [] := F.binds (ps := ["_law_values"]) fun _ _ _ _ _ _ us hl => match us, hl with | [_], _ => rfl
theorem bd25 {K : PySem.W.Frag} {fa : Addr} {fd : FuncData} (F : Fun K "_law_right" "_law_right" (top 36) fa fd) : Binds K fd ["_law_program_here", "_law_stand"] [] := F.binds (ps := ["_law_program_here", "_law_stand"]) fun _ _ _ _ _ _ us hl => match us, hl with | [_, _], _ => rfl
theorem bd26 {K : PySem.W.Frag} {fa : Addr} {fd : FuncData} (F : Fun K "law" "law" (top 37) fa fd) : Binds K fd ["_law_script"] [] := F.binds (ps := ["_law_script"]) fun _ _ _ _ _ _ us hl => match us, hl with | [_], _ => rfl
theorem top_mk {K : PySem.W.Frag} {mg : Str → Option Value} (h0 : ∃ (fa : Addr) (fd : FuncData), Fun K "is_key" "is_key" (top 3) fa fd ∧ mg "is_key" = some (.ref fa)) (h1 : ∃ (fa : Addr) (fd : FuncData), Fun K "is_label" "is_label" (top 13) fa fd ∧ mg "is_label" = some (.ref fa)) (h2 : ∃ (fa : Addr) (fd : FuncData), Fun K "is_value" "is_value" (top 14) fa fd ∧ mg "is_value" = some (.ref fa)) (h3 : ∃ (fa : Addr) (fd : FuncData), Fun K "is_sum" "is_sum" (top 15) fa fd ∧ mg "is_sum" = some (.ref fa)) (h4 : ∃ (fa : Addr) (fd : FuncData), Fun K "is_line" "is_line" (top 16) fa fd ∧ mg "is_line" = some (.ref fa)) (h5 : ∃ (fa : Addr) (fd : FuncData), Fun K "are_lines" "are_lines" (top 17) fa fd ∧ mg "are_lines" = some (.ref fa)) (h6 : ∃ (fa : Addr) (fd : FuncData), Fun K "count_lines" "count_lines" (top 18) fa fd ∧ mg "count_lines" = some (.ref fa)) (h7 : ∃ (fa : Addr) (fd : FuncData), Fun K "count_asked" "count_asked" (top 19) fa fd ∧ mg "count_asked" = some (.ref fa)) (h8 : ∃ (fa : Addr) (fd : FuncData), Fun K "is_program" "is_program" (top 20) fa fd ∧ mg "is_program" = some (.ref fa)) (h9 : ∃ (fa : Addr) (fd : FuncData), Fun K "_law_state" "_law_state" (top 25) fa fd ∧ mg "_law_state" = some (.ref fa)) (h10 : ∃ (fa : Addr) (fd : FuncData), Fun K "_law_next" "_law_next" (top 26) fa fd ∧ mg "_law_next" = some (.ref fa)) (h11 : ∃ (fa : Addr) (fd : FuncData), Fun K "_law_keys" "_law_keys" (top 27) fa fd ∧ mg "_law_keys" = some (.ref fa)) (h12 : ∃ (fa : Addr) (fd : FuncData), Fun K "_law_sum" "_law_sum" (top 28) fa fd ∧ mg "_law_sum" = some (.ref fa)) (h13 : ∃ (fa : Addr) (fd : FuncData), Fun K "_law_line" "_law_line" (top 29) fa fd ∧ mg "_law_line" = some (.ref fa)) (h14 : ∃ (fa : Addr) (fd : FuncData), Fun K "_law_lines" "_law_lines" (top 30) fa fd ∧ mg "_law_lines" = some (.ref fa)) (h15 : ∃ (fa : Addr) (fd : FuncData), Fun K "_law_program" "_law_program" (top 31) fa fd ∧ mg "_law_program" = some (.ref fa)) (h16 : ∃ (fa : Addr) (fd : FuncData), Fun K "worth" "worth" (top 21) fa fd ∧ mg "worth" = some (.ref fa)) (h20 : ∃ (fa : Addr) (fd : FuncData), Fun K "alone" "alone" (top 23) fa fd ∧ mg "alone" = some (.ref fa)) (h21 : ∃ (fa : Addr) (fd : FuncData), Fun K "_law_worth" "_law_worth" (top 32) fa fd ∧ mg "_law_worth" = some (.ref fa)) (h22 : ∃ (fa : Addr) (fd : FuncData), Fun K "_law_gone" "_law_gone" (top 33) fa fd ∧ mg "_law_gone" = some (.ref fa)) (h23 : ∃ (fa : Addr) (fd : FuncData), Fun K "_law_alone" "_law_alone" (top 34) fa fd ∧ mg "_law_alone" = some (.ref fa)) (h24 : ∃ (fa : Addr) (fd : FuncData), Fun K "_law_whole_numbers" "_law_whole_numbers" (top 35) fa fd ∧ mg "_law_whole_numbers" = some (.ref fa)) (h25 : ∃ (fa : Addr) (fd : FuncData), Fun K "_law_right" "_law_right" (top 36) fa fd ∧ mg "_law_right" = some (.ref fa)) (h26 : ∃ (fa : Addr) (fd : FuncData), Fun K "law" "law" (top 37) fa fd ∧ mg "law" = some (.ref fa))
    (g0 : ∃ (u : Value) (v : V), mg "LETTERS" = some u ∧ RelV v u ∧ ∀ G μ, RD K G μ (.str "abcdefghijklmnopqrstuvwxyz") v) (g1 : ∃ (u : Value) (v : V), mg "MOST_LETTERS" = some u ∧ RelV v u ∧ ∀ G μ, RD K G μ (.int 4) v) (g2 : ∃ (u : Value) (v : V), mg "KEPT_WORDS" = some u ∧ RelV v u ∧ ∀ G μ, RD K G μ (.tup [(.str "get"), (.str "put"), (.str "let"), (.str "if"), (.str "else"), (.str "fi"), (.str "end"), (.str "drop")]) v) (g3 : ∃ (u : Value) (v : V), mg "VALUES" = some u ∧ RelV v u ∧ ∀ G μ, RD K G μ (.int 1000) v) (g4 : ∃ (u : Value) (v : V), mg "SIGNS" = some u ∧ RelV v u ∧ ∀ G μ, RD K G μ (.tup [(.str "+"), (.str "-"), (.str "*"), (.str "<"), (.str "=")]) v) (g5 : ∃ (u : Value) (v : V), mg "DEEPEST" = some u ∧ RelV v u ∧ ∀ G μ, RD K G μ (.int 4) v) (g6 : ∃ (u : Value) (v : V), mg "MOST_IFS" = some u ∧ RelV v u ∧ ∀ G μ, RD K G μ (.int 3) v) (g7 : ∃ (u : Value) (v : V), mg "LAST_ONES" = some u ∧ RelV v u ∧ ∀ G μ, RD K G μ (.tup [(.tup [(.str "end")]), (.tup [(.str "drop")])]) v) (g8 : ∃ (u : Value) (v : V), mg "MOST_ASKED" = some u ∧ RelV v u ∧ ∀ G μ, RD K G μ (.int 8) v) (g9 : ∃ (u : Value) (v : V), mg "MOST_LINES" = some u ∧ RelV v u ∧ ∀ G μ, RD K G μ (.int 16) v)
    (z0 : mg (Str.ofString "len") = none) (z1 : mg (Str.ofString "all") = none) (z2 : mg (Str.ofString "any") = none) (z3 : mg (Str.ofString "abs") = none) (z4 : mg (Str.ofString "int") = none) (z5 : mg (Str.ofString "str") = none) (z6 : mg (Str.ofString "tuple") = none) (z7 : mg (Str.ofString "list") = none) (z8 : mg (Str.ofString "max") = none) (z9 : mg (Str.ofString "min") = none) (z10 : mg (Str.ofString "sum") = none) (z11 : mg (Str.ofString "bool") = none) (z12 : mg (Str.ofString "dict") = none) (z13 : mg (Str.ofString "range") = none) (z14 : mg (Str.ofString "enumerate") = none) (z15 : mg (Str.ofString "isinstance") = none) (z16 : mg (Str.ofString "sorted") = none)
    {C0 : Addr} (e0 : ClsB K mg "Play" C0)
    (i0 : ∃ (fa : Addr) (fd : FuncData), Fun K "__init__" "Play.__init__" (inClass (top 22) 0) fa fd ∧ Mk K C0 fa)
    (m18 : ∃ (fa : Addr) (fd : FuncData), Fun K "asked" "Play.asked" (inClass (top 22) 1) fa fd ∧ Meth K C0 "asked" fa)
    (m19 : ∃ (fa : Addr) (fd : FuncData), Fun K "answered" "Play.answered" (inClass (top 22) 2) fa fd ∧ Meth K C0 "answered" fa)
    (n0_0 : NoAttr K C0 "boxes")
    (n0_1 : NoAttr K C0 "coming") : TopOk K mg tab gt cls := by
  refine ⟨fun f d hd hq => ?_, fun i nm dv hd => ?_, fun x hx => ?_, fun c hc => ?_⟩
  · match f, hd with
    | 0, hd =>
      have e : some d0 = some d := hd
      cases e
      obtain ⟨fa, fd, F, m⟩ := h0
      exact ⟨fa, fd, F, m, bd0 F⟩
    | 1, hd =>
      have e : some d1 = some d := hd
      cases e
      obtain ⟨fa, fd, F, m⟩ := h1
      exact ⟨fa, fd, F, m, bd1 F⟩
    | 2, hd =>
      have e : some d2 = some d := hd
      cases e
      obtain ⟨fa, fd, F, m⟩ := h2
      exact ⟨fa, fd, F, m, bd2 F⟩
    | 3, hd =>
      have e : some d3 = some d := hd
      cases e
      obtain ⟨fa, fd, F, m⟩ := h3
      exact ⟨fa, fd, F, m, bd3 F⟩
    | 4, hd =>
      have e : some d4 = some d := hd
      cases e
      obtain ⟨fa, fd, F, m⟩ := h4
      exact ⟨fa, fd, F, m, bd4 F⟩
    | 5, hd =>
      have e : some d5 = some d := hd
      cases e
      obtain ⟨fa, fd, F, m⟩ := h5
      exact ⟨fa, fd, F, m, bd5 F⟩
    | 6, hd =>
      have e : some d6 = some d := hd
      cases e
      obtain ⟨fa, fd, F, m⟩ := h6
      exact ⟨fa, fd, F, m, bd6 F⟩
    | 7, hd =>
      have e : some d7 = some d := hd
      cases e
      obtain ⟨fa, fd, F, m⟩ := h7
      exact ⟨fa, fd, F, m, bd7 F⟩
    | 8, hd =>
      have e : some d8 = some d := hd
      cases e
      obtain ⟨fa, fd, F, m⟩ := h8
      exact ⟨fa, fd, F, m, bd8 F⟩
    | 9, hd =>
      have e : some d9 = some d := hd
      cases e
      obtain ⟨fa, fd, F, m⟩ := h9
      exact ⟨fa, fd, F, m, bd9 F⟩
    | 10, hd =>
      have e : some d10 = some d := hd
      cases e
      obtain ⟨fa, fd, F, m⟩ := h10
      exact ⟨fa, fd, F, m, bd10 F⟩
    | 11, hd =>
      have e : some d11 = some d := hd
      cases e
      obtain ⟨fa, fd, F, m⟩ := h11
      exact ⟨fa, fd, F, m, bd11 F⟩
    | 12, hd =>
      have e : some d12 = some d := hd
      cases e
      obtain ⟨fa, fd, F, m⟩ := h12
      exact ⟨fa, fd, F, m, bd12 F⟩
    | 13, hd =>
      have e : some d13 = some d := hd
      cases e
      obtain ⟨fa, fd, F, m⟩ := h13
      exact ⟨fa, fd, F, m, bd13 F⟩
    | 14, hd =>
      have e : some d14 = some d := hd
      cases e
      obtain ⟨fa, fd, F, m⟩ := h14
      exact ⟨fa, fd, F, m, bd14 F⟩
    | 15, hd =>
      have e : some d15 = some d := hd
      cases e
      obtain ⟨fa, fd, F, m⟩ := h15
      exact ⟨fa, fd, F, m, bd15 F⟩
    | 16, hd =>
      have e : some d16 = some d := hd
      cases e
      obtain ⟨fa, fd, F, m⟩ := h16
      exact ⟨fa, fd, F, m, bd16 F⟩
    | 17, hd =>
      have e : some d17 = some d := hd
      cases e
      exact absurd hq (by decide +kernel)
    | 18, hd =>
      have e : some d18 = some d := hd
      cases e
      exact absurd hq (by decide +kernel)
    | 19, hd =>
      have e : some d19 = some d := hd
      cases e
      exact absurd hq (by decide +kernel)
    | 20, hd =>
      have e : some d20 = some d := hd
      cases e
      obtain ⟨fa, fd, F, m⟩ := h20
      exact ⟨fa, fd, F, m, bd20 F⟩
    | 21, hd =>
      have e : some d21 = some d := hd
      cases e
      obtain ⟨fa, fd, F, m⟩ := h21
      exact ⟨fa, fd, F, m, bd21 F⟩
    | 22, hd =>
      have e : some d22 = some d := hd
      cases e
      obtain ⟨fa, fd, F, m⟩ := h22
      exact ⟨fa, fd, F, m, bd22 F⟩
    | 23, hd =>
      have e : some d23 = some d := hd
      cases e
      obtain ⟨fa, fd, F, m⟩ := h23
      exact ⟨fa, fd, F, m, bd23 F⟩
    | 24, hd =>
      have e : some d24 = some d := hd
      cases e
      obtain ⟨fa, fd, F, m⟩ := h24
      exact ⟨fa, fd, F, m, bd24 F⟩
    | 25, hd =>
      have e : some d25 = some d := hd
      cases e
      obtain ⟨fa, fd, F, m⟩ := h25
      exact ⟨fa, fd, F, m, bd25 F⟩
    | 26, hd =>
      have e : some d26 = some d := hd
      cases e
      obtain ⟨fa, fd, F, m⟩ := h26
      exact ⟨fa, fd, F, m, bd26 F⟩
    | n + 27, hd =>
      have e : (none : Option FD) = some d := hd
      cases e
  · match i, hd with
    | 0, hd =>
      have e : some (("LETTERS", (.str "abcdefghijklmnopqrstuvwxyz")) : Str × D) = some (nm, dv) := hd
      cases e
      exact g0
    | 1, hd =>
      have e : some (("MOST_LETTERS", (.int 4)) : Str × D) = some (nm, dv) := hd
      cases e
      exact g1
    | 2, hd =>
      have e : some (("KEPT_WORDS", (.tup [(.str "get"), (.str "put"), (.str "let"), (.str "if"), (.str "else"), (.str "fi"), (.str "end"), (.str "drop")])) : Str × D) = some (nm, dv) := hd
      cases e
      exact g2
    | 3, hd =>
      have e : some (("VALUES", (.int 1000)) : Str × D) = some (nm, dv) := hd
      cases e
      exact g3
    | 4, hd =>
      have e : some (("SIGNS", (.tup [(.str "+"), (.str "-"), (.str "*"), (.str "<"), (.str "=")])) : Str × D) = some (nm, dv) := hd
      cases e
      exact g4
    | 5, hd =>
      have e : some (("DEEPEST", (.int 4)) : Str × D) = some (nm, dv) := hd
      cases e
      exact g5
    | 6, hd =>
      have e : some (("MOST_IFS", (.int 3)) : Str × D) = some (nm, dv) := hd
      cases e
      exact g6
    | 7, hd =>
      have e : some (("LAST_ONES", (.tup [(.tup [(.str "end")]), (.tup [(.str "drop")])])) : Str × D) = some (nm, dv) := hd
      cases e
      exact g7
    | 8, hd =>
      have e : some (("MOST_ASKED", (.int 8)) : Str × D) = some (nm, dv) := hd
      cases e
      exact g8
    | 9, hd =>
      have e : some (("MOST_LINES", (.int 16)) : Str × D) = some (nm, dv) := hd
      cases e
      exact g9
    | n + 10, hd =>
      have e : (none : Option (Str × D)) = some (nm, dv) := hd
      cases e
  · simp only [bltNames, List.mem_cons, List.not_mem_nil, or_false] at hx
    rcases hx with rfl | rfl | rfl | rfl | rfl | rfl | rfl | rfl | rfl | rfl | rfl | rfl | rfl | rfl | rfl | rfl | rfl <;> assumption
  · simp only [cls, List.mem_cons, List.not_mem_nil, or_false] at hc
    rcases hc with rfl
    · obtain ⟨q1, q2, q3⟩ := e0
      subst q1
      refine ⟨q2, q3, fun f hf => ?_, fun p hp => ?_, fun f hf => ?_⟩
      · simp only [c0, List.mem_cons, List.not_mem_nil, or_false] at hf
        rcases hf with rfl | rfl
        · exact n0_0
        · exact n0_1
      · simp only [c0, List.mem_cons, List.not_mem_nil, or_false] at hp
        rcases hp with rfl | rfl
        · obtain ⟨fa, fd, F, M⟩ := m18
          exact ⟨d18, fa, fd, rfl, F, M, bd18 F⟩
        · obtain ⟨fa, fd, F, M⟩ := m19
          exact ⟨d19, fa, fd, rfl, F, M, bd19 F⟩
      · cases hf
        obtain ⟨fa, fd, F, M⟩ := i0
        exact ⟨d17, fa, fd, rfl, F, M, bd17 F⟩
theorem law_bind (K : PySem.W.Frag) (fa : Addr) (fd : FuncData) (F : Fun K d26.nm d26.qn d26.st fa fd) (s : Shared) (u : Value) : BindsTo s fd ⟨[u], []⟩ [("_law_script", u)] := by
  obtain ⟨oc, od, kV, doc, pm, an, cdv, ct, osl, rfl, lk, hcd⟩ := F.ex
  exact .of_eq rfl
end K82
open PySem PySem.W PyProof.Rows in
set_option maxRecDepth 100000 in
set_option maxHeartbeats 0 in
theorem PySem.Challenge.cw_dealcourt_k82_whole_played_alone_holds : PySem.Challenge.rw_dealcourt_k82_whole_played_alone.Holds := by
  w_on; o_law; k_head; (case hw => w_witness2)
  k_fill
  refine DC.law_walk (l := PySem.Challenge.rw_dealcourt_k82_whole_played_alone) (tab := K82.tab) (gt := K82.gt) (cls := K82.cls) (fuel := 200) (n := 63) (f := 26) (d := K82.d26) (x := "_law_script") rfl rfl ⟨rfl, by decide, by decide⟩ (fun w h Y => PySem.W.kIn_of Y) rfl rfl rfl rfl K82.ok ?T K82.law_bind K82.law_true
  case T =>
    intro w mg h KX G
    refine K82.top_mk (C0 := ?C0) ?kh0 ?kh1 ?kh2 ?kh3 ?kh4 ?kh5 ?kh6 ?kh7 ?kh8 ?kh9 ?kh10 ?kh11 ?kh12 ?kh13 ?kh14 ?kh15 ?kh16 ?kh20 ?kh21 ?kh22 ?kh23 ?kh24 ?kh25 ?kh26 ?kg0 ?kg1 ?kg2 ?kg3 ?kg4 ?kg5 ?kg6 ?kg7 ?kg8 ?kg9 ?kz0 ?kz1 ?kz2 ?kz3 ?kz4 ?kz5 ?kz6 ?kz7 ?kz8 ?kz9 ?kz10 ?kz11 ?kz12 ?kz13 ?kz14 ?kz15 ?kz16 ?ke0 ?ki0 ?km18 ?km19 ?kn0_0 ?kn0_1
    (case kh0 => refine' K82.fn_here KX G ?a ?l ?c ?k; (case a => k_is); (case l => k_is); (case c => k_is); (case k => k_is))
    (case kh1 => refine' K82.fn_here KX G ?a ?l ?c ?k; (case a => k_is); (case l => k_is); (case c => k_is); (case k => k_is))
    (case kh2 => refine' K82.fn_here KX G ?a ?l ?c ?k; (case a => k_is); (case l => k_is); (case c => k_is); (case k => k_is))
    (case kh3 => refine' K82.fn_here KX G ?a ?l ?c ?k; (case a => k_is); (case l => k_is); (case c => k_is); (case k => k_is))
    (case kh4 => refine' K82.fn_here KX G ?a ?l ?c ?k; (case a => k_is); (case l => k_is); (case c => k_is); (case k => k_is))
    (case kh5 => refine' K82.fn_here KX G ?a ?l ?c ?k; (case a => k_is); (case l => k_is); (case c => k_is); (case k => k_is))
    (case kh6 => refine' K82.fn_here KX G ?a ?l ?c ?k; (case a => k_is); (case l => k_is); (case c => k_is); (case k => k_is))
    (case kh7 => refine' K82.fn_here KX G ?a ?l ?c ?k; (case a => k_is); (case l => k_is); (case c => k_is); (case k => k_is))
    (case kh8 => refine' K82.fn_here KX G ?a ?l ?c ?k; (case a => k_is); (case l => k_is); (case c => k_is); (case k => k_is))
    (case kh9 => refine' K82.fn_here KX G ?a ?l ?c ?k; (case a => k_is); (case l => k_is); (case c => k_is); (case k => k_is))
    (case kh10 => refine' K82.fn_here KX G ?a ?l ?c ?k; (case a => k_is); (case l => k_is); (case c => k_is); (case k => k_is))
    (case kh11 => refine' K82.fn_here KX G ?a ?l ?c ?k; (case a => k_is); (case l => k_is); (case c => k_is); (case k => k_is))
    (case kh12 => refine' K82.fn_here KX G ?a ?l ?c ?k; (case a => k_is); (case l => k_is); (case c => k_is); (case k => k_is))
    (case kh13 => refine' K82.fn_here KX G ?a ?l ?c ?k; (case a => k_is); (case l => k_is); (case c => k_is); (case k => k_is))
    (case kh14 => refine' K82.fn_here KX G ?a ?l ?c ?k; (case a => k_is); (case l => k_is); (case c => k_is); (case k => k_is))
    (case kh15 => refine' K82.fn_here KX G ?a ?l ?c ?k; (case a => k_is); (case l => k_is); (case c => k_is); (case k => k_is))
    (case kh16 => refine' K82.fn_here KX G ?a ?l ?c ?k; (case a => k_is); (case l => k_is); (case c => k_is); (case k => k_is))
    (case kh20 => refine' K82.fn_here KX G ?a ?l ?c ?k; (case a => k_is); (case l => k_is); (case c => k_is); (case k => k_is))
    (case kh21 => refine' K82.fn_here KX G ?a ?l ?c ?k; (case a => k_is); (case l => k_is); (case c => k_is); (case k => k_is))
    (case kh22 => refine' K82.fn_here KX G ?a ?l ?c ?k; (case a => k_is); (case l => k_is); (case c => k_is); (case k => k_is))
    (case kh23 => refine' K82.fn_here KX G ?a ?l ?c ?k; (case a => k_is); (case l => k_is); (case c => k_is); (case k => k_is))
    (case kh24 => refine' K82.fn_here KX G ?a ?l ?c ?k; (case a => k_is); (case l => k_is); (case c => k_is); (case k => k_is))
    (case kh25 => refine' K82.fn_here KX G ?a ?l ?c ?k; (case a => k_is); (case l => k_is); (case c => k_is); (case k => k_is))
    (case kh26 => refine' K82.fn_here KX G ?a ?l ?c ?k; (case a => k_is); (case l => k_is); (case c => k_is); (case k => k_is))
    (case kg0 => refine' K82.gl0 KX G ?a ; (case a => k_is))
    (case kg1 => refine' K82.gl1 KX G ?a ; (case a => k_is))
    (case kg2 => refine' K82.gl2 KX G ?a ?l0; (case a => k_is); (case l0 => k_is))
    (case kg3 => refine' K82.gl3 KX G ?a ; (case a => k_is))
    (case kg4 => refine' K82.gl4 KX G ?a ?l0; (case a => k_is); (case l0 => k_is))
    (case kg5 => refine' K82.gl5 KX G ?a ; (case a => k_is))
    (case kg6 => refine' K82.gl6 KX G ?a ; (case a => k_is))
    (case kg7 => refine' K82.gl7 KX G ?a ?l0 ?l1 ?l2; (case a => k_is); (case l0 => k_is); (case l1 => k_is); (case l2 => k_is))
    (case kg8 => refine' K82.gl8 KX G ?a ; (case a => k_is))
    (case kg9 => refine' K82.gl9 KX G ?a ; (case a => k_is))
    (case kz0 => refine' PySem.W.mg_none_of KX G ?z; (case z => k_is))
    (case kz1 => refine' PySem.W.mg_none_of KX G ?z; (case z => k_is))
    (case kz2 => refine' PySem.W.mg_none_of KX G ?z; (case z => k_is))
    (case kz3 => refine' PySem.W.mg_none_of KX G ?z; (case z => k_is))
    (case kz4 => refine' PySem.W.mg_none_of KX G ?z; (case z => k_is))
    (case kz5 => refine' PySem.W.mg_none_of KX G ?z; (case z => k_is))
    (case kz6 => refine' PySem.W.mg_none_of KX G ?z; (case z => k_is))
    (case kz7 => refine' PySem.W.mg_none_of KX G ?z; (case z => k_is))
    (case kz8 => refine' PySem.W.mg_none_of KX G ?z; (case z => k_is))
    (case kz9 => refine' PySem.W.mg_none_of KX G ?z; (case z => k_is))
    (case kz10 => refine' PySem.W.mg_none_of KX G ?z; (case z => k_is))
    (case kz11 => refine' PySem.W.mg_none_of KX G ?z; (case z => k_is))
    (case kz12 => refine' PySem.W.mg_none_of KX G ?z; (case z => k_is))
    (case kz13 => refine' PySem.W.mg_none_of KX G ?z; (case z => k_is))
    (case kz14 => refine' PySem.W.mg_none_of KX G ?z; (case z => k_is))
    (case kz15 => refine' PySem.W.mg_none_of KX G ?z; (case z => k_is))
    (case kz16 => refine' PySem.W.mg_none_of KX G ?z; (case z => k_is))
    (case ke0 => refine' DC.cls_here KX G ?a ?pg ?hd ?po ?sa; (case a => k_is); (case pg => k_is); (case hd => k_is); (case po => k_is); (case sa => k_is))
    (case ki0 => refine' DC.init_here KX G ?f ?i ?l ?c ?k ?mk ?kc; (case f => k_is); (case i => k_is); (case l => k_is); (case c => k_is); (case k => k_is); (case mk => k_is); (case kc => k_is))
    (case km18 => refine' DC.meth_here KX G ?f ?i ?l ?c ?k ; (case f => k_is); (case i => k_is); (case l => k_is); (case c => k_is); (case k => k_is))
    (case km19 => refine' DC.meth_here KX G ?f ?i ?l ?c ?k ; (case f => k_is); (case i => k_is); (case l => k_is); (case c => k_is); (case k => k_is))
    (case kn0_0 => refine' K82.no_at ?z; (case z => k_is))
    (case kn0_1 => refine' K82.no_at ?z; (case z => k_is))

